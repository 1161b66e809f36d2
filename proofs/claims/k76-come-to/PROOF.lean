import PyProof.Rows.All
import Wide.All
import OpenK.AllK
import Wide.FinOn
import HandS.ForMost
import HandS.ForExc
import HandS.Wide
import HandS.TupAny
import HandS.TupMul
import HandS.IsInst
import HandS.Deep
import HandS.CallSlots
import KE.KxIndex
import PyProof.ListStr
import HandS.More
import PyProof.StrLawsFirst
import HandS.Ends
import HandS.ExcCtx
import HandS.ExcIs
import HandS.SuiteRaise
import HandS.TryMany
import HandS.Dict
import HandS.SetKeys
import HandS.SortInts
import PyProof.Rows.SortShellAny
import HandS.Style
import HandS.Defaults
import HandS.Iter
import HandS.List
import HandS.WideBits
import KE.SortData
import KE.KeyNested
import KE.KDictKeyed
import KE.KDictSum
import KE.KDictCopyH
import HandS.Rev
import PySem.Challenge.RW_padwright_k76_whole_all_that_is_come_to
set_option Elab.async false
section
set_option linter.all false
/-! Dm, the mirror machine: plain data and what a program does with it. No Python, no heap. -/
namespace Dm
noncomputable section

/-- kinds of sequences: a list that may be shared, a list that is only read (the script, a module's), a tuple -/
inductive SK where
  | lst | rol | tup
  deriving DecidableEq, Repr
inductive D where
  | non | bl (b : Bool) | int (i : Int) | str (s : List Nat) | seq (k : SK) (xs : List D) | obj (C : String) (ns : List String) (vs : List D)
  | dic (ks vs : List D) | dit (ks vs : List D)
/-- what a thing of one's own is: a list, a dict, an object -/
inductive OwK where
  | lst | dic (ks : List D) | ins (C : String) (ns : List String) | dit (ks : List D)
def OwK.asD : OwK → List D → D
  | .lst, ds => .seq .lst ds
  | .dic ks, ds => .dic ks ds
  | .ins C ns, ds => .obj C ns ds
  | .dit ks, ds => .dit ks ds
/-- a slot: nothing, plain data, a thing of its own, an exception at hand -/
inductive Sl where
  | no | fz (d : D) | oo (k : OwK) (ds : List D) | ex (C : String)
abbrev Sl.ow (ds : List D) : Sl := .oo .lst ds
/-- how a value may be kept: as it is; the very list of slot i; a new list -/
inductive Tg where
  | cl | own (i : Nat) | fr
/-- a result -/
inductive Res (α : Type) where
  | ok (a : α) | ex (C : String) | bad
def Res.bind {α β : Type} : Res α → (α → Res β) → Res β
  | .ok a, f => f a
  | .ex C, _ => .ex C
  | .bad, _ => .bad
@[simp] theorem Res.bind_ok {α β : Type} (a : α) (f : α → Res β) : (Res.ok a).bind f = f a := id rfl
@[simp] theorem Res.bind_ex {α β : Type} (C : String) (f : α → Res β) : (Res.ex C : Res α).bind f = .ex C := id rfl
@[simp] theorem Res.bind_bad {α β : Type} (f : α → Res β) : (Res.bad : Res α).bind f = .bad := id rfl
abbrev Val := D × Tg
abbrev Rho := List Sl
abbrev EM := Rho → Res Val
abbrev AM := Rho → Res (List Val)
abbrev TM := Rho → Res Bool

/-- scalar data -/
def D.sc : D → Bool
  | .non | .bl _ | .int _ | .str _ => true
  | _ => false
/-- a sealed thing: the kernel cannot look into it -/
def shut {α : Type} (x : α) : { y : α // y = x } := Classical.choice ⟨⟨x, rfl⟩⟩
def lim : Nat := (shut 16777216).1
/-- turns that a while may take -/
def fuel : Nat := (shut (2 ^ 100000)).1
theorem fuel_of {n : Nat} (k : Nat) (h : n < 2 ^ k) (hk : k ≤ 100000 := by decide) : n < fuel := (show fuel = 2 ^ 100000 from (shut _).2) ▸ Nat.lt_of_lt_of_le h (Nat.pow_le_pow_right (by decide) hk)
theorem lim_def : lim = 16777216 := (shut 16777216).2
/-- a slice's bound as a place among n -/
def sIx (n d : Nat) : Option Int → Nat
  | none => d
  | some v => if v < 0 then (v + (n : Int)).toNat else min v.toNat n
def cutL {α : Type} (xs : List α) (lo hi : Option Int) : List α := (xs.drop (sIx xs.length 0 lo)).take (sIx xs.length xs.length hi - sIx xs.length 0 lo)
def ixN (n : Nat) (i : Int) : Option Nat := if 0 ≤ i then (if i < n then some i.toNat else none) else if -(n : Int) ≤ i then some (i + n).toNat else none
def atI {α : Type} (xs : List α) (i : Int) : Option α := (ixN xs.length i).bind fun j => xs[j]?

/-- whole numbers, and tuples of such -/
def D.tk : Nat → D → Bool
  | _, .int _ => true
  | n + 1, .seq .tup xs => xs.all (D.tk n)
  | _, _ => false
/-- what may be a key of a dict whose keys are tuples -/
def D.tkey : D → Bool
  | .seq .tup xs => D.tk 8 (.seq .tup xs)
  | _ => false
/-! ### equality -/
mutual
def D.eqv : D → D → Bool
  | .non, .non => true
  | .bl a, .bl b => a == b
  | .bl a, .int j => (if a then 1 else 0) == j
  | .int i, .bl b => i == (if b then 1 else 0)
  | .int i, .int j => i == j
  | .str x, .str y => x == y
  | .seq k xs, .seq l ys => ((k == .tup) == (l == .tup)) && D.eqvs xs ys
  | _, _ => false
def D.eqvs : List D → List D → Bool
  | [], [] => true
  | x :: xs, y :: ys => D.eqv x y && D.eqvs xs ys
  | _, _ => false
end
/-- data that may be compared: texts of signs, not too deep -/
def D.lay : Nat → D → Bool
  | _, .non | _, .bl _ | _, .int _ => true
  | _, .str s => s.all (· < 1114112)
  | n + 1, .seq _ xs => xs.all (D.lay n)
  | _, _ => false
def dEqS : D → D → Option Bool
  | .non, .non => some true
  | .bl a, .bl b => some (a == b)
  | .int i, .int j => some (i == j)
  | .str s, .str t => some (s == t)
  | .non, .int _ | .int _, .non | .non, .bl _ | .bl _, .non | .non, .str _ | .str _, .non | .int _, .str _ | .str _, .int _ | .bl _, .str _ | .str _, .bl _ => some false
  | _, _ => none
def dEqB (x y : D) : Res Bool := match dEqS x y with
  | some b => .ok b
  | none => if D.lay 12 x && D.lay 12 y then .ok (D.eqv x y) else .bad
def dEq (x y : D) : Res D := (dEqB x y).bind fun b => .ok (.bl b)
def dNe (x y : D) : Res D := (dEqB x y).bind fun b => .ok (.bl (!b))

/-! ### operators: what comes of two data -/
abbrev Op2 := D → D → Res (D × Tg)
@[simp] def sOk (d : D) : Res (D × Tg) := .ok (d, .cl)
def oAdd : Op2
  | .int i, .int j => sOk (.int (i + j))
  | .str s, .str t => if s.length + t.length ≤ lim then sOk (.str (s ++ t)) else .bad
  | .seq .lst xs, .seq .lst ys => if xs.length + ys.length ≤ lim then .ok (.seq .lst (xs ++ ys), .fr) else .bad
  | .seq .tup xs, .seq .tup ys => if xs.length + ys.length ≤ lim then sOk (.seq .tup (xs ++ ys)) else .bad
  | _, _ => .bad
def oSub : Op2
  | .int i, .int j => sOk (.int (i - j))
  | _, _ => .bad
def lg2 (i j : Int) : Bool := decide (i.natAbs.log2 + j.natAbs.log2 < 1000000)
def lg : Int → Nat → Bool := (shut fun i n => decide (i.natAbs.log2 < n)).1
theorem lg_def (i : Int) (n : Nat) : lg i n = decide (i.natAbs.log2 < n) := congrFun (congrFun (show lg = _ from (shut _).2) i) n
def mulOk : Int → Int → Bool := (shut fun i j => decide (i.natAbs < 18446744073709551616) || decide (j.natAbs < 18446744073709551616) || lg2 i j).1
theorem mulOk_def (i j : Int) : mulOk i j = (decide (i.natAbs < 18446744073709551616) || decide (j.natAbs < 18446744073709551616) || lg2 i j) := congrFun (congrFun (show mulOk = _ from (shut _).2) i) j
def oMul : Op2
  | .int i, .int j => if mulOk i j then sOk (.int (i * j)) else .bad
  | .str s, .int k => if decide (s.length * k.toNat ≤ lim) && decide (-9223372036854775808 ≤ k) && decide (k < 9223372036854775808) then sOk (.str (List.replicate k.toNat s).flatten) else .bad
  | .seq .lst xs, .int k => if decide (-9223372036854775808 ≤ k) && decide (k < 9223372036854775808) && decide (xs.length * k.toNat ≤ lim) then .ok (.seq .lst (List.replicate k.toNat xs).flatten, .fr) else .bad
  | _, _ => .bad
def fdivI (i j : Int) : Int := if 0 < j then i / j else i.fdiv j
def fmodI (i j : Int) : Int := if 0 < j then i % j else i.fmod j
def oFdiv : Op2
  | .int i, .int j => if decide (j ≠ 0) && lg j 9000 then sOk (.int (fdivI i j)) else .bad
  | _, _ => .bad
def oMod : Op2
  | .int i, .int j => if decide (j ≠ 0) then sOk (.int (fmodI i j)) else .bad
  | _, _ => .bad
def oPow : Op2
  | .int i, .int j => if decide (0 ≤ j) && decide (j ≤ 1000000) && decide (i.natAbs < 18446744073709551616) then sOk (.int (i ^ j.toNat)) else .bad
  | _, _ => .bad
def oShr : Op2
  | .int i, .int j => if decide (0 ≤ j) then sOk (.int (i / 2 ^ j.toNat)) else .bad
  | _, _ => .bad
/-- i & 1 -/
def oAnd : Op2
  | .int i, .int j => if j = 1 then sOk (.int (i % 2)) else .bad
  | _, _ => .bad
/-! comparisons -/
def ltL : List Nat → List Nat → Bool := fun s t => decide (s < t)
def cLt : D → D → Res Bool
  | .int i, .int j => .ok (decide (i < j))
  | .str s, .str t => .ok (ltL s t)
  | _, _ => .bad
def cLe : D → D → Res Bool
  | .int i, .int j => .ok (decide (i ≤ j))
  | .str s, .str t => .ok (!ltL t s)
  | _, _ => .bad
def cGt : D → D → Res Bool
  | .int i, .int j => .ok (decide (j < i))
  | .str s, .str t => .ok (ltL t s)
  | _, _ => .bad
def cGe : D → D → Res Bool
  | .int i, .int j => .ok (decide (j ≤ i))
  | .str s, .str t => .ok (!ltL s t)
  | _, _ => .bad
@[simp] def cEq : D → D → Res Bool := dEqB
def cNe : D → D → Res Bool := fun x y => (dEqB x y).bind fun b => .ok (!b)
def cIsN : D → D → Res Bool
  | x, .non => .ok (match x with | .non => true | _ => false)
  | _, _ => .bad
def cNotN : D → D → Res Bool
  | x, .non => .ok (match x with | .non => false | _ => true)
  | _, _ => .bad
/-- is, is not: of truths -/
def cIsB : D → D → Res Bool
  | .bl a, .bl b => .ok (decide (a = b))
  | _, _ => .bad
def cNotB : D → D → Res Bool
  | .bl a, .bl b => .ok (!decide (a = b))
  | _, _ => .bad
/-- one sign in a text; data in a list or a tuple -/
@[simp] def inB (x : D) (xs : List D) : Bool := xs.any fun y => D.eqv y x
def cIn : D → D → Res Bool
  | .str [c], .str t => .ok (decide (c ∈ t))
  | x, .seq k xs => if (x.sc && xs.all D.sc) || (!(k == .tup) && D.lay 11 x && xs.all (D.lay 11)) then .ok (inB x xs) else .bad
  | _, _ => .bad
def cNotIn : D → D → Res Bool := fun x y => (cIn x y).bind fun b => .ok (!b)

/-! ### expressions -/
def mC (d : D) : EM := fun _ => .ok (d, .cl)
def mV (i : Nat) : EM := fun ρ => match ρ[i]? with
  | some (.fz d) => .ok (d, .cl)
  | some (.oo k ds) => .ok (k.asD ds, .own i)
  | _ => .bad
def mB (f : Op2) (a b : EM) : EM := fun ρ => (a ρ).bind fun x => (b ρ).bind fun y => f x.1 y.1
def mCmp (f : D → D → Res Bool) (a b : EM) : EM := fun ρ => (a ρ).bind fun x => (b ρ).bind fun y => (f x.1 y.1).bind fun k => .ok (.bl k, .cl)
def mChain (f g : D → D → Res Bool) (a b c : EM) : EM := fun ρ => (a ρ).bind fun x => (b ρ).bind fun y => (f x.1 y.1).bind fun k => if k then (c ρ).bind fun z => (g y.1 z.1).bind fun l => .ok (.bl l, .cl) else .ok (.bl false, .cl)
def mNeg (a : EM) : EM := fun ρ => (a ρ).bind fun x => match x.1 with
  | .int i => .ok (.int (-i), .cl)
  | _ => .bad
def D.isB : D → Res Bool
  | .bl b => .ok b
  | _ => .bad
/-- and, or, not as values: of truths -/
def mAnd (a b : EM) : EM := fun ρ => (a ρ).bind fun x => x.1.isB.bind fun k => if k then b ρ else .ok (.bl false, .cl)
def mOr (a b : EM) : EM := fun ρ => (a ρ).bind fun x => x.1.isB.bind fun k => if k then .ok (.bl true, .cl) else b ρ
def mNot (a : EM) : EM := fun ρ => (a ρ).bind fun x => x.1.isB.bind fun k => .ok (.bl (!k), .cl)
/-! tests -/
def D.tru : D → Res Bool
  | .non => .ok false
  | .bl b => .ok b
  | .int i => .ok (i != 0)
  | .str s => if s.length ≤ lim then .ok (!s.isEmpty) else .bad
  | .seq _ xs => .ok (!xs.isEmpty)
  | _ => .bad
def mT (a : EM) : TM := fun ρ => (a ρ).bind fun x => x.1.tru
def mTB (a : EM) : TM := fun ρ => (a ρ).bind fun x => x.1.isB
def tmAnd (a b : TM) : TM := fun ρ => (a ρ).bind fun k => if k then b ρ else .ok false
def tmOr (a b : TM) : TM := fun ρ => (a ρ).bind fun k => if k then .ok true else b ρ
def tmNot (a : TM) : TM := fun ρ => (a ρ).bind fun k => .ok (!k)
def mIf (t : TM) (a b : EM) : EM := fun ρ => (t ρ).bind fun k => if k then a ρ else b ρ
/-! places -/
def dIx : D → D → Res D
  | .seq _ xs, .int i => match atI xs i with
    | some d => .ok d
    | none => .bad
  | .str s, .int i => if s.length ≤ lim then (match atI s i with
    | some c => .ok (.str [c])
    | none => .bad) else .bad
  | _, _ => .bad
def mIx (a b : EM) : EM := fun ρ => (a ρ).bind fun x => (b ρ).bind fun y => (dIx x.1 y.1).bind fun d => .ok (d, .cl)
abbrev OM := Rho → Res (Option Int)
def mNoP : OM := fun _ => .ok none
def mPart (a : EM) : OM := fun ρ => (a ρ).bind fun x => match x.1 with
  | .int i => .ok (some i)
  | _ => .bad
def dCut : D → Option Int → Option Int → Res (D × Tg)
  | .str s, lo, hi => if s.length ≤ lim then .ok (.str (cutL s lo hi), .cl) else .bad
  | .seq .tup xs, lo, hi => if sIx xs.length 0 lo = 0 ∧ sIx xs.length xs.length hi = xs.length then .bad else .ok (.seq .tup (cutL xs lo hi), .cl)
  | .seq _ xs, lo, hi => .ok (.seq .lst (cutL xs lo hi), .fr)
  | _, _, _ => .bad
def mCut (a : EM) (lo hi : OM) : EM := fun ρ => (a ρ).bind fun x => (lo ρ).bind fun l => (hi ρ).bind fun h => dCut x.1 l h
/-- every k-th of them, from the place a on -/
def stepL (s : List Nat) (a k : Nat) : List Nat := (List.range ((s.length - a + k - 1) / k)).filterMap fun j => s[a + k * j]?
/-- s[a::k] of a text, a from 0 on, k above 0 -/
def mStep (e lo st : EM) : EM := fun ρ => (e ρ).bind fun x => match x.1 with
  | .str s => (lo ρ).bind fun y => (match y.1 with
    | .int a => (st ρ).bind fun z => (match z.1 with
      | .int k => if decide (s.length ≤ lim) && decide (0 ≤ a) && decide (0 < k) then .ok (.str (stepL s a.toNat k.toNat), .cl) else .bad
      | _ => .bad)
    | _ => .bad)
  | _ => .bad
/-- s[::-1] of a text -/
def mRevS (a : EM) : EM := fun ρ => (a ρ).bind fun x => match x.1 with
  | .str s => if s.length ≤ lim then .ok (.str s.reverse, .cl) else .bad
  | _ => .bad
/-! displays and calls -/
def amNil : AM := fun _ => .ok []
def amCons (a : EM) (r : AM) : AM := fun ρ => (a ρ).bind fun x => (r ρ).bind fun xs => .ok (x :: xs)
@[simp] def Tg.free : Tg → Bool
  | .own _ => false
  | _ => true
/-- a list of items that may be kept -/
def kept (xs : List Val) : Res (List D) := if xs.all (fun x => x.2.free || x.1.sc) then .ok (xs.map (·.1)) else .bad
def mTup (a : AM) : EM := fun ρ => (a ρ).bind fun xs => (kept xs).bind fun ds => if ds.length ≤ lim then .ok (.seq .tup ds, .cl) else .bad
def mLst (a : AM) : EM := fun ρ => (a ρ).bind fun xs => (kept xs).bind fun ds => if ds.length ≤ lim then .ok (.seq .lst ds, .fr) else .bad
/-- what a def does: its result, whether that is a new list -/
abbrev FM := List D → Res (D × Bool)
/-- list(e): a new list -/
def mLstOf : D → Res Val
  | .seq _ ds => .ok (.seq .lst ds, .fr)
  | .str s => if s.length ≤ lim then .ok (.seq .lst (s.map fun c => .str [c]), .fr) else .bad
  | _ => .bad
def mList1 : List Val → Res Val
  | [x] => mLstOf x.1
  | _ => .bad
def mList (a : AM) : EM := fun ρ => (a ρ).bind mList1
/-- sorted(e), of whole numbers, of texts -/
def intsOf : List D → Option (List Int)
  | [] => some []
  | .int i :: ds => (intsOf ds).map (i :: ·)
  | _ => none
def leI (i j : Int) : Bool := decide (i ≤ j)
/-- the texts of a list of texts -/
def strsOf : List D → Option (List (List Nat))
  | [] => some []
  | .str s :: ds => (strsOf ds).map (s :: ·)
  | _ => none
def leS (s t : List Nat) : Bool := decide (¬ t < s)
def mSortOf : D → Res Val
  | .seq .tup _ => .bad
  | .seq _ ds => (match intsOf ds with
    | some ns => .ok (.seq .lst ((ns.mergeSort leI).map .int), .fr)
    | none => (match strsOf ds with
      | some ts => .ok (.seq .lst ((ts.mergeSort leS).map .str), .fr)
      | none => .bad))
  | _ => .bad
def mSort1 : List Val → Res Val
  | [x] => mSortOf x.1
  | _ => .bad
def mSorted (a : AM) : EM := fun ρ => (a ρ).bind mSort1
def mCall (g : FM) (a : AM) : EM := fun ρ => (a ρ).bind fun xs => (g (xs.map (·.1))).bind fun r =>
  if r.1.sc then .ok (r.1, .cl) else if xs.all (fun x => x.2.free || x.1.sc) then .ok (r.1, if r.2 then .fr else .cl) else .bad
/-- a built-in, by its data: a plain result -/
def mBlt (f : List D → Res D) (a : AM) : EM := fun ρ => (a ρ).bind fun xs => (f (xs.map (·.1))).bind fun d => .ok (d, .cl)
def bLen : List D → Res D
  | [.seq _ xs] => .ok (.int xs.length)
  | [.str s] => if s.length ≤ lim then .ok (.int s.length) else .bad
  | _ => .bad
def bAbs : List D → Res D
  | [.int i] => .ok (.int (if i < 0 then -i else i))
  | _ => .bad
def bMax : List D → Res D
  | [.int i, .int j] => .ok (.int (if j > i then j else i))
  | _ => .bad
def bMin : List D → Res D
  | [.int i, .int j] => .ok (.int (if j < i then j else i))
  | _ => .bad
def bInt : List D → Res D
  | [.int i] => .ok (.int i)
  | [.bl b] => .ok (.int (if b then 1 else 0))
  | _ => .bad
/-- the figures of a number, as str tells them -/
def decI (i : Int) : List Nat := (toString i).toList.map Char.toNat
def bStr : List D → Res D
  | [.int i] => if lg i 1920 then .ok (.str (decI i)) else .bad
  | _ => .bad
def bDivmod : List D → Res D
  | [.int i, .int j] => if decide (0 < j) && decide (j < 1073741824) then .ok (.seq .tup [.int (i / j), .int (i % j)]) else .bad
  | _ => .bad
/-- the built-in type's name -/
def D.tn : D → String
  | .non => "NoneType"
  | .bl _ => "bool"
  | .int _ => "int"
  | .str _ => "str"
  | .seq .tup _ => "tuple"
  | .seq _ _ => "list"
  | .dic _ _ => "dict"
  | .dit _ _ => "dict"
  | .obj C _ _ => ""
/-- isinstance by the names of built-in types -/
@[simp] def isT (t T : String) : Bool := t == T || (t == "bool" && T == "int")
def mIs (T : String) (a : EM) : EM := fun ρ => (a ρ).bind fun x => match x.1 with
  | .obj _ _ _ => .bad
  | .dit _ _ => .bad
  | d => .ok (.bl (isT d.tn T), .cl)
/-- text methods -/
def findL (s : List Nat) (c : Nat) : Int := match s.findIdx? (· == c) with
  | some i => i
  | none => -1
/-- a method of a text -/
def mS0 (f : List Nat → Res (D × Tg)) (a : EM) : EM := fun ρ => (a ρ).bind fun x => match x.1 with
  | .str s => f s
  | _ => .bad
def mS1 (f : List Nat → D → Res (D × Tg)) (a b : EM) : EM := fun ρ => (a ρ).bind fun x => match x.1 with
  | .str s => (b ρ).bind fun y => f s y.1
  | _ => .bad
def fFind : List Nat → D → Res (D × Tg)
  | s, .str [c] => sOk (.int (findL s c))
  | _, _ => .bad
def fStarts : List Nat → D → Res (D × Tg)
  | s, .str t => sOk (.bl (s.take t.length == t))
  | _, _ => .bad
def fEnds : List Nat → D → Res (D × Tg)
  | s, .str t => sOk (.bl (decide (t.length ≤ s.length) && (s.drop (s.length - t.length) == t)))
  | _, _ => .bad
/-- "".join(xs) -/
def fJoin : List Nat → D → Res (D × Tg)
  | [], .seq _ ds => (match strsOf ds with
    | some ts => if ts.flatten.length ≤ lim then sOk (.str ts.flatten) else .bad
    | none => .bad)
  | _, _ => .bad
/-- xs.index(s) of a list of texts -/
def D.isS : D → Bool
  | .str _ => true
  | _ => false
def mIdx (a b : EM) : EM := fun ρ => (a ρ).bind fun x => match x.1 with
  | .seq .lst ds => (b ρ).bind fun y => (match y.1 with
    | .str s => if ds.all D.isS && decide (ds.length ≤ lim) then (match ds.findIdx? fun d => D.eqv d (.str s) with
      | some j => .ok (.int j, .cl)
      | none => .bad) else .bad
    | _ => .bad)
  | _ => .bad
/-- an item of a dict, by its key -/
def dFind : List D → List D → D → Option D
  | k :: ks, d :: ds, y => if D.eqv k y then some d else dFind ks ds y
  | _, _, _ => none
/-- what may be a key -/
def D.key : D → Bool
  | .int _ | .str _ => true
  | _ => false
def dGet : D → D → Res D
  | .dic ks vs, y => if y.key then (match dFind ks vs y with
    | some d => .ok d
    | none => .bad) else .bad
  | _, _ => .bad
/-- d[y] = z -/
def dPut : List D → List D → D → D → List D × List D
  | k :: ks, d :: ds, y, z => if D.eqv k y then (k :: ks, z :: ds) else (k :: (dPut ks ds y z).1, d :: (dPut ks ds y z).2)
  | _, _, y, z => ([y], [z])
/-- an item of a module's dict -/
def mDix (ks : List (List Nat)) (ds : List D) (a : EM) : EM := fun ρ => (a ρ).bind fun y => (dGet (.dic (ks.map .str) ds) y.1).bind fun d => .ok (d, .cl)
/-- o[k]: a place, or a key of a dict -/
def mIxD (a b : EM) : EM := fun ρ => (a ρ).bind fun x => (b ρ).bind fun y => (dGet x.1 y.1).bind fun d => .ok (d, .cl)
/-- a new dict -/
def mD0 : EM := fun _ => .ok (.dic [] [], .fr)
/-- {k: v, ..} of written keys -/
def mDisp (ks : List D) (a : AM) : EM := fun ρ => (a ρ).bind fun xs => (kept xs).bind fun ds => if ds.length = ks.length then .ok (.dic ks ds, .fr) else .bad

/-- k in d -/
def dIn : D → D → Res Bool
  | y, .dic ks vs => if y.key then .ok (dFind ks vs y).isSome else .bad
  | _, _ => .bad
def dNotIn : D → D → Res Bool := fun y x => (dIn y x).bind fun b => .ok (!b)
/-- d.get(k, e) -/
def mGet2 (a b c : EM) : EM := fun ρ => (a ρ).bind fun x => match x.1 with
  | .dic ks vs => (b ρ).bind fun y => (c ρ).bind fun z => if y.1.key && (z.2.free || z.1.sc) then .ok ((dFind ks vs y.1).getD z.1, .cl) else .bad
  | _ => .bad

def noEx {α : Type} : Res α → Res α
  | .ok a => .ok a
  | _ => .bad
/-! objects -/
def fGet : List String → List D → String → Option D
  | n :: ns, d :: ds, f => if n = f then some d else fGet ns ds f
  | _, _, _ => none
/-- o.f of an object of one of the classes Cs -/
def mFld (Cs : List String) (f : String) (a : EM) : EM := fun ρ => (a ρ).bind fun x => match x.1 with
  | .obj C ns ds => if Cs.contains C then (match fGet ns ds f with
    | some d => .ok (d, .cl)
    | none => .bad) else .bad
  | _ => .bad
/-- o.m(..): by the class of o -/
def mMeth (tbl : List (String × FM)) (m : String) (o : EM) (am : AM) : EM := fun ρ => (noEx (o ρ)).bind fun x => match x.1 with
  | .obj C ns ds => if fGet ns ds m = none then (match tbl.lookup C with
    | some g => (am ρ).bind fun xs => (g (x.1 :: xs.map (·.1))).bind fun r => if r.1.sc then .ok (r.1, .cl) else if (x :: xs).all (fun x => x.2.free || x.1.sc) then .ok (r.1, if r.2 then .fr else .cl) else .bad
    | none => .bad) else .bad
  | _ => .bad
/-- isinstance(x, C): U the classes that are known, cs those under C -/
def mIsC (U cs : List String) (a : EM) : EM := fun ρ => (a ρ).bind fun x => match x.1 with
  | .obj C _ _ => if U.contains C then .ok (.bl (cs.contains C), .cl) else .bad
  | .dit _ _ => .bad
  | _ => .ok (.bl false, .cl)

/-- isinstance(x, C) of an object -/
def mIsO (U cs : List String) (a : EM) : EM := fun ρ => (a ρ).bind fun x => match x.1 with
  | .obj C _ _ => if U.contains C then .ok (.bl (cs.contains C), .cl) else .bad
  | _ => .bad

def rgOk : Int → Bool := (shut fun i => decide (-4611686018427387904 ≤ i) && decide (i < 4611686018427387904)).1
theorem rgOk_def (i : Int) : rgOk i = (decide (-4611686018427387904 ≤ i) && decide (i < 4611686018427387904)) := congrFun (show rgOk = _ from (shut _).2) i

/-! how an object is made: its fields, laid in turn -/
abbrev IM := Rho → List String → List D → Res (List String × List D)
abbrev IF := List D → List String → List D → Res (List String × List D)
def setF : List String → List D → String → D → List String × List D
  | n :: ns, d :: ds, f, z => if n = f then (n :: ns, z :: ds) else (n :: (setF ns ds f z).1, d :: (setF ns ds f z).2)
  | _, _, f, z => ([f], [z])
def imNil : IM := fun _ ns es => .ok (ns, es)
def imFld (f : String) (a : EM) (r : IM) : IM := fun ρ ns es => (noEx (a ρ)).bind fun x => if (x.2.free || x.1.sc) && decide (ns.length < 900) then r ρ (setF ns es f x.1).1 (setF ns es f x.1).2 else .bad
def imBase (g : IF) (a : AM) (r : IM) : IM := fun ρ ns es => (noEx (a ρ)).bind fun xs => (kept xs).bind fun ds => (noEx (g ds ns es)).bind fun p => r ρ p.1 p.2
def mInit (np : Nat) (b : IM) : IF := fun ds ns es => if ds.length = np then noEx (b (.no :: ds.map .fz) ns es) else .bad
/-- C(..) -/
def mMake (C : String) (g : IF) (am : AM) : EM := fun ρ => (am ρ).bind fun xs => (kept xs).bind fun ds => (noEx (g ds [] [])).bind fun p => .ok (.obj C p.1 p.2, .fr)

/-- an __init__ whose first argument is a list of the caller's own, only read -/
def mInitB (np : Nat) (b : IM) : IF := fun ds ns es => match ds with
  | .seq .lst es0 :: ds' => if ds'.length + 1 = np then noEx (b (.no :: .oo .lst es0 :: ds'.map .fz) ns es) else .bad
  | _ => .bad
/-- C(x, ..), x the very list of a slot, of scalars -/
def mMakeB (C : String) (g : IF) (a : EM) (am : AM) : EM := fun ρ => (a ρ).bind fun x => match x with
  | (.seq .lst es0, .own _) => if es0.all D.sc then (am ρ).bind fun xs => (kept xs).bind fun ds => (noEx (g (.seq .lst es0 :: ds) [] [])).bind fun p => .ok (.obj C p.1 p.2, .fr) else .bad
  | _ => .bad

/-- an __init__ with its last parameters left out -/
def iDef (g : IF) (dd : List D) : IF := fun ds ns es => g (ds ++ dd) ns es

/-! ### statements -/
inductive Out where
  | nx (ρ : Rho) | rt (d : D) (fr : Bool) | bk (ρ : Rho) | ct (ρ : Rho) | ex (C : String) (ρ : Rho)
abbrev SM := Rho → Res Out
def smSkip : SM := fun ρ => .ok (.nx ρ)
def Out.go (o : Out) (b : SM) : Res Out := match o with
  | .nx ρ' => b ρ'
  | o => .ok o
@[simp] theorem Out.go_nx (ρ : Rho) (b : SM) : (Out.nx ρ).go b = b ρ := id rfl
@[simp] theorem Out.go_rt (d : D) (f : Bool) (b : SM) : (Out.rt d f).go b = .ok (.rt d f) := id rfl
@[simp] theorem Out.go_bk (ρ : Rho) (b : SM) : (Out.bk ρ).go b = .ok (.bk ρ) := id rfl
@[simp] theorem Out.go_ct (ρ : Rho) (b : SM) : (Out.ct ρ).go b = .ok (.ct ρ) := id rfl
@[simp] theorem Out.go_ex (C : String) (ρ : Rho) (b : SM) : (Out.ex C ρ).go b = .ok (.ex C ρ) := id rfl
def smSeq (a b : SM) : SM := fun ρ => (a ρ).bind fun o => o.go b
/-- a result of an expression, within a statement -/
def Res.st {α : Type} (r : Res α) (ρ : Rho) (f : α → Res Out) : Res Out := match r with
  | .ok a => f a
  | .ex C => .ok (.ex C ρ)
  | .bad => .bad
@[simp] theorem Res.st_ok {α : Type} (a : α) (ρ : Rho) (f : α → Res Out) : (Res.ok a).st ρ f = f a := id rfl
@[simp] theorem Res.st_ex {α : Type} (C : String) (ρ : Rho) (f : α → Res Out) : (Res.ex C : Res α).st ρ f = .ok (.ex C ρ) := id rfl
@[simp] theorem Res.st_bad {α : Type} (ρ : Rho) (f : α → Res Out) : (Res.bad : Res α).st ρ f = .bad := id rfl
/-- the slot's list is shared from here on -/
def frz (i : Nat) (ρ : Rho) : Rho := match ρ[i]? with
  | some (.oo k ds) => ρ.set i (.fz (k.asD ds))
  | _ => ρ
def putV (i : Nat) (x : Val) (ρ : Rho) : Res Rho := match x with
  | (d, .cl) => .ok (ρ.set i (.fz d))
  | (.seq .lst ds, .fr) => .ok (ρ.set i (.ow ds))
  | (.dic ks ds, .fr) => .ok (ρ.set i (.oo (.dic ks) ds))
  | (.obj C ns ds, .fr) => .ok (ρ.set i (.oo (.ins C ns) ds))
  | (.dit ks ds, .fr) => .ok (ρ.set i (.oo (.dit ks) ds))
  | (d, .own j) => .ok ((frz j ρ).set i (.fz d))
  | _ => .bad
def smSet (i : Nat) (a : EM) : SM := fun ρ => (a ρ).st ρ fun x => (putV i x ρ).bind fun ρ' => .ok (.nx ρ')
/-- a, b, .. = a tuple -/
def putAll : List Nat → List D → Rho → Res Rho
  | [], [], ρ => .ok ρ
  | i :: is, d :: ds, ρ => putAll is ds (ρ.set i (.fz d))
  | _, _, _ => .bad
def smUnp (is : List Nat) (a : EM) : SM := fun ρ => (a ρ).st ρ fun x => match x.1 with
  | .seq .tup ds => (putAll is ds ρ).bind fun ρ' => .ok (.nx ρ')
  | _ => .bad
/-- a, b = e, f (written) -/
def smPar (is : List Nat) (a : AM) : SM := fun ρ => (a ρ).st ρ fun xs => (kept xs).bind fun ds => (putAll is ds ρ).bind fun ρ' => .ok (.nx ρ')
def smExpr (a : EM) : SM := fun ρ => (a ρ).st ρ fun _ => .ok (.nx ρ)
@[simp] def Tg.new : Tg → Bool
  | .cl => false
  | _ => true
def smRet (a : EM) : SM := fun ρ => (a ρ).st ρ fun x => .ok (.rt x.1 x.2.new)
def smRetN : SM := fun _ => .ok (.rt .non false)
def smIf (t : TM) (a b : SM) : SM := fun ρ => (t ρ).st ρ fun k => if k then a ρ else b ρ
def smRaise (C : String) : SM := fun ρ => .ok (.ex C ρ)
def smNever : SM := fun _ => .bad
def smBreak : SM := fun ρ => .ok (.bk ρ)
def smCont : SM := fun ρ => .ok (.ct ρ)
/-- x.append(e) -/
def smApp (i : Nat) (a : EM) : SM := fun ρ => match ρ[i]? with
  | some (.oo .lst ds) => (a ρ).st ρ fun x => if (x.2.free || x.1.sc) && decide (ds.length < lim) then .ok (.nx (ρ.set i (.ow (ds ++ [x.1])))) else .bad
  | _ => .bad
/-- x.insert(i, e), i from 0 on -/
def smIns (i : Nat) (b a : EM) : SM := fun ρ => match ρ[i]? with
  | some (.oo .lst ds) => (b ρ).st ρ fun y => (a ρ).st ρ fun x => match y.1 with
    | .int j => if (x.2.free || x.1.sc) && decide (ds.length < lim) && rgOk j && decide (0 ≤ j) then .ok (.nx (ρ.set i (.ow (ds.take j.toNat ++ [x.1] ++ ds.drop j.toNat)))) else .bad
    | _ => .bad
  | _ => .bad
/-- x.extend(e), e a list -/
def smExt (i : Nat) (a : EM) : SM := fun ρ => match ρ[i]? with
  | some (.oo .lst ds) => (a ρ).st ρ fun x => match x.1 with
    | .seq .lst es => if ds.length + es.length ≤ lim then .ok (.nx (ρ.set i (.ow (ds ++ es)))) else .bad
    | _ => .bad
  | _ => .bad
/-- x[b] = a of a list of one's own -/
def smSetI (i : Nat) (b a : EM) : SM := fun ρ => (a ρ).st ρ fun x => match ρ[i]? with
  | some (.oo .lst ds) => (b ρ).st ρ fun y => match y.1 with
    | .int j => if x.2.free || x.1.sc then (match ixN ds.length j with
      | some k => .ok (.nx (ρ.set i (.ow (ds.set k x.1))))
      | none => .bad) else .bad
    | _ => .bad
  | _ => .bad
def smClear (i : Nat) : SM := fun ρ => match ρ[i]? with
  | some (.oo .lst _) => .ok (.nx (ρ.set i (.ow [])))
  | _ => .bad
/-- d[k] = v of a dict of one's own -/
def smPutD (i : Nat) (b c : EM) : SM := fun ρ => (c ρ).st ρ fun z => match ρ[i]? with
  | some (.oo (.dic ks) ds) => (b ρ).st ρ fun y => if y.1.key && (z.2.free || z.1.sc) && decide (ds.length < lim) then .ok (.nx (ρ.set i (.oo (.dic (dPut ks ds y.1 z.1).1) (dPut ks ds y.1 z.1).2))) else .bad
  | _ => .bad
def cNeS (x y : D) : Res Bool := match dEqS x y with
  | some k => .ok (!k)
  | none => .bad
/-- if t or d.setdefault(k, v) != e: s -/
def smIfSetd (i : Nat) (t : TM) (b c e : EM) (s : SM) : SM := fun ρ => (t ρ).st ρ fun k => if k then s ρ else match ρ[i]? with
  | some (.oo (.dic ks) ds) => (b ρ).st ρ fun y => (c ρ).st ρ fun z => if y.1.key && z.1.sc && decide (ds.length < lim) then (match dFind ks ds y.1 with
    | some d => (e ρ).st ρ fun w => (cNeS d w.1).bind fun k => if k then s ρ else .ok (.nx ρ)
    | none => (e (ρ.set i (.oo (.dic (ks ++ [y.1])) (ds ++ [z.1])))).st (ρ.set i (.oo (.dic (ks ++ [y.1])) (ds ++ [z.1]))) fun w => (cNeS z.1 w.1).bind fun k => if k then s (ρ.set i (.oo (.dic (ks ++ [y.1])) (ds ++ [z.1]))) else .ok (.nx (ρ.set i (.oo (.dic (ks ++ [y.1])) (ds ++ [z.1]))))) else .bad
  | _ => .bad
def smFrz (i : Nat) (a : SM) : SM := fun ρ => a (frz i ρ)

/-- behind a turn -/
def Out.turn (o : Out) (b : SM) : Res Out := match o with
  | .nx ρ2 => b ρ2
  | .ct ρ2 => b ρ2
  | .bk ρ2 => .ok (.nx ρ2)
  | o => .ok o
@[simp] theorem Out.turn_nx (ρ : Rho) (b : SM) : (Out.nx ρ).turn b = b ρ := id rfl
@[simp] theorem Out.turn_rt (d : D) (f : Bool) (b : SM) : (Out.rt d f).turn b = .ok (.rt d f) := id rfl
@[simp] theorem Out.turn_bk (ρ : Rho) (b : SM) : (Out.bk ρ).turn b = .ok (.nx ρ) := id rfl
@[simp] theorem Out.turn_ct (ρ : Rho) (b : SM) : (Out.ct ρ).turn b = b ρ := id rfl
@[simp] theorem Out.turn_ex (C : String) (ρ : Rho) (b : SM) : (Out.ex C ρ).turn b = .ok (.ex C ρ) := id rfl
def turns (put : D → Rho → Res Rho) (b : SM) : List D → SM
  | [], ρ => .ok (.nx ρ)
  | x :: xs, ρ => (put x ρ).bind fun ρ' => (b ρ').bind fun o => o.turn (turns put b xs)
def put1 (i : Nat) (d : D) (ρ : Rho) : Res Rho := .ok (ρ.set i (.fz d))
def putT (is : List Nat) (d : D) (ρ : Rho) : Res Rho := match d with
  | .seq .tup ds => putAll is ds ρ
  | _ => .bad
/-- what a loop walks: the items; the slot whose very list it is -/
abbrev WM := Rho → Res (List D × Option Nat)
@[simp] def Tg.slot : Tg → Option Nat
  | .own i => some i
  | _ => none
def frzO (o : Option Nat) (ρ : Rho) : Rho := match o with
  | some i => frz i ρ
  | none => ρ
def wmL (a : EM) : WM := fun ρ => (a ρ).bind fun x => match x.1 with
  | .seq .tup _ => .bad
  | .seq _ xs => .ok (xs, x.2.slot)
  | _ => .bad
def wmT (a : EM) : WM := fun ρ => (a ρ).bind fun x => match x.1 with
  | .seq .tup xs => .ok (xs, none)
  | _ => .bad
def wmS (a : EM) : WM := fun ρ => (a ρ).bind fun x => match x.1 with
  | .str s => .ok (s.map fun c => .str [c], none)
  | _ => .bad
/-- a list, a tuple or a text -/
def wmA (a : EM) : WM := fun ρ => (a ρ).bind fun x => match x.1 with
  | .seq .tup xs => .ok (xs, none)
  | .seq _ xs => .ok (xs, x.2.slot)
  | .str s => .ok (s.map fun c => .str [c], none)
  | _ => .bad
/-- zip of two lists -/
def zipD (ds es : List D) : List D := (ds.zip es).map fun p => D.seq .tup [p.1, p.2]
def slot2 : Option Nat → Option Nat → Option (Option Nat)
  | some _, some _ => none
  | some i, none => some (some i)
  | none, o => some o
def wmZip (a b : EM) : WM := fun ρ => (a ρ).bind fun x => (b ρ).bind fun y => match x.1, y.1 with
  | .seq k ds, .seq l es => if k = .tup ∨ l = .tup then .bad else (match slot2 x.2.slot y.2.slot with
    | some o => .ok (zipD ds es, o)
    | none => .bad)
  | _, _ => .bad
def rangeL (lo : Int) (n : Nat) : List D := (List.range n).map fun (k : Nat) => D.int (lo + (k : Int))
def wmR1 (a : EM) : WM := fun ρ => (a ρ).bind fun x => match x.1 with
  | .int j => if rgOk j then .ok (rangeL 0 j.toNat, none) else .bad
  | _ => .bad
def wmR2 (a b : EM) : WM := fun ρ => (a ρ).bind fun x => (b ρ).bind fun y => match x.1, y.1 with
  | .int i, .int j => if rgOk i && rgOk j then .ok (rangeL i (j - i).toNat, none) else .bad
  | _, _ => .bad
def rangeD (hi : Int) (n : Nat) : List D := (List.range n).map fun (k : Nat) => D.int (hi - (k : Int))
/-- range(i, j, -1) -/
def wmR3 (a b c : EM) : WM := fun ρ => (a ρ).bind fun x => (b ρ).bind fun y => (c ρ).bind fun z => match x.1, y.1, z.1 with
  | .int i, .int j, .int k => if rgOk i && rgOk j && decide (k = -1) then .ok (rangeD i (i - j).toNat, none) else .bad
  | _, _, _ => .bad
def rangeS (lo st : Int) (n : Nat) : List D := (List.range n).map fun (k : Nat) => D.int (lo + (k : Int) * st)
/-- range(i, j, k), k above 0 -/
def wmRS (a b c : EM) : WM := fun ρ => (a ρ).bind fun x => (b ρ).bind fun y => (c ρ).bind fun z => match x.1, y.1, z.1 with
  | .int i, .int j, .int k => if rgOk i && rgOk j && decide (0 < k) && decide (k < 1073741824) then .ok (rangeS i k (if i < j then (j - i - 1) / k + 1 else 0).toNat, none) else .bad
  | _, _, _ => .bad
def smFor (put : D → Rho → Res Rho) (w : WM) (b : SM) : SM := fun ρ => (w ρ).st ρ fun p => turns put b p.1 (frzO p.2 ρ)
def smWhile (t : TM) (b : SM) : Nat → SM
  | 0, _ => .bad
  | n + 1, ρ => (t ρ).st ρ fun k => if k then (b ρ).bind fun o => o.turn (smWhile t b n) else .ok (.nx ρ)
/-! comprehensions: is the own names, which are forgotten -/
@[simp] def wipeR (ρ : Rho) : List Nat → Rho
  | [] => ρ
  | v :: vs => (wipeR ρ vs).set v .no
def comp (put : D → Rho → Res Rho) (t : TM) (e : EM) (ρ : Rho) : List D → Res (List D)
  | [] => .ok []
  | x :: xs => (noEx (put x ρ)).bind fun ρ' => (noEx (t ρ')).bind fun k =>
    if k then (noEx (e ρ')).bind fun y => if y.2.free || y.1.sc then (comp put t e ρ xs).bind fun ys => .ok (y.1 :: ys) else .bad
    else comp put t e ρ xs
/-- no slot of a block's own holds a list of its own -/
def noOw (own : List Nat) (ρ : Rho) : Bool := own.all fun i => match ρ[i]? with
  | some (.oo _ _) => false
  | _ => true
def mComp (put : D → Rho → Res Rho) (own : List Nat) (w : WM) (t : TM) (e : EM) : EM := fun ρ => (w ρ).bind fun p => if noOw own ρ then
  (comp put t e (wipeR ρ own) p.1).bind fun ys => if p.1.length < lim then .ok (.seq .lst ys, .fr) else .bad else .bad
def tmYes : TM := fun _ => .ok true

/-! ### try -/
/-- behind a handler whose name is in slot i -/
def smEnd (i : Nat) : Out → Res Out
  | .nx ρ => .ok (.nx (ρ.set i .no))
  | .bk ρ => .ok (.bk (ρ.set i .no))
  | .ct ρ => .ok (.ct (ρ.set i .no))
  | .ex _ _ => .bad
  | .rt d f => .ok (.rt d f)
def smCatch (U cs : List String) (i : Nat) (h : SM) : Out → Res Out
  | .ex C ρ => if U.contains C then (if cs.contains C then (h (ρ.set i (.ex C))).bind (smEnd i) else .ok (.ex C ρ)) else .bad
  | o => .ok o
/-- try: b, except a class as slot i: h; U: the classes that are known here, cs: those the clause takes -/
def smTry (U cs : List String) (i : Nat) (b : SM) (h : SM) : SM := fun ρ => (b ρ).bind (smCatch U cs i h)
/-- an except clause whose suite is: raise N('..') -/
def smCatchX (U cs : List String) (N : String) : Out → Res Out
  | .ex C ρ => if U.contains C then (if cs.contains C then .ok (.ex N ρ) else .ok (.ex C ρ)) else .bad
  | o => .ok o
def smTryX (U cs : List String) (N : String) (b : SM) : SM := fun ρ => (b ρ).bind (smCatchX U cs N)
def noExO : Out → Res Out
  | .ex _ _ => .bad
  | o => .ok o
/-- except clauses without a name -/
def catchM : List (List String × SM) → String → Rho → Res Out
  | [], C, ρ => .ok (.ex C ρ)
  | (cs, h) :: r, C, ρ => if cs.contains C then (h ρ).bind noExO else catchM r C ρ
def smCatchM (U : List String) (cl : List (List String × SM)) : Out → Res Out
  | .ex C ρ => if U.contains C then catchM cl C ρ else .bad
  | o => .ok o
def smTryM (U : List String) (cl : List (List String × SM)) (b : SM) : SM := fun ρ => (b ρ).bind (smCatchM U cl)
/-- isinstance(e, C) or isinstance(e, (C, ..)) of the exception in slot i: the answers by its class -/
def mExIs (i : Nat) (tb : List (String × Bool)) : EM := fun ρ => match ρ[i]? with
  | some (.ex C) => match tb.lookup C with
    | some b => .ok (.bl b, .cl)
    | none => .bad
  | _ => .bad

/-! ### defs -/
def Res.fin : Res Out → Res (D × Bool)
  | .ok (.nx _) => .ok (.non, false)
  | .ok (.rt d fr) => .ok (d, fr)
  | .ok (.ex C _) => .ex C
  | _ => .bad
@[simp] theorem Res.fin_nx (ρ : Rho) : (Res.ok (Out.nx ρ)).fin = .ok (.non, false) := id rfl
@[simp] theorem Res.fin_rt (d : D) (f : Bool) : (Res.ok (Out.rt d f)).fin = .ok (d, f) := id rfl
@[simp] theorem Res.fin_ex (C : String) (ρ : Rho) : (Res.ok (Out.ex C ρ)).fin = .ex C := id rfl
@[simp] theorem Res.fin_bad : (Res.bad : Res Out).fin = .bad := id rfl
def mFn (np nl : Nat) (b : SM) : FM := fun ds => if ds.length = np then (b (ds.map .fz ++ List.replicate nl .no)).fin else .bad
end
end Dm
end

section
set_option linter.all false
/-! Dm: how the mirror machine is reckoned on written slots. -/
namespace Dm
@[simp] theorem e_mC (d : D) (s0 : Sl) (r0 : Rho) : mC d (s0 :: r0) = .ok (d, .cl) := id rfl
@[simp] theorem e_mV (i : Nat) (s0 : Sl) (r0 : Rho) : mV i (s0 :: r0) = match (s0 :: r0)[i]? with
  | some (.fz d) => .ok (d, .cl)
  | some (.oo k ds) => .ok (k.asD ds, .own i)
  | _ => .bad := id rfl
@[simp] theorem e_mB (f : Op2) (a b : EM) (s0 : Sl) (r0 : Rho) : mB f a b (s0 :: r0) = (a (s0 :: r0)).bind fun x => (b (s0 :: r0)).bind fun y => f x.1 y.1 := id rfl
@[simp] theorem e_mCmp (f : D → D → Res Bool) (a b : EM) (s0 : Sl) (r0 : Rho) : mCmp f a b (s0 :: r0) = (a (s0 :: r0)).bind fun x => (b (s0 :: r0)).bind fun y => (f x.1 y.1).bind fun k => .ok (.bl k, .cl) := id rfl
@[simp] theorem e_mChain (f g : D → D → Res Bool) (a b c : EM) (s0 : Sl) (r0 : Rho) : mChain f g a b c (s0 :: r0) = (a (s0 :: r0)).bind fun x => (b (s0 :: r0)).bind fun y => (f x.1 y.1).bind fun k => if k then (c (s0 :: r0)).bind fun z => (g y.1 z.1).bind fun l => .ok (.bl l, .cl) else .ok (.bl false, .cl) := id rfl
@[simp] theorem e_mNeg (a : EM) (s0 : Sl) (r0 : Rho) : mNeg a (s0 :: r0) = (a (s0 :: r0)).bind fun x => match x.1 with
  | .int i => .ok (.int (-i), .cl)
  | _ => .bad := id rfl
@[simp] theorem e_mAnd (a b : EM) (s0 : Sl) (r0 : Rho) : mAnd a b (s0 :: r0) = (a (s0 :: r0)).bind fun x => x.1.isB.bind fun k => if k then b (s0 :: r0) else .ok (.bl false, .cl) := id rfl
@[simp] theorem e_mOr (a b : EM) (s0 : Sl) (r0 : Rho) : mOr a b (s0 :: r0) = (a (s0 :: r0)).bind fun x => x.1.isB.bind fun k => if k then .ok (.bl true, .cl) else b (s0 :: r0) := id rfl
@[simp] theorem e_mNot (a : EM) (s0 : Sl) (r0 : Rho) : mNot a (s0 :: r0) = (a (s0 :: r0)).bind fun x => x.1.isB.bind fun k => .ok (.bl (!k), .cl) := id rfl
@[simp] theorem e_mT (a : EM) (s0 : Sl) (r0 : Rho) : mT a (s0 :: r0) = (a (s0 :: r0)).bind fun x => x.1.tru := id rfl
@[simp] theorem e_mTB (a : EM) (s0 : Sl) (r0 : Rho) : mTB a (s0 :: r0) = (a (s0 :: r0)).bind fun x => x.1.isB := id rfl
@[simp] theorem e_tmAnd (a b : TM) (s0 : Sl) (r0 : Rho) : tmAnd a b (s0 :: r0) = (a (s0 :: r0)).bind fun k => if k then b (s0 :: r0) else .ok false := id rfl
@[simp] theorem e_tmOr (a b : TM) (s0 : Sl) (r0 : Rho) : tmOr a b (s0 :: r0) = (a (s0 :: r0)).bind fun k => if k then .ok true else b (s0 :: r0) := id rfl
@[simp] theorem e_tmNot (a : TM) (s0 : Sl) (r0 : Rho) : tmNot a (s0 :: r0) = (a (s0 :: r0)).bind fun k => .ok (!k) := id rfl
@[simp] theorem e_mIf (t : TM) (a b : EM) (s0 : Sl) (r0 : Rho) : mIf t a b (s0 :: r0) = (t (s0 :: r0)).bind fun k => if k then a (s0 :: r0) else b (s0 :: r0) := id rfl
@[simp] theorem e_mIx (a b : EM) (s0 : Sl) (r0 : Rho) : mIx a b (s0 :: r0) = (a (s0 :: r0)).bind fun x => (b (s0 :: r0)).bind fun y => (dIx x.1 y.1).bind fun d => .ok (d, .cl) := id rfl
@[simp] theorem e_mNoP (s0 : Sl) (r0 : Rho) : mNoP  (s0 :: r0) = .ok none := id rfl
@[simp] theorem e_mPart (a : EM) (s0 : Sl) (r0 : Rho) : mPart a (s0 :: r0) = (a (s0 :: r0)).bind fun x => match x.1 with
  | .int i => .ok (some i)
  | _ => .bad := id rfl
@[simp] theorem e_mCut (a : EM) (lo hi : OM) (s0 : Sl) (r0 : Rho) : mCut a lo hi (s0 :: r0) = (a (s0 :: r0)).bind fun x => (lo (s0 :: r0)).bind fun l => (hi (s0 :: r0)).bind fun h => dCut x.1 l h := id rfl
@[simp] theorem e_amNil (s0 : Sl) (r0 : Rho) : amNil  (s0 :: r0) = .ok [] := id rfl
@[simp] theorem e_amCons (a : EM) (r : AM) (s0 : Sl) (r0 : Rho) : amCons a r (s0 :: r0) = (a (s0 :: r0)).bind fun x => (r (s0 :: r0)).bind fun xs => .ok (x :: xs) := id rfl
@[simp] theorem e_mTup (a : AM) (s0 : Sl) (r0 : Rho) : mTup a (s0 :: r0) = (a (s0 :: r0)).bind fun xs => (kept xs).bind fun ds => if ds.length ≤ lim then .ok (.seq .tup ds, .cl) else .bad := id rfl
@[simp] theorem e_mLst (a : AM) (s0 : Sl) (r0 : Rho) : mLst a (s0 :: r0) = (a (s0 :: r0)).bind fun xs => (kept xs).bind fun ds => if ds.length ≤ lim then .ok (.seq .lst ds, .fr) else .bad := id rfl
@[simp] theorem e_mList (a : AM) (s0 : Sl) (r0 : Rho) : mList a (s0 :: r0) = (a (s0 :: r0)).bind mList1 := id rfl
@[simp] theorem e_mCall (g : FM) (a : AM) (s0 : Sl) (r0 : Rho) : mCall g a (s0 :: r0) = (a (s0 :: r0)).bind fun xs => (g (xs.map (·.1))).bind fun r =>
  if r.1.sc then .ok (r.1, .cl) else if xs.all (fun x => x.2.free || x.1.sc) then .ok (r.1, if r.2 then .fr else .cl) else .bad := id rfl
@[simp] theorem e_mBlt (f : List D → Res D) (a : AM) (s0 : Sl) (r0 : Rho) : mBlt f a (s0 :: r0) = (a (s0 :: r0)).bind fun xs => (f (xs.map (·.1))).bind fun d => .ok (d, .cl) := id rfl
@[simp] theorem e_mIs (T : String) (a : EM) (s0 : Sl) (r0 : Rho) : mIs T a (s0 :: r0) = (a (s0 :: r0)).bind fun x => match x.1 with
  | .obj _ _ _ => .bad
  | .dit _ _ => .bad
  | d => .ok (.bl (isT d.tn T), .cl) := id rfl
@[simp] theorem e_mS0 (f : List Nat → Res (D × Tg)) (a : EM) (s0 : Sl) (r0 : Rho) : mS0 f a (s0 :: r0) = (a (s0 :: r0)).bind fun x => match x.1 with
  | .str s => f s
  | _ => .bad := id rfl
@[simp] theorem e_mS1 (f : List Nat → D → Res (D × Tg)) (a b : EM) (s0 : Sl) (r0 : Rho) : mS1 f a b (s0 :: r0) = (a (s0 :: r0)).bind fun x => match x.1 with
  | .str s => (b (s0 :: r0)).bind fun y => f s y.1
  | _ => .bad := id rfl
@[simp] theorem e_smSkip (s0 : Sl) (r0 : Rho) : smSkip  (s0 :: r0) = .ok (.nx (s0 :: r0)) := id rfl
@[simp] theorem e_smSeq (a b : SM) (s0 : Sl) (r0 : Rho) : smSeq a b (s0 :: r0) = (a (s0 :: r0)).bind fun o => o.go b := id rfl
@[simp] theorem e_smSet (i : Nat) (a : EM) (s0 : Sl) (r0 : Rho) : smSet i a (s0 :: r0) = (a (s0 :: r0)).st (s0 :: r0) fun x => (putV i x (s0 :: r0)).bind fun ρ' => .ok (.nx ρ') := id rfl
@[simp] theorem e_smUnp (is : List Nat) (a : EM) (s0 : Sl) (r0 : Rho) : smUnp is a (s0 :: r0) = (a (s0 :: r0)).st (s0 :: r0) fun x => match x.1 with
  | .seq .tup ds => (putAll is ds (s0 :: r0)).bind fun ρ' => .ok (.nx ρ')
  | _ => .bad := id rfl
@[simp] theorem e_smPar (is : List Nat) (a : AM) (s0 : Sl) (r0 : Rho) : smPar is a (s0 :: r0) = (a (s0 :: r0)).st (s0 :: r0) fun xs => (kept xs).bind fun ds => (putAll is ds (s0 :: r0)).bind fun ρ' => .ok (.nx ρ') := id rfl
@[simp] theorem e_smExpr (a : EM) (s0 : Sl) (r0 : Rho) : smExpr a (s0 :: r0) = (a (s0 :: r0)).st (s0 :: r0) fun _ => .ok (.nx (s0 :: r0)) := id rfl
@[simp] theorem e_smRet (a : EM) (s0 : Sl) (r0 : Rho) : smRet a (s0 :: r0) = (a (s0 :: r0)).st (s0 :: r0) fun x => .ok (.rt x.1 x.2.new) := id rfl
@[simp] theorem e_smRetN (s0 : Sl) (r0 : Rho) : smRetN  (s0 :: r0) = .ok (.rt .non false) := id rfl
@[simp] theorem e_smIf (t : TM) (a b : SM) (s0 : Sl) (r0 : Rho) : smIf t a b (s0 :: r0) = (t (s0 :: r0)).st (s0 :: r0) fun k => if k then a (s0 :: r0) else b (s0 :: r0) := id rfl
@[simp] theorem e_smRaise (C : String) (s0 : Sl) (r0 : Rho) : smRaise C (s0 :: r0) = .ok (.ex C (s0 :: r0)) := id rfl
@[simp] theorem e_smNever (s0 : Sl) (r0 : Rho) : smNever  (s0 :: r0) = .bad := id rfl
@[simp] theorem e_smBreak (s0 : Sl) (r0 : Rho) : smBreak  (s0 :: r0) = .ok (.bk (s0 :: r0)) := id rfl
@[simp] theorem e_smCont (s0 : Sl) (r0 : Rho) : smCont  (s0 :: r0) = .ok (.ct (s0 :: r0)) := id rfl
@[simp] theorem e_smApp (i : Nat) (a : EM) (s0 : Sl) (r0 : Rho) : smApp i a (s0 :: r0) = match (s0 :: r0)[i]? with
  | some (.oo .lst ds) => (a (s0 :: r0)).st (s0 :: r0) fun x => if (x.2.free || x.1.sc) && decide (ds.length < lim) then .ok (.nx ((s0 :: r0).set i (.ow (ds ++ [x.1])))) else .bad
  | _ => .bad := id rfl
@[simp] theorem e_smClear (i : Nat) (s0 : Sl) (r0 : Rho) : smClear i (s0 :: r0) = match (s0 :: r0)[i]? with
  | some (.oo .lst _) => .ok (.nx ((s0 :: r0).set i (.ow [])))
  | _ => .bad := id rfl
@[simp] theorem e_wmL (a : EM) (s0 : Sl) (r0 : Rho) : wmL a (s0 :: r0) = (a (s0 :: r0)).bind fun x => match x.1 with
  | .seq .tup _ => .bad
  | .seq _ xs => .ok (xs, x.2.slot)
  | _ => .bad := id rfl
@[simp] theorem e_wmT (a : EM) (s0 : Sl) (r0 : Rho) : wmT a (s0 :: r0) = (a (s0 :: r0)).bind fun x => match x.1 with
  | .seq .tup xs => .ok (xs, none)
  | _ => .bad := id rfl
@[simp] theorem e_wmS (a : EM) (s0 : Sl) (r0 : Rho) : wmS a (s0 :: r0) = (a (s0 :: r0)).bind fun x => match x.1 with
  | .str s => .ok (s.map fun c => .str [c], none)
  | _ => .bad := id rfl
@[simp] theorem e_wmA (a : EM) (s0 : Sl) (r0 : Rho) : wmA a (s0 :: r0) = (a (s0 :: r0)).bind fun x => match x.1 with
  | .seq .tup xs => .ok (xs, none)
  | .seq _ xs => .ok (xs, x.2.slot)
  | .str s => .ok (s.map fun c => .str [c], none)
  | _ => .bad := id rfl
@[simp] theorem e_wmR1 (a : EM) (s0 : Sl) (r0 : Rho) : wmR1 a (s0 :: r0) = (a (s0 :: r0)).bind fun x => match x.1 with
  | .int j => if rgOk j then .ok (rangeL 0 j.toNat, none) else .bad
  | _ => .bad := id rfl
@[simp] theorem e_wmR2 (a b : EM) (s0 : Sl) (r0 : Rho) : wmR2 a b (s0 :: r0) = (a (s0 :: r0)).bind fun x => (b (s0 :: r0)).bind fun y => match x.1, y.1 with
  | .int i, .int j => if rgOk i && rgOk j then .ok (rangeL i (j - i).toNat, none) else .bad
  | _, _ => .bad := id rfl
@[simp] theorem e_smFor (put : D → Rho → Res Rho) (w : WM) (b : SM) (s0 : Sl) (r0 : Rho) : smFor put w b (s0 :: r0) = (w (s0 :: r0)).st (s0 :: r0) fun p => turns put b p.1 (frzO p.2 (s0 :: r0)) := id rfl
@[simp] theorem e_mComp (put : D → Rho → Res Rho) (own : List Nat) (w : WM) (t : TM) (e : EM) (s0 : Sl) (r0 : Rho) : mComp put own w t e (s0 :: r0) = (w (s0 :: r0)).bind fun p => if noOw own (s0 :: r0) then
  (comp put t e (wipeR (s0 :: r0) own) p.1).bind fun ys => if p.1.length < lim then .ok (.seq .lst ys, .fr) else .bad else .bad := id rfl
@[simp] theorem e_tmYes (s0 : Sl) (r0 : Rho) : tmYes  (s0 :: r0) = .ok true := id rfl
@[simp] theorem e_smTry (U cs : List String) (i : Nat) (b : SM) (h : SM) (s0 : Sl) (r0 : Rho) : smTry U cs i b h (s0 :: r0) = (b (s0 :: r0)).bind (smCatch U cs i h) := id rfl
@[simp] theorem e_smTryX (U cs : List String) (N : String) (b : SM) (s0 : Sl) (r0 : Rho) : smTryX U cs N b (s0 :: r0) = (b (s0 :: r0)).bind (smCatchX U cs N) := id rfl
@[simp] theorem e_smTryM (U : List String) (cl : List (List String × SM)) (b : SM) (s0 : Sl) (r0 : Rho) : smTryM U cl b (s0 :: r0) = (b (s0 :: r0)).bind (smCatchM U cl) := id rfl
@[simp] theorem e_mDix (ks : List (List Nat)) (ds : List D) (a : EM) (s0 : Sl) (r0 : Rho) : mDix ks ds a (s0 :: r0) = (a (s0 :: r0)).bind fun y => (dGet (.dic (ks.map .str) ds) y.1).bind fun d => .ok (d, .cl) := id rfl
@[simp] theorem e_mIxD (a b : EM) (s0 : Sl) (r0 : Rho) : mIxD a b (s0 :: r0) = (a (s0 :: r0)).bind fun x => (b (s0 :: r0)).bind fun y => (dGet x.1 y.1).bind fun d => .ok (d, .cl) := id rfl
@[simp] theorem e_mD0 (s0 : Sl) (r0 : Rho) : mD0  (s0 :: r0) = .ok (.dic [] [], .fr) := id rfl
@[simp] theorem e_mDisp (ks : List D) (a : AM) (s0 : Sl) (r0 : Rho) : mDisp ks a (s0 :: r0) = (a (s0 :: r0)).bind fun xs => (kept xs).bind fun ds => if ds.length = ks.length then .ok (.dic ks ds, .fr) else .bad := id rfl
@[simp] theorem e_mGet2 (a b c : EM) (s0 : Sl) (r0 : Rho) : mGet2 a b c (s0 :: r0) = (a (s0 :: r0)).bind fun x => match x.1 with
  | .dic ks vs => (b (s0 :: r0)).bind fun y => (c (s0 :: r0)).bind fun z => if y.1.key && (z.2.free || z.1.sc) then .ok ((dFind ks vs y.1).getD z.1, .cl) else .bad
  | _ => .bad := id rfl
@[simp] theorem e_smPutD (i : Nat) (b c : EM) (s0 : Sl) (r0 : Rho) : smPutD i b c (s0 :: r0) = (c (s0 :: r0)).st (s0 :: r0) fun z => match (s0 :: r0)[i]? with
  | some (.oo (.dic ks) ds) => (b (s0 :: r0)).st (s0 :: r0) fun y => if y.1.key && (z.2.free || z.1.sc) && decide (ds.length < lim) then .ok (.nx ((s0 :: r0).set i (.oo (.dic (dPut ks ds y.1 z.1).1) (dPut ks ds y.1 z.1).2))) else .bad
  | _ => .bad := id rfl
@[simp] theorem e_smIfSetd (i : Nat) (t : TM) (b c e : EM) (s : SM) (s0 : Sl) (r0 : Rho) : smIfSetd i t b c e s (s0 :: r0) = (t (s0 :: r0)).st (s0 :: r0) fun k => if k then s (s0 :: r0) else match (s0 :: r0)[i]? with
  | some (.oo (.dic ks) ds) => (b (s0 :: r0)).st (s0 :: r0) fun y => (c (s0 :: r0)).st (s0 :: r0) fun z => if y.1.key && z.1.sc && decide (ds.length < lim) then (match dFind ks ds y.1 with
    | some d => (e (s0 :: r0)).st (s0 :: r0) fun w => (cNeS d w.1).bind fun k => if k then s (s0 :: r0) else .ok (.nx (s0 :: r0))
    | none => (e ((s0 :: r0).set i (.oo (.dic (ks ++ [y.1])) (ds ++ [z.1])))).st ((s0 :: r0).set i (.oo (.dic (ks ++ [y.1])) (ds ++ [z.1]))) fun w => (cNeS z.1 w.1).bind fun k => if k then s ((s0 :: r0).set i (.oo (.dic (ks ++ [y.1])) (ds ++ [z.1]))) else .ok (.nx ((s0 :: r0).set i (.oo (.dic (ks ++ [y.1])) (ds ++ [z.1]))))) else .bad
  | _ => .bad := id rfl
@[simp] theorem e_mFld (Cs : List String) (f : String) (a : EM) (s0 : Sl) (r0 : Rho) : mFld Cs f a (s0 :: r0) = (a (s0 :: r0)).bind fun x => match x.1 with
  | .obj C ns ds => if Cs.contains C then (match fGet ns ds f with
    | some d => .ok (d, .cl)
    | none => .bad) else .bad
  | _ => .bad := id rfl
@[simp] theorem e_mMeth (tbl : List (String × FM)) (m : String) (o : EM) (am : AM) (s0 : Sl) (r0 : Rho) : mMeth tbl m o am (s0 :: r0) = (noEx (o (s0 :: r0))).bind fun x => match x.1 with
  | .obj C ns ds => if fGet ns ds m = none then (match tbl.lookup C with
    | some g => (am (s0 :: r0)).bind fun xs => (g (x.1 :: xs.map (·.1))).bind fun r => if r.1.sc then .ok (r.1, .cl) else if (x :: xs).all (fun x => x.2.free || x.1.sc) then .ok (r.1, if r.2 then .fr else .cl) else .bad
    | none => .bad) else .bad
  | _ => .bad := id rfl
@[simp] theorem e_mIsC (U cs : List String) (a : EM) (s0 : Sl) (r0 : Rho) : mIsC U cs a (s0 :: r0) = (a (s0 :: r0)).bind fun x => match x.1 with
  | .obj C _ _ => if U.contains C then .ok (.bl (cs.contains C), .cl) else .bad
  | .dit _ _ => .bad
  | _ => .ok (.bl false, .cl) := id rfl
@[simp] theorem e_mExIs (i : Nat) (tb : List (String × Bool)) (s0 : Sl) (r0 : Rho) : mExIs i tb (s0 :: r0) = match (s0 :: r0)[i]? with
  | some (.ex C) => match tb.lookup C with
    | some b => .ok (.bl b, .cl)
    | none => .bad
  | _ => .bad := id rfl
@[simp] theorem e_mRevS (a : EM) (s0 : Sl) (r0 : Rho) : mRevS a (s0 :: r0) = (a (s0 :: r0)).bind fun x => match x.1 with
  | .str s => if s.length ≤ lim then .ok (.str s.reverse, .cl) else .bad
  | _ => .bad := id rfl
@[simp] theorem e_mSorted (a : AM) (s0 : Sl) (r0 : Rho) : mSorted a (s0 :: r0) = (a (s0 :: r0)).bind mSort1 := id rfl
@[simp] theorem e_smIns (i : Nat) (b a : EM) (s0 : Sl) (r0 : Rho) : smIns i b a (s0 :: r0) = match (s0 :: r0)[i]? with
  | some (.oo .lst ds) => (b (s0 :: r0)).st (s0 :: r0) fun y => (a (s0 :: r0)).st (s0 :: r0) fun x => match y.1 with
    | .int j => if (x.2.free || x.1.sc) && decide (ds.length < lim) && rgOk j && decide (0 ≤ j) then .ok (.nx ((s0 :: r0).set i (.ow (ds.take j.toNat ++ [x.1] ++ ds.drop j.toNat)))) else .bad
    | _ => .bad
  | _ => .bad := id rfl
@[simp] theorem e_wmR3 (a b c : EM) (s0 : Sl) (r0 : Rho) : wmR3 a b c (s0 :: r0) = (a (s0 :: r0)).bind fun x => (b (s0 :: r0)).bind fun y => (c (s0 :: r0)).bind fun z => match x.1, y.1, z.1 with
  | .int i, .int j, .int k => if rgOk i && rgOk j && decide (k = -1) then .ok (rangeD i (i - j).toNat, none) else .bad
  | _, _, _ => .bad := id rfl
@[simp] theorem e_mMake (C : String) (g : IF) (am : AM) (s0 : Sl) (r0 : Rho) : mMake C g am (s0 :: r0) = (am (s0 :: r0)).bind fun xs => (kept xs).bind fun ds => (noEx (g ds [] [])).bind fun p => .ok (.obj C p.1 p.2, .fr) := id rfl
@[simp] theorem e_mIdx (a b : EM) (s0 : Sl) (r0 : Rho) : mIdx a b (s0 :: r0) = (a (s0 :: r0)).bind fun x => match x.1 with
  | .seq .lst ds => (b (s0 :: r0)).bind fun y => (match y.1 with
    | .str s => if ds.all D.isS && decide (ds.length ≤ lim) then (match ds.findIdx? fun d => D.eqv d (.str s) with
      | some j => .ok (.int j, .cl)
      | none => .bad) else .bad
    | _ => .bad)
  | _ => .bad := id rfl
@[simp] theorem e_smFrz (i : Nat) (a : SM) (s0 : Sl) (r0 : Rho) : smFrz i a (s0 :: r0) = a (frz i (s0 :: r0)) := id rfl
@[simp] theorem e_mStep (e lo st : EM) (s0 : Sl) (r0 : Rho) : mStep e lo st (s0 :: r0) = (e (s0 :: r0)).bind fun x => match x.1 with
  | .str s => (lo (s0 :: r0)).bind fun y => (match y.1 with
    | .int a => (st (s0 :: r0)).bind fun z => (match z.1 with
      | .int k => if decide (s.length ≤ lim) && decide (0 ≤ a) && decide (0 < k) then .ok (.str (stepL s a.toNat k.toNat), .cl) else .bad
      | _ => .bad)
    | _ => .bad)
  | _ => .bad := id rfl
@[simp] theorem e_mFn (np nl : Nat) (b : SM) (ds : List D) : mFn np nl b ds = if ds.length = np then (b (ds.map .fz ++ List.replicate nl .no)).fin else .bad := rfl
section
variable (i j : Int) (a b : Bool) (s t u : List Nat) (xs ys : List D) (d x y : D) (c : Nat) (k : SK) (C : String) (r : Rho) (n m : Nat) (l h : Option Int) (v : Val) (vs : List Val) (is : List Nat)
@[simp] theorem isB_bl' : (D.bl a).isB = .ok a := id rfl
@[simp] theorem tru_non : D.non.tru = .ok false := id rfl
@[simp] theorem tru_bl : (D.bl a).tru = .ok a := id rfl
@[simp] theorem tru_int : (D.int i).tru = .ok (i != 0) := id rfl
@[simp] theorem tru_str : (D.str s).tru = if s.length ≤ lim then .ok (!s.isEmpty) else .bad := id rfl
@[simp] theorem tru_seq : (D.seq k xs).tru = .ok (!xs.isEmpty) := id rfl
@[simp] theorem oAdd_ii : oAdd (.int i) (.int j) = .ok (.int (i + j), .cl) := id rfl
@[simp] theorem oAdd_ss : oAdd (.str s) (.str t) = if s.length + t.length ≤ lim then .ok (.str (s ++ t), .cl) else .bad := id rfl
@[simp] theorem oAdd_ll : oAdd (.seq .lst xs) (.seq .lst ys) = if xs.length + ys.length ≤ lim then .ok (.seq .lst (xs ++ ys), .fr) else .bad := id rfl
@[simp] theorem oAdd_tt : oAdd (.seq .tup xs) (.seq .tup ys) = if xs.length + ys.length ≤ lim then .ok (.seq .tup (xs ++ ys), .cl) else .bad := id rfl
@[simp] theorem oSub_ii : oSub (.int i) (.int j) = .ok (.int (i - j), .cl) := id rfl
@[simp] theorem oMul_ii : oMul (.int i) (.int j) = if mulOk i j then .ok (.int (i * j), .cl) else .bad := id rfl
@[simp] theorem oMul_si : oMul (.str s) (.int i) = if decide (s.length * i.toNat ≤ lim) && decide (-9223372036854775808 ≤ i) && decide (i < 9223372036854775808) then .ok (.str (List.replicate i.toNat s).flatten, .cl) else .bad := id rfl
@[simp] theorem oMul_li : oMul (.seq .lst xs) (.int i) = if decide (-9223372036854775808 ≤ i) && decide (i < 9223372036854775808) && decide (xs.length * i.toNat ≤ lim) then .ok (.seq .lst (List.replicate i.toNat xs).flatten, .fr) else .bad := id rfl
@[simp] theorem oFdiv_ii : oFdiv (.int i) (.int j) = if decide (j ≠ 0) && lg j 9000 then .ok (.int (fdivI i j), .cl) else .bad := id rfl
@[simp] theorem oMod_ii : oMod (.int i) (.int j) = if decide (j ≠ 0) then .ok (.int (fmodI i j), .cl) else .bad := id rfl
@[simp] theorem oPow_ii : oPow (.int i) (.int j) = if decide (0 ≤ j) && decide (j ≤ 1000000) && decide (i.natAbs < 18446744073709551616) then .ok (.int (i ^ j.toNat), .cl) else .bad := id rfl
@[simp] theorem oShr_ii : oShr (.int i) (.int j) = if decide (0 ≤ j) then .ok (.int (i / 2 ^ j.toNat), .cl) else .bad := id rfl
@[simp] theorem cLt_ii : cLt (.int i) (.int j) = .ok (decide (i < j)) := id rfl
@[simp] theorem cLt_ss : cLt (.str s) (.str t) = .ok (ltL s t) := id rfl
@[simp] theorem cLe_ii : cLe (.int i) (.int j) = .ok (decide (i ≤ j)) := id rfl
@[simp] theorem cLe_ss : cLe (.str s) (.str t) = .ok (!ltL t s) := id rfl
@[simp] theorem cGt_ii : cGt (.int i) (.int j) = .ok (decide (j < i)) := id rfl
@[simp] theorem cGt_ss : cGt (.str s) (.str t) = .ok (ltL t s) := id rfl
@[simp] theorem cGe_ii : cGe (.int i) (.int j) = .ok (decide (j ≤ i)) := id rfl
@[simp] theorem cGe_ss : cGe (.str s) (.str t) = .ok (!ltL s t) := id rfl
@[simp] theorem cEq_' : cEq x y = dEqB x y := id rfl
@[simp] theorem cNe_' : cNe x y = (dEqB x y).bind fun b => .ok (!b) := id rfl
@[simp] theorem dEqB_ii : dEqB (.int i) (.int j) = .ok (i == j) := id rfl
@[simp] theorem dEqB_ss : dEqB (.str s) (.str t) = .ok (s == t) := id rfl
@[simp] theorem dEqB_bb : dEqB (.bl a) (.bl b) = .ok (a == b) := id rfl
@[simp] theorem dEqB_nn : dEqB .non .non = .ok true := id rfl
@[simp] theorem dEqB_ni : dEqB .non (.int i) = .ok false := id rfl
@[simp] theorem dEqB_in : dEqB (.int i) .non = .ok false := id rfl
@[simp] theorem dEqB_is : dEqB (.int i) (.str s) = .ok false := id rfl
@[simp] theorem dEqB_si : dEqB (.str s) (.int i) = .ok false := id rfl
@[simp] theorem dEqB_ns : dEqB .non (.str s) = .ok false := id rfl
@[simp] theorem dEqB_sn : dEqB (.str s) .non = .ok false := id rfl
@[simp] theorem dEqB_qq (k' : SK) : dEqB (.seq k xs) (.seq k' ys) = if D.lay 12 (.seq k xs) && D.lay 12 (.seq k' ys) then .ok (((k == .tup) == (k' == .tup)) && D.eqvs xs ys) else .bad := id rfl
@[simp] theorem eqv_ii : D.eqv (.int i) (.int j) = (i == j) := id rfl
@[simp] theorem eqv_ss : D.eqv (.str s) (.str t) = (s == t) := id rfl
@[simp] theorem eqv_bb : D.eqv (.bl a) (.bl b) = (a == b) := id rfl
@[simp] theorem eqv_nn : D.eqv .non .non = true := id rfl
@[simp] theorem eqv_qq (k' : SK) : D.eqv (.seq k xs) (.seq k' ys) = (((k == .tup) == (k' == .tup)) && D.eqvs xs ys) := by simp only [D.eqv]
@[simp] theorem eqvs_nn : D.eqvs [] [] = true := id rfl
@[simp] theorem eqvs_cc : D.eqvs (x :: xs) (y :: ys) = (D.eqv x y && D.eqvs xs ys) := id rfl
@[simp] theorem eqvs_nc : D.eqvs [] (y :: ys) = false := id rfl
@[simp] theorem eqvs_cn : D.eqvs (x :: xs) [] = false := id rfl
@[simp] theorem lay_i : D.lay n (.int i) = true := by cases n <;> rfl
@[simp] theorem lay_b : D.lay n (.bl a) = true := by cases n <;> rfl
@[simp] theorem lay_n : D.lay n .non = true := by cases n <;> rfl
@[simp] theorem lay_s : D.lay n (.str s) = s.all (· < 1114112) := by cases n <;> rfl
@[simp] theorem lay_q : D.lay (n + 1) (.seq k xs) = xs.all (D.lay n) := id rfl
@[simp] theorem cIsN_n : cIsN .non .non = .ok true := id rfl
@[simp] theorem cIsN_i : cIsN (.int i) .non = .ok false := id rfl
@[simp] theorem cIsN_s : cIsN (.str s) .non = .ok false := id rfl
@[simp] theorem cIsN_q : cIsN (.seq k xs) .non = .ok false := id rfl
@[simp] theorem cNotN_n : cNotN .non .non = .ok false := id rfl
@[simp] theorem cNotN_i : cNotN (.int i) .non = .ok true := id rfl
@[simp] theorem cNotN_s : cNotN (.str s) .non = .ok true := id rfl
@[simp] theorem cNotN_q : cNotN (.seq k xs) .non = .ok true := id rfl
@[simp] theorem cIn_cs : cIn (.str [c]) (.str t) = .ok (decide (c ∈ t)) := id rfl
@[simp] theorem cIn_iq : cIn (.int i) (.seq k xs) = if (xs.all D.sc) || (!(k == .tup) && xs.all (D.lay 11)) then .ok (inB (.int i) xs) else .bad := by simp [cIn, D.sc]
@[simp] theorem cIn_sq : cIn (.str s) (.seq k xs) = if (xs.all D.sc) || (!(k == .tup) && s.all (· < 1114112) && xs.all (D.lay 11)) then .ok (inB (.str s) xs) else .bad := by
  unfold cIn
  split
  · rename_i h1 h2; cases h2
  · rename_i h1 h2; cases h2; simp [D.sc]
  · rename_i h _; exact absurd rfl (h _ _)
@[simp] theorem cIn_qq (k' : SK) : cIn (.seq k xs) (.seq k' ys) = if (!(k' == .tup) && D.lay 11 (.seq k xs) && ys.all (D.lay 11)) then .ok (inB (.seq k xs) ys) else .bad := by simp [cIn, D.sc]
@[simp] theorem cNotIn_' : cNotIn x y = (cIn x y).bind fun b => .ok (!b) := id rfl
@[simp] theorem sc_i : (D.int i).sc = true := id rfl
@[simp] theorem sc_b : (D.bl a).sc = true := id rfl
@[simp] theorem sc_n : D.non.sc = true := id rfl
@[simp] theorem sc_s : (D.str s).sc = true := id rfl
@[simp] theorem sc_q : (D.seq k xs).sc = false := id rfl
@[simp] theorem sc_o (ns : List String) : (D.obj C ns xs).sc = false := id rfl
@[simp] theorem dIx_q : dIx (.seq k xs) (.int i) = match atI xs i with | some d => .ok d | none => .bad := id rfl
@[simp] theorem dIx_s : dIx (.str s) (.int i) = if s.length ≤ lim then (match atI s i with | some c => .ok (.str [c]) | none => .bad) else .bad := id rfl
@[simp] theorem dCut_s : dCut (.str s) l h = if s.length ≤ lim then .ok (.str (cutL s l h), .cl) else .bad := id rfl
@[simp] theorem dCut_l : dCut (.seq .lst xs) l h = .ok (.seq .lst (cutL xs l h), .fr) := id rfl
@[simp] theorem dCut_r : dCut (.seq .rol xs) l h = .ok (.seq .lst (cutL xs l h), .fr) := id rfl
@[simp] theorem kept_' : kept vs = if vs.all (fun x => x.2.free || x.1.sc) then .ok (vs.map (·.1)) else .bad := id rfl
@[simp] theorem bLen_q : bLen [.seq k xs] = .ok (.int xs.length) := id rfl
@[simp] theorem bLen_s : bLen [.str s] = if s.length ≤ lim then .ok (.int s.length) else .bad := id rfl
@[simp] theorem bAbs_i : bAbs [.int i] = .ok (.int (if i < 0 then -i else i)) := id rfl
@[simp] theorem bMax_i : bMax [.int i, .int j] = .ok (.int (if j > i then j else i)) := id rfl
@[simp] theorem bMin_i : bMin [.int i, .int j] = .ok (.int (if j < i then j else i)) := id rfl
@[simp] theorem bInt_i : bInt [.int i] = .ok (.int i) := id rfl
@[simp] theorem bInt_b : bInt [.bl a] = .ok (.int (if a then 1 else 0)) := id rfl
@[simp] theorem bStr_i : bStr [.int i] = if lg i 1920 then .ok (.str (decI i)) else .bad := id rfl
@[simp] theorem bDivmod_i : bDivmod [.int i, .int j] = if decide (0 < j) && decide (j < 1073741824) then .ok (.seq .tup [.int (i / j), .int (i % j)]) else .bad := id rfl
@[simp] theorem fFind_c : fFind s (.str [c]) = .ok (.int (findL s c), .cl) := id rfl
@[simp] theorem tn_n : D.non.tn = "NoneType" := id rfl
@[simp] theorem tn_b : (D.bl a).tn = "bool" := id rfl
@[simp] theorem tn_i : (D.int i).tn = "int" := id rfl
@[simp] theorem tn_s : (D.str s).tn = "str" := id rfl
@[simp] theorem tn_t : (D.seq .tup xs).tn = "tuple" := id rfl
@[simp] theorem tn_l : (D.seq .lst xs).tn = "list" := id rfl
@[simp] theorem tn_r : (D.seq .rol xs).tn = "list" := id rfl
@[simp] theorem tn_d (ks : List D) : (D.dic ks xs).tn = "dict" := id rfl
@[simp] theorem noEx_ok {α : Type} (z : α) : noEx (.ok z) = .ok z := id rfl
@[simp] theorem putV_cl : putV n (d, .cl) r = .ok (r.set n (.fz d)) := id rfl
@[simp] theorem putV_fr : putV n (.seq .lst xs, .fr) r = .ok (r.set n (.ow xs)) := id rfl
@[simp] theorem putV_frD (ks : List D) : putV n (.dic ks xs, .fr) r = .ok (r.set n (.oo (.dic ks) xs)) := id rfl
@[simp] theorem putV_own : putV n (d, .own m) r = .ok ((frz m r).set n (.fz d)) := id rfl
@[simp] theorem putAll_n : putAll [] [] r = .ok r := id rfl
@[simp] theorem putAll_c : putAll (n :: is) (d :: xs) r = putAll is xs (r.set n (.fz d)) := id rfl
@[simp] theorem put1_' : put1 n d r = .ok (r.set n (.fz d)) := id rfl
@[simp] theorem putT_t : putT is (.seq .tup xs) r = putAll is xs r := id rfl
@[simp] theorem frzO_n : frzO none r = r := id rfl
@[simp] theorem frzO_s : frzO (some n) r = frz n r := id rfl
@[simp] theorem frz_' : frz n r = match r[n]? with | some (.oo k ds) => r.set n (.fz (k.asD ds)) | _ => r := id rfl
@[simp] theorem noOw_n : noOw [] r = true := id rfl
@[simp] theorem noOw_c : noOw (n :: is) r = ((match r[n]? with | some (.oo _ _) => false | _ => true) && noOw is r) := id rfl
end
@[simp] theorem mList1_q (k : SK) (ds : List D) (t : Tg) : mList1 [(.seq k ds, t)] = .ok (.seq .lst ds, .fr) := id rfl
@[simp] theorem dGet_k (ks vs : List D) (y : D) : dGet (.dic ks vs) y = if y.key then (match dFind ks vs y with
    | some d => .ok d
    | none => .bad) else .bad := id rfl
@[simp] theorem key_i : (D.int i).key = true := id rfl
@[simp] theorem key_s : (D.str s).key = true := id rfl
@[simp] theorem dFind_c (k d y : D) (ks ds : List D) : dFind (k :: ks) (d :: ds) y = if D.eqv k y then some d else dFind ks ds y := id rfl
@[simp] theorem dFind_n (ds : List D) (y : D) : dFind [] ds y = none := by cases ds <;> rfl
@[simp] theorem eqv_is : D.eqv (.int i) (.str s) = false := id rfl
@[simp] theorem eqv_si : D.eqv (.str s) (.int i) = false := id rfl
@[simp] theorem asD_l (ds : List D) : OwK.asD .lst ds = .seq .lst ds := id rfl
@[simp] theorem asD_d (ks ds : List D) : OwK.asD (.dic ks) ds = .dic ks ds := id rfl
@[simp] theorem asD_i (C : String) (ns : List String) (ds : List D) : OwK.asD (.ins C ns) ds = .obj C ns ds := id rfl
@[simp] theorem cNeS_ii : cNeS (.int i) (.int j) = .ok (!(i == j)) := id rfl
@[simp] theorem cNeS_ss : cNeS (.str s) (.str t) = .ok (!(s == t)) := id rfl

end Dm
end

section
set_option linter.all false
/-! Dm: plain lemmas for the mirrors' mathematics. -/
namespace Dm

theorem log2_lt {n k : Nat} (hk : 0 < k) (h : n < 2 ^ k) : n.log2 < k := by
  by_cases h0 : n = 0
  · subst h0
    simpa using hk
  · exact (Nat.log2_lt h0).mpr h
theorem lg_of {i : Int} {n : Nat} (k : Nat) (h : i.natAbs < 2 ^ k) (hk : 0 < k := by decide) (hn : k ≤ n := by decide) : lg i n = true :=
  (lg_def i n).trans (decide_eq_true (Nat.lt_of_lt_of_le (log2_lt hk h) hn))
theorem lg_small {i : Int} (n : Nat) (h : i.natAbs < 18446744073709551616) (hn : 64 ≤ n := by decide) : lg i n = true := lg_of 64 (by simpa using h) (by decide) hn
theorem mulOk_l {i j : Int} (h : i.natAbs < 18446744073709551616) : mulOk i j = true := by simp [mulOk_def, h]
theorem mulOk_r {i j : Int} (h : j.natAbs < 18446744073709551616) : mulOk i j = true := by simp [mulOk_def, h]
theorem mulOk_w {i j : Int} (a b : Nat) (ha : i.natAbs < 2 ^ a) (hb : j.natAbs < 2 ^ b) (h0 : 0 < a := by decide) (h1 : 0 < b := by decide) (h : a + b ≤ 1000000 := by decide) : mulOk i j = true := by
  have x := log2_lt h0 ha
  have y := log2_lt h1 hb
  have : lg2 i j = true := decide_eq_true (by omega)
  simp [mulOk_def, this]
theorem fdivI_pos {i j : Int} (h : 0 < j) : fdivI i j = i / j := if_pos h
theorem fmodI_pos {i j : Int} (h : 0 < j) : fmodI i j = i % j := if_pos h
theorem atI_of {α : Type} {xs : List α} {i : Int} (h0 : 0 ≤ i) (h1 : i < xs.length) : atI xs i = some (xs[i.toNat]'(by omega)) := by
  unfold atI ixN
  rw [if_pos h0, if_pos h1]
  simp
theorem atI_nat {α : Type} {xs : List α} {i : Nat} (h1 : i < xs.length) : atI xs (i : Int) = some xs[i] := by
  rw [atI_of (by omega) (by omega)]
  simp
theorem atI_mem {α : Type} {xs : List α} {i : Int} (h0 : 0 ≤ i) (h1 : i < xs.length) : ∃ c, c ∈ xs ∧ atI xs i = some c := ⟨_, List.getElem_mem _, atI_of h0 h1⟩
theorem sIx_nat (n d k : Nat) : sIx n d (some (k : Int)) = min k n := by
  show (if (k : Int) < 0 then ((k : Int) + (n : Int)).toNat else min (k : Int).toNat n) = min k n
  rw [if_neg (by omega), Int.toNat_natCast]
theorem cutL_nat {α : Type} (xs : List α) (a b : Nat) : cutL xs (some (a : Int)) (some (b : Int)) = (xs.drop a).take (b - a) := by
  unfold cutL
  rw [sIx_nat, sIx_nat]
  by_cases h : a ≤ xs.length
  · rw [Nat.min_eq_left h]
    by_cases h2 : b ≤ xs.length
    · rw [Nat.min_eq_left h2]
    · rw [Nat.min_eq_right (by omega)]
      rw [List.take_of_length_le (by rw [List.length_drop]; omega), List.take_of_length_le (by rw [List.length_drop]; omega)]
  · have e1 : xs.drop (min a xs.length) = [] := List.drop_of_length_le (by omega)
    have e2 : xs.drop a = [] := List.drop_of_length_le (by omega)
    rw [e1, e2]
    simp
theorem cutL_to {α : Type} (xs : List α) (b : Nat) : cutL xs none (some (b : Int)) = xs.take b := by
  have := cutL_nat xs 0 b
  simpa [cutL, sIx] using this
theorem cutL_from {α : Type} (xs : List α) (a : Nat) : cutL xs (some (a : Int)) none = xs.drop a := by
  unfold cutL
  rw [sIx_nat]
  show (xs.drop (min a xs.length)).take (xs.length - min a xs.length) = xs.drop a
  by_cases h : a ≤ xs.length
  · rw [Nat.min_eq_left h, List.take_of_length_le (by rw [List.length_drop]; omega)]
  · have e1 : xs.drop (min a xs.length) = [] := List.drop_of_length_le (by omega)
    have e2 : xs.drop a = [] := List.drop_of_length_le (by omega)
    rw [e1, e2]
    simp
theorem cutL_all {α : Type} (xs : List α) : cutL xs none none = xs := by simp [cutL, sIx]
@[simp] theorem rangeL_len (lo : Int) (n : Nat) : (rangeL lo n).length = n := by simp [rangeL]
theorem rangeL_get {lo : Int} {n i : Nat} {d : D} (h : (rangeL lo n)[i]? = some d) : i < n ∧ d = .int (lo + (i : Int)) := by
  unfold rangeL at h
  rw [List.getElem?_map] at h
  by_cases hi : i < n
  · rw [List.getElem?_range hi] at h
    cases h
    exact ⟨hi, rfl⟩
  · rw [List.getElem?_eq_none (by simpa using hi)] at h
    cases h
theorem rgOk_of {i : Int} (h0 : -4611686018427387904 ≤ i) (h1 : i < 4611686018427387904) : rgOk i = true := by simp [rgOk_def, h0, h1]

/-- a loop that goes to its end: a word P of the turn and the slots -/
theorem turns_inv {put : D → Rho → Res Rho} {b : SM} (P : Nat → Rho → Prop) : ∀ {xs : List D} {ρ : Rho} (k : Nat), P k ρ →
    (∀ i d ρ, xs[i]? = some d → P (k + i) ρ → ∃ ρ1, put d ρ = .ok ρ1 ∧ ∃ o ρ2, b ρ1 = .ok o ∧ (o = .nx ρ2 ∨ o = .ct ρ2) ∧ P (k + i + 1) ρ2) → ∃ ρ', turns put b xs ρ = .ok (.nx ρ') ∧ P (k + xs.length) ρ'
  | [], ρ, k, h, _ => ⟨ρ, rfl, h⟩
  | x :: xs, ρ, k, h, hs => by
    obtain ⟨ρ1, e1, o, ρ2, e2, ho, h2⟩ := hs 0 x ρ rfl h
    have ih := turns_inv P (xs := xs) (ρ := ρ2) (k + 1) h2 fun i d ρ hd hp => by
      have := hs (i + 1) d ρ (by simpa using hd) (by rw [show k + (i + 1) = k + 1 + i by omega]; exact hp)
      rw [show k + (i + 1) = k + 1 + i by omega] at this
      exact this
    obtain ⟨ρ', e3, h3⟩ := ih
    refine ⟨ρ', ?_, by rw [show k + (x :: xs).length = k + 1 + xs.length by rw [List.length_cons]; omega]; exact h3⟩
    unfold turns
    rw [e1, Res.bind_ok, e2, Res.bind_ok]
    rcases ho with rfl | rfl
    · exact e3
    · exact e3
theorem turns_inv0 {put : D → Rho → Res Rho} {b : SM} (P : Nat → Rho → Prop) {xs : List D} {ρ : Rho} (h : P 0 ρ)
    (hs : ∀ i d ρ, xs[i]? = some d → P i ρ → ∃ ρ1, put d ρ = .ok ρ1 ∧ ∃ o ρ2, b ρ1 = .ok o ∧ (o = .nx ρ2 ∨ o = .ct ρ2) ∧ P (i + 1) ρ2) : ∃ ρ', turns put b xs ρ = .ok (.nx ρ') ∧ P xs.length ρ' := by
  have := turns_inv P 0 h (xs := xs) (put := put) (b := b) fun i d ρ hd hp => by
    rw [Nat.zero_add] at hp ⊢
    exact hs i d ρ hd hp
  rwa [Nat.zero_add] at this
/-- a loop that is left in its turn k -/
theorem turns_left {put : D → Rho → Res Rho} {b : SM} (P : Nat → Rho → Prop) (r : Out) (hr : ∀ c, r.turn c = .ok r) : ∀ {xs : List D} {ρ : Rho} (j k : Nat), P j ρ → k < xs.length →
    (∀ i d ρ, i < k → xs[i]? = some d → P (j + i) ρ → ∃ ρ1, put d ρ = .ok ρ1 ∧ ∃ o ρ2, b ρ1 = .ok o ∧ (o = .nx ρ2 ∨ o = .ct ρ2) ∧ P (j + i + 1) ρ2) →
    (∀ d ρ, xs[k]? = some d → P (j + k) ρ → ∃ ρ1, put d ρ = .ok ρ1 ∧ b ρ1 = .ok r) → turns put b xs ρ = .ok r
  | [], ρ, j, k, h, hk, _, _ => by simp at hk
  | x :: xs, ρ, j, 0, h, hk, hs, hl => by
    obtain ⟨ρ1, e1, e2⟩ := hl x ρ rfl h
    unfold turns
    rw [e1, Res.bind_ok, e2, Res.bind_ok, hr]
  | x :: xs, ρ, j, k + 1, h, hk, hs, hl => by
    obtain ⟨ρ1, e1, o, ρ2, e2, ho, h2⟩ := hs 0 x ρ (by omega) rfl h
    have ih := turns_left P r hr (xs := xs) (ρ := ρ2) (j + 1) k h2 (by simpa using hk) (fun i d ρ hi hd hp => by
      have := hs (i + 1) d ρ (by omega) (by simpa using hd) (by rw [show j + (i + 1) = j + 1 + i by omega]; exact hp)
      rw [show j + (i + 1) = j + 1 + i by omega] at this
      exact this) fun d ρ hd hp => hl d ρ (by simpa using hd) (by rw [show j + (k + 1) = j + 1 + k by omega]; exact hp)
    unfold turns
    rw [e1, Res.bind_ok, e2, Res.bind_ok]
    rcases ho with rfl | rfl
    · exact ih
    · exact ih
/-- a comprehension without a test, whose elements come out -/
theorem comp_map {put : D → Rho → Res Rho} {e : EM} {ρ : Rho} (f : D → D) : ∀ {xs : List D}, (∀ d ∈ xs, ∃ ρ1, put d ρ = .ok ρ1 ∧ ∃ t, e ρ1 = .ok (f d, t) ∧ (t.free || (f d).sc) = true) → comp put tmYes e ρ xs = .ok (xs.map f)
  | [], _ => rfl
  | x :: xs, h => by
    obtain ⟨ρ1, e1, t, e2, e3⟩ := h x (List.mem_cons_self ..)
    have ih := comp_map f (xs := xs) fun d hd => h d (List.mem_cons_of_mem _ hd)
    unfold comp
    have e0 : tmYes ρ1 = .ok true := rfl
    simp only [e1, noEx, Res.bind_ok, e0, if_true, e2, e3, ih, List.map_cons]
/-! the same, before what follows -/
theorem tb_inv {β : Type} {put : D → Rho → Res Rho} {b : SM} (P : Nat → Rho → Prop) {xs : List D} {ρ : Rho} {f : Out → Res β} {R : Res β} (h : P 0 ρ)
    (hs : ∀ i d ρ, xs[i]? = some d → P i ρ → ∃ ρ1, put d ρ = .ok ρ1 ∧ ∃ o ρ2, b ρ1 = .ok o ∧ (o = .nx ρ2 ∨ o = .ct ρ2) ∧ P (i + 1) ρ2)
    (hk : ∀ ρ', P xs.length ρ' → f (.nx ρ') = R) : (turns put b xs ρ).bind f = R := by
  obtain ⟨ρ', e, h2⟩ := turns_inv0 P h hs
  rw [e]
  exact hk ρ' h2
theorem tf_inv {put : D → Rho → Res Rho} {b : SM} (P : Nat → Rho → Prop) {xs : List D} {ρ : Rho} {f : Out → Res Out} {R : Res (D × Bool)} (h : P 0 ρ)
    (hs : ∀ i d ρ, xs[i]? = some d → P i ρ → ∃ ρ1, put d ρ = .ok ρ1 ∧ ∃ o ρ2, b ρ1 = .ok o ∧ (o = .nx ρ2 ∨ o = .ct ρ2) ∧ P (i + 1) ρ2)
    (hk : ∀ ρ', P xs.length ρ' → (f (.nx ρ')).fin = R) : ((turns put b xs ρ).bind f).fin = R := by
  obtain ⟨ρ', e, h2⟩ := turns_inv0 P h hs
  rw [e]
  exact hk ρ' h2
theorem tb_left {β : Type} {put : D → Rho → Res Rho} {b : SM} (P : Nat → Rho → Prop) (r : Out) (hr : ∀ c, r.turn c = .ok r) (k : Nat) {xs : List D} {ρ : Rho} {f : Out → Res β} {R : Res β} (h : P 0 ρ) (hl : k < xs.length)
    (hs : ∀ i d ρ, i < k → xs[i]? = some d → P i ρ → ∃ ρ1, put d ρ = .ok ρ1 ∧ ∃ o ρ2, b ρ1 = .ok o ∧ (o = .nx ρ2 ∨ o = .ct ρ2) ∧ P (i + 1) ρ2)
    (he : ∀ d ρ, xs[k]? = some d → P k ρ → ∃ ρ1, put d ρ = .ok ρ1 ∧ b ρ1 = .ok r)
    (hk : f r = R) : (turns put b xs ρ).bind f = R := by
  rw [turns_left P r hr 0 k h hl (fun i d ρ hi hd hp => by rw [Nat.zero_add] at hp ⊢; exact hs i d ρ hi hd hp) fun d ρ hd hp => by rw [Nat.zero_add] at hp; exact he d ρ hd hp]
  exact hk
theorem tf_left {put : D → Rho → Res Rho} {b : SM} (P : Nat → Rho → Prop) (r : Out) (hr : ∀ c, r.turn c = .ok r) (k : Nat) {xs : List D} {ρ : Rho} {f : Out → Res Out} {R : Res (D × Bool)} (h : P 0 ρ) (hl : k < xs.length)
    (hs : ∀ i d ρ, i < k → xs[i]? = some d → P i ρ → ∃ ρ1, put d ρ = .ok ρ1 ∧ ∃ o ρ2, b ρ1 = .ok o ∧ (o = .nx ρ2 ∨ o = .ct ρ2) ∧ P (i + 1) ρ2)
    (he : ∀ d ρ, xs[k]? = some d → P k ρ → ∃ ρ1, put d ρ = .ok ρ1 ∧ b ρ1 = .ok r)
    (hk : (f r).fin = R) : ((turns put b xs ρ).bind f).fin = R := by
  rw [turns_left P r hr 0 k h hl (fun i d ρ hi hd hp => by rw [Nat.zero_add] at hp ⊢; exact hs i d ρ hi hd hp) fun d ρ hd hp => by rw [Nat.zero_add] at hp; exact he d ρ hd hp]
  exact hk
theorem t_inv {put : D → Rho → Res Rho} {b : SM} {β : Type} (Q : Res β → Prop) (P : Nat → Rho → Prop) {xs : List D} {ρ : Rho} {f : Out → Res β} (h : P 0 ρ)
    (hs : ∀ i d ρ, xs[i]? = some d → P i ρ → ∃ ρ1, put d ρ = .ok ρ1 ∧ ∃ o ρ2, b ρ1 = .ok o ∧ (o = .nx ρ2 ∨ o = .ct ρ2) ∧ P (i + 1) ρ2)
    (hk : ∀ ρ', P xs.length ρ' → Q (f (.nx ρ'))) : Q ((turns put b xs ρ).bind f) := by
  obtain ⟨ρ', e, h2⟩ := turns_inv0 P h hs
  rw [e]
  exact hk ρ' h2
theorem q_inv {put : D → Rho → Res Rho} {b : SM} (Q : Res (D × Bool) → Prop) (P : Nat → Rho → Prop) {xs : List D} {ρ : Rho} {f : Out → Res Out} (h : P 0 ρ)
    (hs : ∀ i d ρ, xs[i]? = some d → P i ρ → ∃ ρ1, put d ρ = .ok ρ1 ∧ ∃ o ρ2, b ρ1 = .ok o ∧ (o = .nx ρ2 ∨ o = .ct ρ2) ∧ P (i + 1) ρ2)
    (hk : ∀ ρ', P xs.length ρ' → Q (f (.nx ρ')).fin) : Q ((turns put b xs ρ).bind f).fin := by
  obtain ⟨ρ', e, h2⟩ := turns_inv0 P h hs
  rw [e]
  exact hk ρ' h2
/-- a turn goes on, to slots with P -/
def Stp (P : Rho → Prop) : Res Out → Prop
  | .ok (.nx ρ) => P ρ
  | .ok (.ct ρ) => P ρ
  | _ => False
@[simp] theorem Stp_nx (P : Rho → Prop) (ρ : Rho) : Stp P (.ok (.nx ρ)) = P ρ := rfl
@[simp] theorem Stp_ct (P : Rho → Prop) (ρ : Rho) : Stp P (.ok (.ct ρ)) = P ρ := rfl
theorem Stp.ex {P : Rho → Prop} {put : Res Rho} {b : SM} (h : Stp P (put.bind b)) : ∃ ρ1, put = .ok ρ1 ∧ ∃ o ρ2, b ρ1 = .ok o ∧ (o = .nx ρ2 ∨ o = .ct ρ2) ∧ P ρ2 := by
  cases put with
  | ok ρ1 =>
    refine ⟨ρ1, rfl, ?_⟩
    rw [Res.bind_ok] at h
    cases e : b ρ1 with
    | ok o =>
      rw [e] at h
      cases o with
      | nx ρ => exact ⟨_, _, rfl, .inl rfl, h⟩
      | ct ρ => exact ⟨_, _, rfl, .inr rfl, h⟩
      | _ => exact False.elim h
    | ex C => rw [e] at h; exact False.elim h
    | bad => rw [e] at h; exact False.elim h
  | ex C => exact False.elim h
  | bad => exact False.elim h
theorem t_run {put : D → Rho → Res Rho} {b : SM} {β : Type} (Q : Res β → Prop) (P : Nat → Rho → Prop) {xs : List D} {ρ : Rho} {f : Out → Res β} (h : P 0 ρ)
    (hs : ∀ i d ρ, xs[i]? = some d → P i ρ → Stp (P (i + 1)) ((put d ρ).bind b))
    (hk : ∀ ρ', P xs.length ρ' → Q (f (.nx ρ'))) : Q ((turns put b xs ρ).bind f) := t_inv Q P h (fun i d ρ hd hp => (hs i d ρ hd hp).ex) hk
theorem q_run {put : D → Rho → Res Rho} {b : SM} (Q : Res (D × Bool) → Prop) (P : Nat → Rho → Prop) {xs : List D} {ρ : Rho} {f : Out → Res Out} (h : P 0 ρ)
    (hs : ∀ i d ρ, xs[i]? = some d → P i ρ → Stp (P (i + 1)) ((put d ρ).bind b))
    (hk : ∀ ρ', P xs.length ρ' → Q (f (.nx ρ')).fin) : Q ((turns put b xs ρ).bind f).fin := q_inv Q P h (fun i d ρ hd hp => (hs i d ρ hd hp).ex) hk
theorem b_run {put : D → Rho → Res Rho} {b : SM} (Q : Res Out → Prop) (P : Nat → Rho → Prop) {xs : List D} {ρ : Rho} (h : P 0 ρ)
    (hs : ∀ i d ρ, xs[i]? = some d → P i ρ → Stp (P (i + 1)) ((put d ρ).bind b))
    (hk : ∀ ρ', P xs.length ρ' → Q (.ok (.nx ρ'))) : Q (turns put b xs ρ) := by
  obtain ⟨ρ', e, h2⟩ := turns_inv0 P h (fun i d ρ hd hp => (hs i d ρ hd hp).ex)
  rw [e]
  exact hk ρ' h2
theorem t_exit {β : Type} {put : D → Rho → Res Rho} {b : SM} (Q : Res β → Prop) (P : Nat → Rho → Prop) (r : Out) (hr : ∀ c, r.turn c = .ok r) (k : Nat) {xs : List D} {ρ : Rho} {f : Out → Res β} (h : P 0 ρ) (hl : k < xs.length)
    (hs : ∀ i d ρ, i < k → xs[i]? = some d → P i ρ → Stp (P (i + 1)) ((put d ρ).bind b))
    (he : ∀ d ρ, xs[k]? = some d → P k ρ → (put d ρ).bind b = .ok r)
    (hk : Q (f r)) : Q ((turns put b xs ρ).bind f) := by
  rw [turns_left P r hr 0 k h hl (fun i d ρ hi hd hp => by rw [Nat.zero_add] at hp ⊢; exact (hs i d ρ hi hd hp).ex) fun d ρ hd hp => by
    rw [Nat.zero_add] at hp
    have := he d ρ hd hp
    cases e : put d ρ with
    | ok ρ1 => rw [e, Res.bind_ok] at this; exact ⟨ρ1, rfl, this⟩
    | ex C => rw [e] at this; cases this
    | bad => rw [e] at this; cases this]
  exact hk
theorem q_exit {put : D → Rho → Res Rho} {b : SM} (Q : Res (D × Bool) → Prop) (P : Nat → Rho → Prop) (r : Out) (hr : ∀ c, r.turn c = .ok r) (k : Nat) {xs : List D} {ρ : Rho} {f : Out → Res Out} (h : P 0 ρ) (hl : k < xs.length)
    (hs : ∀ i d ρ, i < k → xs[i]? = some d → P i ρ → Stp (P (i + 1)) ((put d ρ).bind b))
    (he : ∀ d ρ, xs[k]? = some d → P k ρ → (put d ρ).bind b = .ok r)
    (hk : Q (f r).fin) : Q ((turns put b xs ρ).bind f).fin := t_exit (fun x => Q x.fin) P r hr k h hl hs he hk
/-! for simp (disch := omega) -/
theorem le_lim {n : Nat} (h : n ≤ 16777216) : n ≤ lim := by rw [lim_def]; exact h
theorem lt_lim {n : Nat} (h : n < 16777216) : n < lim := by rw [lim_def]; exact h
theorem comp_of {α : Type} {put : D → Rho → Res Rho} {e : EM} {ρ : Rho} (h g : α → D) (t : Tg) (ht : ∀ c, (t.free || (g c).sc) = true) : ∀ {cs : List α}, (∀ c ∈ cs, (put (h c) ρ).bind e = .ok (g c, t)) → comp put tmYes e ρ (cs.map h) = .ok (cs.map g)
  | [], _ => rfl
  | x :: xs, hs => by
    have e2 := hs x (List.mem_cons_self ..)
    have ih := comp_of h g t ht (cs := xs) fun d hd => hs d (List.mem_cons_of_mem _ hd)
    rw [List.map_cons]
    unfold comp
    have e0 : ∀ r, tmYes r = .ok true := fun _ => rfl
    cases e1 : put (h x) ρ with
    | ok ρ1 =>
      rw [e1, Res.bind_ok] at e2
      simp only [noEx, Res.bind_ok, e0, if_true, e2, ht x, ih, List.map_cons]
    | ex C => rw [e1] at e2; cases e2
    | bad => rw [e1] at e2; cases e2
/-- a while that goes to its end: a word P and a measure -/
theorem while_run {t : TM} {b : SM} (P : Rho → Prop) (m : Rho → Nat) (R : Rho → Prop)
    (hs : ∀ ρ, P ρ → (t ρ = .ok false ∧ R ρ) ∨ (t ρ = .ok true ∧ Stp (fun ρ' => P ρ' ∧ m ρ' < m ρ) (b ρ))) : ∀ {n : Nat} {ρ : Rho}, P ρ → m ρ < n → ∃ ρ', smWhile t b n ρ = .ok (.nx ρ') ∧ R ρ'
  | 0, ρ, _, h => absurd h (Nat.not_lt_zero _)
  | n + 1, ρ, hp, hm => by
    unfold smWhile
    rcases hs ρ hp with ⟨e, r⟩ | ⟨e, h⟩
    · rw [e]
      exact ⟨ρ, rfl, r⟩
    · rw [e]
      have h2 : Stp (fun ρ' => P ρ' ∧ m ρ' < m ρ) ((Res.ok ρ).bind b) := h
      obtain ⟨ρ1, e1, o, ρ2, e2, ho, p2, l2⟩ := h2.ex
      cases e1
      obtain ⟨ρ', e3, r⟩ := while_run P m R hs (n := n) p2 (by omega)
      refine ⟨ρ', ?_, r⟩
      show (b ρ).bind (fun o => o.turn (smWhile t b n)) = _
      rw [e2]
      rcases ho with rfl | rfl
      · exact e3
      · exact e3
theorem tw_run {t : TM} {b : SM} {β : Type} (Q : Res β → Prop) (P : Rho → Prop) (m : Rho → Nat) (R : Rho → Prop) {n : Nat} {ρ : Rho} {f : Out → Res β} (h : P ρ) (hm : m ρ < n)
    (hs : ∀ ρ, P ρ → (t ρ = .ok false ∧ R ρ) ∨ (t ρ = .ok true ∧ Stp (fun ρ' => P ρ' ∧ m ρ' < m ρ) (b ρ)))
    (hk : ∀ ρ', R ρ' → Q (f (.nx ρ'))) : Q ((smWhile t b n ρ).bind f) := by
  obtain ⟨ρ', e, r⟩ := while_run P m R hs h hm
  rw [e]
  exact hk ρ' r
theorem qw_run {t : TM} {b : SM} (Q : Res (D × Bool) → Prop) (P : Rho → Prop) (m : Rho → Nat) (R : Rho → Prop) {n : Nat} {ρ : Rho} {f : Out → Res Out} (h : P ρ) (hm : m ρ < n)
    (hs : ∀ ρ, P ρ → (t ρ = .ok false ∧ R ρ) ∨ (t ρ = .ok true ∧ Stp (fun ρ' => P ρ' ∧ m ρ' < m ρ) (b ρ)))
    (hk : ∀ ρ', R ρ' → Q (f (.nx ρ')).fin) : Q ((smWhile t b n ρ).bind f).fin := by
  obtain ⟨ρ', e, r⟩ := while_run P m R hs h hm
  rw [e]
  exact hk ρ' r
theorem mul_one (x n : Nat) (h : n ≤ 1000) : oMul (.str [x]) (.int n) = .ok (.str (List.replicate n x), .cl) := by
  have h1 : (n : Int) ≤ 1048576 := by omega
  have h2 : (-9223372036854775808 : Int) ≤ n := by omega
  have e : (List.replicate n [x]).flatten = List.replicate n x := by
    induction n with
    | zero => rfl
    | succ n ih => rw [List.replicate_succ, List.replicate_succ, List.flatten_cons, ih (by omega) (by omega) (by omega)]; rfl
  have h3 : n ≤ lim := by rw [lim_def]; omega
  have h4 : (n : Int) < 9223372036854775808 := by omega
  show (if decide ([x].length * (n : Int).toNat ≤ lim) && decide (-9223372036854775808 ≤ (n : Int)) && decide ((n : Int) < 9223372036854775808) then sOk (.str (List.replicate (n : Int).toNat [x]).flatten) else .bad) = _
  simp [h1, h2, h3, h4, e]
theorem at20 (x y : D) : atI [x, y] 0 = some x := rfl
theorem at21 (x y : D) : atI [x, y] 1 = some y := rfl
/-- a loop that may be left in some turn, with a word F of how -/
theorem turns_or {put : D → Rho → Res Rho} {b : SM} (P : Nat → Rho → Prop) (F : Out → Prop) : ∀ {xs : List D} {ρ : Rho} (k : Nat), P k ρ →
    (∀ i d ρ, xs[i]? = some d → P (k + i) ρ → Stp (P (k + i + 1)) ((put d ρ).bind b) ∨ ∃ r, (put d ρ).bind b = .ok r ∧ (∀ c, r.turn c = .ok r) ∧ F r) →
    (∃ ρ', turns put b xs ρ = .ok (.nx ρ') ∧ P (k + xs.length) ρ') ∨ ∃ r, turns put b xs ρ = .ok r ∧ F r
  | [], ρ, k, h, _ => .inl ⟨ρ, rfl, h⟩
  | x :: xs, ρ, k, h, hs => by
    have tail : ∀ ρ2, P (k + 1) ρ2 → (∃ ρ', turns put b xs ρ2 = .ok (.nx ρ') ∧ P (k + 1 + xs.length) ρ') ∨ ∃ r, turns put b xs ρ2 = .ok r ∧ F r := fun ρ2 h2 =>
      turns_or P F (xs := xs) (ρ := ρ2) (k + 1) h2 fun i d ρ hd hp => by
        have := hs (i + 1) d ρ (by simpa using hd) (by rw [show k + (i + 1) = k + 1 + i by omega]; exact hp)
        rw [show k + (i + 1) = k + 1 + i by omega] at this
        exact this
    have e0 : k + (x :: xs).length = k + 1 + xs.length := by rw [List.length_cons]; omega
    rcases hs 0 x ρ rfl h with h1 | ⟨r, e, hr, f⟩
    · obtain ⟨ρ1, e1, o, ρ2, e2, ho, h2⟩ := h1.ex
      unfold turns
      rw [e1, Res.bind_ok, e2, Res.bind_ok, e0]
      rcases ho with rfl | rfl
      · exact tail ρ2 h2
      · exact tail ρ2 h2
    · refine .inr ⟨r, ?_, f⟩
      unfold turns
      cases e1 : put x ρ with
      | ok ρ1 =>
        rw [e1, Res.bind_ok] at e
        rw [Res.bind_ok, e, Res.bind_ok, hr]
      | ex C => rw [e1] at e; cases e
      | bad => rw [e1] at e; cases e
theorem q_or {put : D → Rho → Res Rho} {b : SM} (Q : Res (D × Bool) → Prop) (P : Nat → Rho → Prop) (F : Out → Prop) {xs : List D} {ρ : Rho} {f : Out → Res Out} (h : P 0 ρ)
    (hs : ∀ i d ρ, xs[i]? = some d → P i ρ → Stp (P (i + 1)) ((put d ρ).bind b) ∨ ∃ r, (put d ρ).bind b = .ok r ∧ (∀ c, r.turn c = .ok r) ∧ F r)
    (hk : ∀ ρ', P xs.length ρ' → Q (f (.nx ρ')).fin) (he : ∀ r, F r → Q (f r).fin) : Q ((turns put b xs ρ).bind f).fin := by
  rcases turns_or P F (xs := xs) 0 h (fun i d ρ hd hp => by rw [Nat.zero_add] at hp ⊢; exact hs i d ρ hd hp) with ⟨ρ', e, h2⟩ | ⟨r, e, h2⟩
  · rw [e]
    rw [Nat.zero_add] at h2
    exact hk ρ' h2
  · rw [e]
    exact he r h2
theorem t_or {put : D → Rho → Res Rho} {b : SM} {β : Type} (Q : Res β → Prop) (P : Nat → Rho → Prop) (F : Out → Prop) {xs : List D} {ρ : Rho} {f : Out → Res β} (h : P 0 ρ)
    (hs : ∀ i d ρ, xs[i]? = some d → P i ρ → Stp (P (i + 1)) ((put d ρ).bind b) ∨ ∃ r, (put d ρ).bind b = .ok r ∧ (∀ c, r.turn c = .ok r) ∧ F r)
    (hk : ∀ ρ', P xs.length ρ' → Q (f (.nx ρ'))) (he : ∀ r, F r → Q (f r)) : Q ((turns put b xs ρ).bind f) := by
  rcases turns_or P F (xs := xs) 0 h (fun i d ρ hd hp => by rw [Nat.zero_add] at hp ⊢; exact hs i d ρ hd hp) with ⟨ρ', e, h2⟩ | ⟨r, e, h2⟩
  · rw [e]
    rw [Nat.zero_add] at h2
    exact hk ρ' h2
  · rw [e]
    exact he r h2
end Dm
end

section
set_option linter.all false
/-! Dm: further mirrors: xs.count(v). -/
namespace Dm
/-- xs.count(v) of a list of data -/
noncomputable def mCount (a b : EM) : EM := fun ρ => (a ρ).bind fun x => match x.1 with
  | .seq .lst ds => (b ρ).bind fun y => if D.lay 11 y.1 && ds.all (D.lay 11) && decide (ds.length ≤ lim) then .ok (.int (ds.countP fun d => D.eqv d y.1), .cl) else .bad
  | _ => .bad
@[simp] theorem e_mCount (a b : EM) (s0 : Sl) (r0 : Rho) : mCount a b (s0 :: r0) = (a (s0 :: r0)).bind fun x => match x.1 with
  | .seq .lst ds => (b (s0 :: r0)).bind fun y => if D.lay 11 y.1 && ds.all (D.lay 11) && decide (ds.length ≤ lim) then .ok (.int (ds.countP fun d => D.eqv d y.1), .cl) else .bad
  | _ => .bad := id rfl
/-- xs.index(v) of a list of data -/
noncomputable def mIdxD (a b : EM) : EM := fun ρ => (a ρ).bind fun x => match x.1 with
  | .seq .lst ds => (b ρ).bind fun y => if D.lay 11 y.1 && ds.all (D.lay 11) && decide (ds.length ≤ lim) then (match ds.findIdx? fun d => D.eqv d y.1 with
    | some j => .ok (.int j, .cl)
    | none => .bad) else .bad
  | _ => .bad
@[simp] theorem e_mIdxD (a b : EM) (s0 : Sl) (r0 : Rho) : mIdxD a b (s0 :: r0) = (a (s0 :: r0)).bind fun x => match x.1 with
  | .seq .lst ds => (b (s0 :: r0)).bind fun y => if D.lay 11 y.1 && ds.all (D.lay 11) && decide (ds.length ≤ lim) then (match ds.findIdx? fun d => D.eqv d y.1 with
    | some j => .ok (.int j, .cl)
    | none => .bad) else .bad
  | _ => .bad := id rfl
end Dm
end

section
set_option linter.all false
/-! Dm: further mirrors: pairs of places, and dicts by them. -/
noncomputable section
namespace Dm
abbrev Pl := Int × Int × Int
abbrev Pr := Pl × Pl
def plD (x : Pl) : D := .seq .tup [.int x.1, .int x.2.1, .int x.2.2]
def prD (x : Pr) : D := .seq .tup [plD x.1, plD x.2]
def asPl : D → Option Pl
  | .seq .tup [.int a, .int b, .int c] => some (a, b, c)
  | _ => none
def asPr : D → Option Pr
  | .seq .tup [x, y] => (asPl x).bind fun p => (asPl y).map fun q => (p, q)
  | _ => none
def asPrs : List D → Option (List Pr)
  | [] => some []
  | d :: ds => (asPr d).bind fun p => (asPrs ds).map fun ps => p :: ps
@[simp] theorem asPl_plD (x : Pl) : asPl (plD x) = some x := id rfl
@[simp] theorem asPl_tup (a b c : Int) : asPl (.seq .tup [.int a, .int b, .int c]) = some (a, b, c) := id rfl
@[simp] theorem asPr_prD (x : Pr) : asPr (prD x) = some x := id rfl
@[simp] theorem asPr_tup (x y : Pl) : asPr (.seq .tup [plD x, plD y]) = some (x, y) := id rfl
theorem asPl_eq : ∀ {d : D} {x : Pl}, asPl d = some x → d = plD x := fun {d x} h => by
  unfold asPl at h
  split at h
  · cases h; rfl
  · cases h
theorem asPr_eq : ∀ {d : D} {x : Pr}, asPr d = some x → d = prD x := fun {d x} h => by
  unfold asPr at h
  split at h
  · rename_i a b
    cases e1 : asPl a with
    | none => rw [e1] at h; cases h
    | some p =>
      rw [e1] at h
      cases e2 : asPl b with
      | none => rw [e2] at h; cases h
      | some q =>
        rw [e2] at h
        cases h
        rw [asPl_eq e1, asPl_eq e2]
        rfl
  · cases h
@[simp] theorem asPrs_map : ∀ ps : List Pr, asPrs (ps.map prD) = some ps
  | [] => rfl
  | p :: ps => by rw [List.map_cons, asPrs, asPr_prD, asPrs_map ps]; rfl
theorem asPrs_eq : ∀ {ds : List D} {ps : List Pr}, asPrs ds = some ps → ds = ps.map prD
  | [], ps, h => by cases h; rfl
  | d :: ds, ps, h => by
    unfold asPrs at h
    cases e1 : asPr d with
    | none => rw [e1] at h; cases h
    | some p =>
      rw [e1] at h
      cases e2 : asPrs ds with
      | none => rw [e2] at h; cases h
      | some qs =>
        rw [e2] at h
        cases h
        rw [asPr_eq e1, asPrs_eq e2]
        rfl
theorem plD_inj {x y : Pl} (h : plD x = plD y) : x = y := by
  have := congrArg asPl h
  simpa using this
theorem prD_inj {x y : Pr} (h : prD x = prD y) : x = y := by
  have := congrArg asPr h
  simpa using this
/-! the order -/
def ltPl (x y : Pl) : Bool := if x.1 = y.1 then (if x.2.1 = y.2.1 then decide (x.2.2 < y.2.2) else decide (x.2.1 < y.2.1)) else decide (x.1 < y.1)
def ltP (p q : Pr) : Bool := if p.1 = q.1 then ltPl p.2 q.2 else ltPl p.1 q.1
def leP (p q : Pr) : Bool := !ltP q p
def sortP (ps : List Pr) : List Pr := ps.mergeSort leP
def sortPs (o : Option (List Pr)) : Res Val := match o with
  | some ps => if ps.length ≤ lim then .ok (.seq .lst ((sortP ps).map prD), .fr) else .bad
  | none => .bad
@[simp] theorem sortPs_some (ps : List Pr) : sortPs (some ps) = if ps.length ≤ lim then .ok (.seq .lst ((sortP ps).map prD), .fr) else .bad := id rfl
/-- sorted(xs) of pairs of places, sorted(d) of a dict by such -/
def mSortT (a : EM) : EM := fun ρ => (a ρ).bind fun x => match x.1 with
  | .seq .lst ds => sortPs (asPrs ds)
  | .dit ks _ => sortPs (asPrs ks)
  | _ => .bad
@[simp] theorem e_mSortT (a : EM) (s0 : Sl) (r0 : Rho) : mSortT a (s0 :: r0) = (a (s0 :: r0)).bind fun x => match x.1 with
  | .seq .lst ds => sortPs (asPrs ds)
  | .dit ks _ => sortPs (asPrs ks)
  | _ => .bad := id rfl
/-- {} -/
def mDt0 : EM := fun _ => .ok (.dit [] [], .fr)
@[simp] theorem e_mDt0 (s0 : Sl) (r0 : Rho) : mDt0 (s0 :: r0) = .ok (.dit [] [], .fr) := id rfl
@[simp] theorem asD_dit (ks ds : List D) : (OwK.dit ks).asD ds = .dit ks ds := id rfl
@[simp] theorem putV_dit (i : Nat) (ks ds : List D) (ρ : Rho) : putV i (.dit ks ds, .fr) ρ = .ok (ρ.set i (.oo (.dit ks) ds)) := id rfl
/-- the values of a dict that holds True alone -/
def trues (n : Nat) : List D := List.replicate n (.bl true)
def D.isTrue : D → Bool
  | .bl true => true
  | _ => false
@[simp] theorem isTrue_bl : (D.bl true).isTrue = true := id rfl
theorem isTrue_eq {d : D} (h : d.isTrue = true) : d = .bl true := by
  unfold D.isTrue at h
  split at h
  · rfl
  · cases h
def putPr (o : Option (List Pr)) (p : Option Pr) (ds : List D) : Option (List D × List D) := match o, p with
  | some ps, some q => if ds.length < lim ∧ ds.all D.isTrue = true then (if q ∈ ps then some (ps.map prD, ds) else some (ps.map prD ++ [prD q], ds ++ [.bl true])) else none
  | _, _ => none
@[simp] theorem putPr_some (ps : List Pr) (q : Pr) (ds : List D) : putPr (some ps) (some q) ds = if ds.length < lim ∧ ds.all D.isTrue = true then (if q ∈ ps then some (ps.map prD, ds) else some (ps.map prD ++ [prD q], ds ++ [.bl true])) else none := id rfl
/-- d[k] = True -/
def smPutT (i : Nat) (b c : EM) : SM := fun ρ => (c ρ).st ρ fun z => match ρ[i]? with
  | some (.oo (.dit ks) ds) => (b ρ).st ρ fun y => if z.1.isTrue then (match putPr (asPrs ks) (asPr y.1) ds with
    | some (ks', ds') => .ok (.nx (ρ.set i (.oo (.dit ks') ds')))
    | none => .bad) else .bad
  | _ => .bad
@[simp] theorem e_smPutT (i : Nat) (b c : EM) (s0 : Sl) (r0 : Rho) : smPutT i b c (s0 :: r0) = (c (s0 :: r0)).st (s0 :: r0) fun z => match (s0 :: r0)[i]? with
  | some (.oo (.dit ks) ds) => (b (s0 :: r0)).st (s0 :: r0) fun y => if z.1.isTrue then (match putPr (asPrs ks) (asPr y.1) ds with
    | some (ks', ds') => .ok (.nx ((s0 :: r0).set i (.oo (.dit ks') ds')))
    | none => .bad) else .bad
  | _ => .bad := id rfl
/-- k in d -/
def inT (x y : D) : Res Bool := match y with
  | .dit ks _ => (match asPr x, asPrs ks with
    | some p, some ps => .ok (decide (p ∈ ps))
    | _, _ => .bad)
  | _ => .bad
def notInT (x y : D) : Res Bool := (inT x y).bind fun b => .ok (!b)
/-- the keys of a dict, walked -/
def wmK (a : EM) : WM := fun ρ => (a ρ).bind fun x => match x.1 with
  | .dit ks _ => .ok (ks, x.2.slot)
  | _ => .bad
@[simp] theorem e_wmK (a : EM) (s0 : Sl) (r0 : Rho) : wmK a (s0 :: r0) = (a (s0 :: r0)).bind fun x => match x.1 with
  | .dit ks _ => .ok (ks, x.2.slot)
  | _ => .bad := id rfl
/-- xs != ys of lists of data, and of empty dicts -/
def eqX (x y : D) : Option Bool := if D.lay 11 x && D.lay 11 y then some (D.eqv x y) else match x, y with
  | .dic [] [], .dic [] [] => some true
  | _, _ => none
def allX : List D → List D → Option Bool
  | [], [] => some true
  | x :: xs, y :: ys => (eqX x y).bind fun a => (allX xs ys).map fun b => a && b
  | _, _ => none
def cNeX (x y : D) : Res Bool := match x, y with
  | .seq .lst xs, .seq .lst ys => (match allX xs ys with
    | some k => .ok (!k)
    | none => .bad)
  | _, _ => .bad
@[simp] theorem cNeX_l (xs ys : List D) : cNeX (.seq .lst xs) (.seq .lst ys) = match allX xs ys with
  | some k => .ok (!k)
  | none => .bad := id rfl
/-- y = x.pop() -/
def smPop (j i : Nat) : SM := fun ρ => match ρ[i]? with
  | some (.oo .lst ds) => (match ds[ds.length - 1]? with
    | some d => .ok (.nx ((ρ.set i (.ow ds.dropLast)).set j (.fz d)))
    | none => .bad)
  | _ => .bad
@[simp] theorem e_smPop (j i : Nat) (s0 : Sl) (r0 : Rho) : smPop j i (s0 :: r0) = match (s0 :: r0)[i]? with
  | some (.oo .lst ds) => (match ds[ds.length - 1]? with
    | some d => .ok (.nx (((s0 :: r0).set i (.ow ds.dropLast)).set j (.fz d)))
    | none => .bad)
  | _ => .bad := id rfl
/-- tuple(x) of a list -/
def mTupOf (a : EM) : EM := fun ρ => (a ρ).bind fun x => match x.1 with
  | .seq .tup ds => .ok (.seq .tup ds, .cl)
  | .seq _ ds => .ok (.seq .tup ds, .cl)
  | _ => .bad
@[simp] theorem e_mTupOf (a : EM) (s0 : Sl) (r0 : Rho) : mTupOf a (s0 :: r0) = (a (s0 :: r0)).bind fun x => match x.1 with
  | .seq .tup ds => .ok (.seq .tup ds, .cl)
  | .seq _ ds => .ok (.seq .tup ds, .cl)
  | _ => .bad := id rfl
def bSum : List D → Res D
  | [.seq .lst ds] => (match intsOf ds with
    | some ns => .ok (.int ns.sum)
    | none => .bad)
  | [.seq .rol ds] => (match intsOf ds with
    | some ns => .ok (.int ns.sum)
    | none => .bad)
  | _ => .bad
@[simp] theorem bSum_l (ds : List D) : bSum [.seq .lst ds] = match intsOf ds with
  | some ns => .ok (.int ns.sum)
  | none => .bad := id rfl
end Dm
end
end

section
set_option linter.all false
/-! Dm: what is come to (mirror): pairs of places, row by row. -/
noncomputable section
namespace Dm
/-- a pair, the pair ahead of it -/
abbrev En := Pr × Option Pr
def opD : Option Pr → D
  | some p => prD p
  | none => .non
def enD (x : En) : D := .seq .tup [prD x.1, opD x.2]
/-- rows of such, by a length; how often they were changed -/
structure Tb where
  f : Nat → Option (List En)
  n : Nat
def Tb.row (T : Tb) (k : Nat) : List En := (T.f k).getD []
def Tb.put (T : Tb) (k : Nat) (xs : List En) : Tb := ⟨fun j => if j = k then some xs else T.f j, T.n + 1⟩
def Tb.put2 (T : Tb) (k : Nat) (xs : List En) : Tb := ⟨fun j => if j = k then some xs else T.f j, T.n + 2⟩
/-- rows.setdefault(k, []) -/
def Tb.opn (T : Tb) (k : Nat) : Res Tb := if T.n < lim then .ok (T.put k (T.row k)) else .bad
/-- rows.setdefault(k, []).append(x) -/
def Tb.add (T : Tb) (k : Nat) (x : En) : Res Tb := if T.n < lim ∧ (T.row k).length < lim then .ok (T.put2 k (T.row k ++ [x])) else .bad
/-- a def that gives a list of pairs -/
def prsOf (r : Res (D × Bool)) : Res (List Pr) := r.bind fun x => match x.1 with
  | .seq .lst ds => (match asPrs ds with
    | some ps => .ok ps
    | none => .bad)
  | _ => .bad
/-- a def that gives a whole number from 0 on -/
def natOf (r : Res (D × Bool)) : Res Nat := r.bind fun x => match x.1 with
  | .int i => if 0 ≤ i then .ok i.toNat else .bad
  | _ => .bad
/-- a def that gives a truth, as a number -/
def bitOf (r : Res (D × Bool)) : Res Nat := r.bind fun x => match x.1 with
  | .bl b => .ok (if b then 1 else 0)
  | _ => .bad
/-- what stands behind e, laid into the rows -/
def comeAdd (st : Pr → Pr → Res Nat) (len : Nat) (e : Pr) : List Pr → Tb → Res Tb
  | [], T => .ok T
  | q :: qs, T => (st e q).bind fun s => (T.add (len + s) (q, some e)).bind fun T' => comeAdd st len e qs T'
section
variable (nx : Pr → Res (List Pr)) (st : Pr → Pr → Res Nat)
/-- one row: the place in it, what is come to, the rows -/
def comeIn (len : Nat) : Nat → Nat → List En → Tb → Res (List En × Tb)
  | 0, _, _, _ => .bad
  | f + 1, k, C, T => match (T.row len)[k]? with
    | none => .ok (C, T)
    | some e => if e.1 ∈ C.map Prod.fst then comeIn len f (k + 1) C T
      else if C.length < lim then (nx e.1).bind fun qs => (comeAdd st len e.1 qs T).bind fun T' => comeIn len f (k + 1) (C ++ [e]) T' else .bad
/-- row by row -/
def comeOut (f : Nat) : Nat → Nat → List En → Tb → Res (List En)
  | 0, _, C, _ => .ok C
  | n + 1, len, C, T => (T.opn len).bind fun T' => (comeIn nx st len f 0 C T').bind fun r => comeOut f n (len + 1) r.1 r.2
end
/-- the rows at first -/
def comeFirst (sa : Int → Res Nat) : List Pr → Tb → Res Tb
  | [], T => .ok T
  | p :: ps, T => (sa p.1.1).bind fun k => (T.add k (p, none)).bind fun T' => comeFirst sa ps T'
/-- came, of the columns c: places_in, first_pairs, signs_ahead, next_pairs, is_sign_step handed in -/
def comeF (pl fp sa nx st : FM) (f : Nat) : FM
  | [c] => (prsOf (fp [c])).bind fun ps => (comeFirst (fun i => natOf (sa [c, .int i])) ps ⟨fun _ => none, 0⟩).bind fun T =>
      (natOf (pl [c])).bind fun n => (comeOut (fun p => prsOf (nx [c, prD p])) (fun p q => bitOf (st [prD p, prD q])) f (n + 1) 0 [] T).bind fun C => .ok (.dit (C.map fun e => prD e.1) (C.map fun e => opD e.2), true)
  | _ => .bad
/-! the def -/
/-- what the body of come_to does -/
def smCome (pl fp sa nx st : FM) (f : Nat) : SM
  | [.fz c, .no, .no, .no, .no, .no, .no, .no, .no, .no] => (comeF pl fp sa nx st f [c]).bind fun r => .ok (.rt r.1 r.2)
  | _ => .bad
theorem come_fn {pl fp sa nx st : FM} {f : Nat} {c : D} {r : D × Bool} (h : comeF pl fp sa nx st f [c] = .ok r) : mFn 1 9 (smCome pl fp sa nx st f) [c] = .ok r := by
  have : mFn 1 9 (smCome pl fp sa nx st f) [c] = ((comeF pl fp sa nx st f [c]).bind fun r => Res.ok (Out.rt r.1 r.2)).fin := rfl
  rw [this, h]
  rfl
/-! a dict by pairs is looked into; list(reversed(x)) -/
def find2 {α : Type} : List Pr → List α → Pr → Option α
  | p :: ps, d :: ds, q => if p = q then some d else find2 ps ds q
  | _, _, _ => none
def ixT : D → D → Res D
  | .dit ks ds, y => (match asPrs ks, asPr y with
    | some ps, some q => (match find2 ps ds q with
      | some d => .ok d
      | none => .bad)
    | _, _ => .bad)
  | _, _ => .bad
def mIxT (a b : EM) : EM := fun ρ => (a ρ).bind fun x => (b ρ).bind fun y => (ixT x.1 y.1).bind fun d => .ok (d, .cl)
def revL : D → Res Val
  | .seq .lst ds => .ok (.seq .lst ds.reverse, .fr)
  | _ => .bad
def mRevL (a : EM) : EM := fun ρ => (a ρ).bind fun x => revL x.1
@[simp] theorem e_mIxT (a b : EM) (s0 : Sl) (r0 : Rho) : mIxT a b (s0 :: r0) = (a (s0 :: r0)).bind fun x => (b (s0 :: r0)).bind fun y => (ixT x.1 y.1).bind fun d => .ok (d, .cl) := id rfl
@[simp] theorem e_mRevL (a : EM) (s0 : Sl) (r0 : Rho) : mRevL a (s0 :: r0) = (a (s0 :: r0)).bind fun x => revL x.1 := id rfl
@[simp] theorem revL_l (ds : List D) : revL (.seq .lst ds) = .ok (.seq .lst ds.reverse, .fr) := id rfl
/-! min of a list of whole numbers -/
def minI : List Int → Option Int
  | [] => none
  | n :: ns => some (match minI ns with
    | some m => if n ≤ m then n else m
    | none => n)
theorem minI_mem : ∀ {ns : List Int} {x : Int}, minI ns = some x → x ∈ ns
  | [], x, h => by cases h
  | n :: ns, x, h => by
    unfold minI at h
    cases e : minI ns with
    | none =>
      rw [e] at h
      cases h
      exact List.mem_cons_self
    | some m =>
      rw [e] at h
      have h' : (if n ≤ m then n else m) = x := Option.some.inj h
      split at h'
      · rw [← h']; exact List.mem_cons_self
      · rw [← h']; exact List.mem_cons_of_mem _ (minI_mem e)
theorem minI_one : ∀ {ns : List Int} {m : Int}, m ∈ ns → (∀ y ∈ ns, m ≤ y) → minI ns = some m
  | [], m, h, _ => by cases h
  | n :: ns, m, h, k => by
    unfold minI
    have hn := k n List.mem_cons_self
    rcases List.mem_cons.mp h with rfl | h
    · cases e : minI ns with
      | none => rfl
      | some x =>
        have := k x (List.mem_cons_of_mem _ (minI_mem e))
        dsimp only
        rw [if_pos this]
    · rw [minI_one h fun y hy => k y (List.mem_cons_of_mem _ hy)]
      dsimp only
      split
      · congr 1; omega
      · rfl
def bMinL : List D → Res D
  | [.seq .lst ds] => (match intsOf ds with
    | some ns => (match minI ns with
      | some m => .ok (.int m)
      | none => .bad)
    | none => .bad)
  | _ => .bad
@[simp] theorem bMinL_l (ds : List D) : bMinL [.seq .lst ds] = match intsOf ds with
    | some ns => (match minI ns with
      | some m => .ok (.int m)
      | none => .bad)
    | none => .bad := id rfl
end Dm
end
end

section
set_option linter.all false
set_option maxRecDepth 100000
set_option maxHeartbeats 1000000
noncomputable section
namespace MD
open Dm
def _law_cell_b : SM :=
    (smSeq (smIf (mTB (mCmp cLt (mV 1) (mBlt bLen (amCons (mV 0) amNil)))) (smRet (mIx (mV 0) (mV 1))) smSkip)
    (smRet (mC (.int 0))))
def _law_cell : FM := mFn 2 0 _law_cell_b
def _law_draw_b : SM :=
    (smSeq (smIf (tmAnd (mTB (mCmp cGt (mV 0) (mB oPow (mC (.int 10)) (mC (.int 18))))) (mTB (mCmp cGt (mB oShr (mV 0) (mB oMul (mC (.int 20)) (mV 1))) (mC (.int 0))))) (smRet (mB oMod (mB oMod (mB oShr (mV 0) (mB oMul (mC (.int 20)) (mV 1))) (mC (.int 1048576))) (mV 2))) smSkip)
    (smSeq (smSet 3 (mB oMod (mB oAdd (mB oAdd (mB oMod (mV 0) (mC (.int 1000000007))) (mC (.int 314159265))) (mB oMul (mC (.int 104729)) (mV 1))) (mC (.int 998244353))))
    (smSeq (smSet 3 (mB oMod (mB oMul (mV 3) (mV 3)) (mC (.int 998244353))))
    (smSeq (smSet 4 (mB oMod (mB oMul (mB oAdd (mV 3) (mC (.int 271828183))) (mB oAdd (mB oAdd (mB oFdiv (mV 3) (mC (.int 1024))) (mC (.int 48271))) (mV 1))) (mC (.int 2147483629))))
    (smRet (mB oMod (mB oFdiv (mV 4) (mC (.int 128))) (mV 2)))))))
def _law_draw : FM := mFn 3 2 _law_draw_b
end MD
namespace Law0
open Dm MD
def cellF (ns : List Int) (k : Nat) : Int := ns.getD k 0
theorem cell_eq (ns : List Int) (k : Nat) : MD._law_cell [.seq .rol (ns.map .int), .int k] = .ok (.int (cellF ns k), false) := by
  unfold cellF
  by_cases h : k < ns.length
  · have h2 : (k : Int) < (ns.length : Int) := by omega
    have h3 : atI (ns.map D.int) (k : Int) = some (.int ns[k]) := by
      rw [atI_nat (by simpa using h)]
      simp
    simp [_law_cell, _law_cell_b, h2, h3, List.getD, h]
  · have h2 : ¬ (k : Int) < (ns.length : Int) := by omega
    simp [_law_cell, _law_cell_b, h2, List.getD, List.getElem?_eq_none (show ns.length ≤ k by omega)]
/-- what is drawn -/
def drawF (c s m : Int) : Int := match MD._law_draw [.int c, .int s, .int m] with
  | .ok (.int r, _) => r
  | _ => 0
theorem draw_ex (c s m : Int) (hs : 0 ≤ s) (hs2 : s ≤ 1000000) (hm : 0 < m) : ∃ r, MD._law_draw [.int c, .int s, .int m] = .ok (.int r, false) ∧ 0 ≤ r ∧ r < m := by
  have k1 : mulOk 20 s = true := mulOk_l (by decide)
  have k2 : mulOk 104729 s = true := mulOk_l (by decide)
  have k3 : (0 : Int) ≤ 20 * s := by omega
  have e1 : fmodI c 1000000007 = c % 1000000007 := fmodI_pos (by decide)
  have hb : ¬ (m = 0) := by omega
  by_cases h : (1000000000000000000 < c ∧ 0 < c / 2 ^ (20 * s).toNat)
  · refine ⟨fmodI (fmodI (c / 2 ^ (20 * s).toNat) 1048576) m, ?_, ?_, ?_⟩
    · simp [_law_draw, _law_draw_b, k1, k3, h.1, h.2, hb]
    · rw [fmodI_pos hm]
      exact Int.emod_nonneg _ hb
    · rw [fmodI_pos hm]
      exact Int.emod_lt_of_pos _ hm
  · obtain ⟨x, hx, hx0, hx1⟩ : ∃ x, fmodI (fmodI c 1000000007 + 314159265 + 104729 * s) 998244353 = x ∧ 0 ≤ x ∧ x < 998244353 := ⟨_, rfl, by rw [fmodI_pos (by decide)]; omega, by rw [fmodI_pos (by decide)]; omega⟩
    have k4 : mulOk x x = true := mulOk_l (by omega)
    obtain ⟨y, hy, hy0, hy1⟩ : ∃ y, fmodI (x * x) 998244353 = y ∧ 0 ≤ y ∧ y < 998244353 := ⟨_, rfl, by rw [fmodI_pos (by decide)]; exact Int.emod_nonneg _ (by decide), by rw [fmodI_pos (by decide)]; exact Int.emod_lt_of_pos _ (by decide)⟩
    have k5 : ∀ z : Int, mulOk (y + 271828183) z = true := fun z => mulOk_l (by omega)
    have k6 : lg 1024 9000 = true := lg_small _ (by decide)
    have k7 : lg 128 9000 = true := lg_small _ (by decide)
    refine ⟨fmodI (fdivI (fmodI ((y + 271828183) * (fdivI y 1024 + 48271 + s)) 2147483629) 128) m, ?_, ?_, ?_⟩
    · by_cases h1 : 1000000000000000000 < c
      · have h2 : ¬ 0 < c / 2 ^ (20 * s).toNat := fun z => h ⟨h1, z⟩
        simp [_law_draw, _law_draw_b, k1, k2, k3, h1, h2, hb, hx, hy, k4, k5, k6, k7]
      · simp [_law_draw, _law_draw_b, k1, k2, k3, h1, hb, hx, hy, k4, k5, k6, k7]
    · rw [fmodI_pos hm]
      exact Int.emod_nonneg _ hb
    · rw [fmodI_pos hm]
      exact Int.emod_lt_of_pos _ hm
theorem draw_eq (c s m : Int) (hs : 0 ≤ s := by omega) (hs2 : s ≤ 1000000 := by omega) (hm : 0 < m := by omega) : MD._law_draw [.int c, .int s, .int m] = .ok (.int (drawF c s m), false) := by
  obtain ⟨r, h, _⟩ := draw_ex c s m hs hs2 hm
  unfold drawF
  rw [h]
theorem draw_lo (c s m : Int) (hs : 0 ≤ s := by omega) (hs2 : s ≤ 1000000 := by omega) (hm : 0 < m := by omega) : 0 ≤ drawF c s m := by
  obtain ⟨r, h, h1, h2⟩ := draw_ex c s m hs hs2 hm
  unfold drawF
  rw [h]
  exact h1
theorem draw_hi (c s m : Int) (hs : 0 ≤ s := by omega) (hs2 : s ≤ 1000000 := by omega) (hm : 0 < m := by omega) : drawF c s m < m := by
  obtain ⟨r, h, h1, h2⟩ := draw_ex c s m hs hs2 hm
  unfold drawF
  rw [h]
  exact h2
end Law0

end
end

section
set_option linter.all false
set_option maxRecDepth 100000
set_option maxHeartbeats 1000000
noncomputable section
namespace M
open Dm
def _law_cell_b : SM :=
    (smSeq (smIf (mTB (mCmp cLt (mV 1) (mBlt bLen (amCons (mV 0) amNil)))) (smRet (mIx (mV 0) (mV 1))) smSkip)
    (smRet (mC (.int 0))))
def _law_cell : FM := mFn 2 0 _law_cell_b
def _law_draw_b : SM :=
    (smSeq (smIf (tmAnd (mTB (mCmp cGt (mV 0) (mB oPow (mC (.int 10)) (mC (.int 18))))) (mTB (mCmp cGt (mB oShr (mV 0) (mB oMul (mC (.int 20)) (mV 1))) (mC (.int 0))))) (smRet (mB oMod (mB oMod (mB oShr (mV 0) (mB oMul (mC (.int 20)) (mV 1))) (mC (.int 1048576))) (mV 2))) smSkip)
    (smSeq (smSet 3 (mB oMod (mB oAdd (mB oAdd (mB oMod (mV 0) (mC (.int 1000000007))) (mC (.int 314159265))) (mB oMul (mC (.int 104729)) (mV 1))) (mC (.int 998244353))))
    (smSeq (smSet 3 (mB oMod (mB oMul (mV 3) (mV 3)) (mC (.int 998244353))))
    (smSeq (smSet 4 (mB oMod (mB oMul (mB oAdd (mV 3) (mC (.int 271828183))) (mB oAdd (mB oAdd (mB oFdiv (mV 3) (mC (.int 1024))) (mC (.int 48271))) (mV 1))) (mC (.int 2147483629))))
    (smRet (mB oMod (mB oFdiv (mV 4) (mC (.int 128))) (mV 2)))))))
def _law_draw : FM := mFn 3 2 _law_draw_b
def _law_whole_b : SM :=
    (smRet (mAnd (mIs "int" (mV 0)) (mNot (mIs "bool" (mV 0)))))
def _law_whole : FM := mFn 1 0 _law_whole_b
end M
namespace Law
open Dm M
def cellF := Law0.cellF
theorem cell_eq (ns : List Int) (k : Nat) : M._law_cell [.seq .rol (ns.map .int), .int k] = .ok (.int (cellF ns k), false) := Law0.cell_eq ns k
/-- what is drawn -/
def drawF := Law0.drawF
theorem draw_eq (c s m : Int) (hs : 0 ≤ s := by omega) (hs2 : s ≤ 1000000 := by omega) (hm : 0 < m := by omega) : M._law_draw [.int c, .int s, .int m] = .ok (.int (drawF c s m), false) := Law0.draw_eq c s m hs hs2 hm
theorem draw_lo (c s m : Int) (hs : 0 ≤ s := by omega) (hs2 : s ≤ 1000000 := by omega) (hm : 0 < m := by omega) : 0 ≤ drawF c s m := Law0.draw_lo c s m hs hs2 hm
theorem draw_hi (c s m : Int) (hs : 0 ≤ s := by omega) (hs2 : s ≤ 1000000 := by omega) (hm : 0 < m := by omega) : drawF c s m < m := Law0.draw_hi c s m hs hs2 hm
/-- the script's first numbers: [cell 0] + script[1:N] -/
def leadF (ns : List Int) (N : Nat) : List Int := cellF ns 0 :: (ns.drop 1).take (N - 1)
theorem leadF_len (ns : List Int) (N : Nat) : (leadF ns N).length ≤ N - 1 + 1 := by
  unfold leadF
  rw [List.length_cons, List.length_take]
  omega
theorem lead_eq (ns : List Int) (N : Nat) (r : Rho) (h1 : 1 ≤ N) (h2 : N ≤ 1000) : mB oAdd (mLst (amCons (mCall M._law_cell (amCons (mV 0) (amCons (mC (.int 0)) amNil))) amNil)) (mCut (mV 0) (mPart (mC (.int 1))) (mPart (mC (.int N)))) (.fz (.seq .rol (ns.map .int)) :: r) = .ok (.seq .lst ((leadF ns N).map .int), .fr) := by
  have c0 := cell_eq ns 0
  have e1 : cutL (ns.map D.int) (some 1) (some (N : Int)) = ((ns.drop 1).take (N - 1)).map .int := by
    rw [show (some (1 : Int)) = some ((1 : Nat) : Int) from rfl, cutL_nat, ← List.map_drop, ← List.map_take]
  have hl1 : 1 ≤ lim := le_lim (by decide)
  have hl2 : 1 + ((ns.drop 1).take (N - 1)).length ≤ lim := le_lim (by rw [List.length_take]; omega)
  have hl3 : ((ns.drop 1).take (N - 1)).length + 1 ≤ lim := le_lim (by rw [List.length_take]; omega)
  unfold leadF
  generalize (ns.drop 1).take (N - 1) = cs at *
  simp at c0
  simp [c0, e1, hl1, hl2, hl3]
end Law

end
end

section
set_option linter.all false
set_option maxRecDepth 100000
set_option maxHeartbeats 1000000
noncomputable section
namespace Law
open Dm
def msr : Rho → Nat
  | [_, .fz (.int y)] => y.toNat
  | _ => 0
def msr3 : Rho → Nat
  | [_, .fz (.int y), _] => y.toNat
  | _ => 0
theorem abs_n (a : Int) : bAbs [.int a] = .ok (.int (a.natAbs : Nat)) := by
  rw [bAbs_i]
  congr 2
  split <;> omega
theorem gcd_b {a b : Int} (hb : 0 < b) : 0 < Nat.gcd a.natAbs b.natAbs ∧ Nat.gcd a.natAbs b.natAbs ≤ b.natAbs := ⟨Nat.gcd_pos_of_pos_right _ (by omega), Nat.le_of_dvd (by omega) (Nat.gcd_dvd_right ..)⟩
/-- a fraction's lowest terms -/
def lowT (a b : Int) : Int := a / (Nat.gcd a.natAbs b.natAbs : Nat)
def lowB (a b : Int) : Int := b / (Nat.gcd a.natAbs b.natAbs : Nat)
theorem low_pos {a b : Int} (hb : 0 < b) : 0 < lowB a b ∧ lowB a b ≤ b := by
  have hg := gcd_b (a := a) hb
  have hd : ((Nat.gcd a.natAbs b.natAbs : Nat) : Int) ∣ b := by
    rw [Int.ofNat_dvd_left]
    exact Nat.gcd_dvd_right ..
  unfold lowB
  obtain ⟨k, hk⟩ := hd
  generalize Nat.gcd a.natAbs b.natAbs = g at *
  have hg0 : (0 : Int) < g := by omega
  rw [hk, Int.mul_ediv_cancel_left _ (by omega)]
  have hk0 : 0 < k := by
    rcases Int.lt_or_le 0 k with h | h
    · exact h
    · have := Int.mul_nonpos_of_nonneg_of_nonpos (Int.le_of_lt hg0) h
      omega
  exact ⟨hk0, by
    have := Int.mul_le_mul_of_nonneg_right (show (1 : Int) ≤ g by omega) (Int.le_of_lt hk0)
    omega⟩
theorem low_dvd (a b : Int) : a = lowT a b * (Nat.gcd a.natAbs b.natAbs : Nat) ∧ b = lowB a b * (Nat.gcd a.natAbs b.natAbs : Nat) := by
  have h1 : ((Nat.gcd a.natAbs b.natAbs : Nat) : Int) ∣ a := by
    rw [Int.ofNat_dvd_left]
    exact Nat.gcd_dvd_left ..
  have h2 : ((Nat.gcd a.natAbs b.natAbs : Nat) : Int) ∣ b := by
    rw [Int.ofNat_dvd_left]
    exact Nat.gcd_dvd_right ..
  exact ⟨(Int.ediv_mul_cancel h1).symm, (Int.ediv_mul_cancel h2).symm⟩
theorem low_abs {a b : Int} (hb : 0 < b) : (lowT a b).natAbs ≤ a.natAbs := by
  have hg := gcd_b (a := a) hb
  have h := (low_dvd a b).1
  generalize Nat.gcd a.natAbs b.natAbs = g at *
  have := congrArg Int.natAbs h
  rw [Int.natAbs_mul, Int.natAbs_natCast] at this
  rw [this]
  exact Nat.le_mul_of_pos_right _ hg.1
theorem mulW {i j : Int} (hi : i.natAbs < 2 ^ 1000) (hj : j.natAbs < 2 ^ 1000) : mulOk i j = true := mulOk_w 1000 1000 hi hj
theorem absMul {i j : Int} {a b : Nat} (c : Nat) (hi : i.natAbs < 2 ^ a) (hj : j.natAbs < 2 ^ b) (hc : c = a + b := by rfl) : (i * j).natAbs < 2 ^ c := by
  rw [Int.natAbs_mul, hc, Nat.pow_add]
  exact Nat.mul_lt_mul'' hi hj
theorem absLe {i : Int} {a : Nat} (b : Nat) (hi : i.natAbs < 2 ^ a) (h : a ≤ b := by decide) : i.natAbs < 2 ^ b := Nat.lt_of_lt_of_le hi (Nat.pow_le_pow_right (by decide) h)
theorem lowT_neg {n m : Int} (hm : 0 < m) : lowT n m < 0 ↔ n < 0 := by
  have hg := gcd_b (a := n) hm
  have h := (low_dvd n m).1
  generalize Nat.gcd n.natAbs m.natAbs = g at *
  have hg0 : (0 : Int) < g := by omega
  constructor
  · intro h1
    rw [h]
    exact Int.mul_neg_of_neg_of_pos h1 hg0
  · intro h1
    rcases Int.lt_or_le (lowT n m) 0 with h2 | h2
    · exact h2
    · have := Int.mul_nonneg h2 (Int.le_of_lt hg0)
      omega
theorem low_zero {m : Int} (hm : 0 < m) : lowT 0 m = 0 ∧ lowB 0 m = 1 := by
  unfold lowT lowB
  refine ⟨Int.zero_ediv _, ?_⟩
  rw [Int.natAbs_zero, Nat.gcd_zero_left, show ((m.natAbs : Nat) : Int) = m by omega]
  exact Int.ediv_self (by omega)
theorem div_abs (t y : Int) (hy0 : 0 < y) : (t / y).natAbs ≤ t.natAbs + 1 := by
  have a1 := Int.ediv_mul_le t (Int.ne_of_gt hy0)
  have a2 := Int.lt_ediv_add_one_mul_self t hy0
  rcases Int.lt_or_le (t / y) 0 with h | h
  · have h3 := Int.mul_nonneg (show 0 ≤ -(t / y + 1) by omega) (show 0 ≤ y - 1 by omega)
    rw [Int.neg_mul, Int.mul_sub, Int.mul_one] at h3
    omega
  · have h3 := Int.mul_nonneg h (show 0 ≤ y - 1 by omega)
    rw [Int.mul_sub, Int.mul_one] at h3
    omega
theorem div_rest (t y : Int) (hy0 : 0 < y) : 0 ≤ t - t / y * y ∧ t - t / y * y < y := by
  have a1 := Int.ediv_mul_le t (Int.ne_of_gt hy0)
  have a2 := Int.lt_ediv_add_one_mul_self t hy0
  rw [Int.add_mul, Int.one_mul] at a2
  omega
end Law

end
end

section
set_option linter.all false
set_option maxRecDepth 100000
set_option maxHeartbeats 1000000
noncomputable section
namespace M
open Dm
def is_whole_b : SM :=
    (smRet (mAnd (mIs "int" (mV 0)) (mNot (mIs "bool" (mV 0)))))
def is_whole : FM := mFn 1 0 is_whole_b
def divisor_of_b : SM :=
    (smSeq (smSet 0 (mBlt bAbs (amCons (mV 0) amNil)))
    (smSeq (smSet 1 (mBlt bAbs (amCons (mV 1) amNil)))
    (smSeq (smWhile (mTB (mCmp cGt (mV 1) (mC (.int 0)))) (smSeq (smSet 2 (mB oMod (mV 0) (mV 1)))
    (smSeq (smSet 0 (mV 1))
    (smSet 1 (mV 2)))) fuel)
    (smRet (mV 0)))))
def divisor_of : FM := mFn 2 1 divisor_of_b
def fraction_b : SM :=
    (smSeq (smIf (tmOr (tmNot (mT (mCall M.is_whole (amCons (mV 0) amNil)))) (tmOr (tmNot (mT (mCall M.is_whole (amCons (mV 1) amNil)))) (mTB (mCmp cEq (mV 1) (mC (.int 0)))))) (smRaise "NoNumber") smSkip)
    (smSeq (smSet 2 (mCall M.divisor_of (amCons (mV 0) (amCons (mV 1) amNil))))
    (smSeq (smIf (mTB (mCmp cLt (mV 1) (mC (.int 0)))) (smSet 2 (mNeg (mV 2))) smSkip)
    (smRet (mTup (amCons (mB oFdiv (mV 0) (mV 2)) (amCons (mB oFdiv (mV 1) (mV 2)) amNil)))))))
def fraction : FM := mFn 2 1 fraction_b
end M
namespace Law
open Dm M
theorem divisor_eq (a b : Int) (hb : b.natAbs < 2 ^ 4000) : M.divisor_of [.int a, .int b] = .ok (.int (Nat.gcd a.natAbs b.natAbs : Nat), false) := by
  simp [divisor_of, divisor_of_b, -bAbs_i, abs_n]
  refine qw_run (fun r => r = .ok (.int (Nat.gcd a.natAbs b.natAbs : Nat), false)) (fun ρ => ∃ (x y : Nat) (z : Sl), ρ = [.fz (.int x), .fz (.int y), z] ∧ Nat.gcd x y = Nat.gcd a.natAbs b.natAbs) msr3 (fun ρ => ∃ z w, ρ = [.fz (.int (Nat.gcd a.natAbs b.natAbs : Nat)), z, w]) ⟨a.natAbs, b.natAbs, .no, rfl, rfl⟩ ?_ ?_ ?_
  · exact fuel_of 4000 hb
  · rintro ρ ⟨x, y, z, rfl, h⟩
    by_cases h0 : y = 0
    · subst h0
      refine .inl ⟨by simp, ?_⟩
      rw [Nat.gcd_zero_right] at h
      rw [h]
      exact ⟨_, _, rfl⟩
    · have hy : (0 : Int) < y := by omega
      have e : fmodI (x : Int) (y : Int) = ((x % y : Nat) : Int) := by rw [fmodI_pos hy]; exact (Int.natCast_emod x y).symm
      have hlt := Nat.mod_lt x (Nat.pos_of_ne_zero h0)
      refine .inr ⟨by simp; omega, ?_⟩
      simp [h0, msr3, -Int.natCast_emod, e]
      refine ⟨⟨y, x % y, ⟨rfl, rfl⟩, ?_⟩, ?_⟩
      · rw [← h, Nat.gcd_comm x y, Nat.gcd_rec y x, Nat.gcd_comm]
      · exact hlt
  · rintro ρ ⟨z, w, rfl⟩
    simp
theorem fraction_eq (a b : Int) (hb : 0 < b) (hb2 : b.natAbs < 2 ^ 4000) : M.fraction [.int a, .int b] = .ok (.seq .tup [.int (lowT a b), .int (lowB a b)], false) := by
  have c := divisor_eq a b hb2
  have hg := gcd_b (a := a) hb
  have h2 : 2 ≤ lim := le_lim (by decide)
  unfold lowT lowB
  have hk : lg (Nat.gcd a.natAbs b.natAbs : Nat) 9000 = true := lg_of 4000 (by rw [Int.natAbs_natCast]; exact Nat.lt_of_le_of_lt hg.2 hb2)
  generalize Nat.gcd a.natAbs b.natAbs = g at *
  have hg0 : ¬ (g = 0) := by omega
  have e1 : fdivI a g = a / g := fdivI_pos (by omega)
  have e2 : fdivI b g = b / g := fdivI_pos (by omega)
  have hn : ¬ b < 0 := by omega
  have hn0 : ¬ b = 0 := by omega
  simp [fraction, fraction_b, is_whole, is_whole_b, c, hn, hn0, hg0, hk, e1, e2, h2]
end Law

end
end

section
set_option linter.all false
set_option maxRecDepth 100000
set_option maxHeartbeats 1000000
noncomputable section
namespace M
open Dm
def _law_cell_at_b : SM :=
    (smSeq (smIf (mTB (mCmp cLt (mV 1) (mBlt bLen (amCons (mV 0) amNil)))) (smRet (mIx (mV 0) (mV 1))) smSkip)
    (smRet (mC (.int 0))))
def _law_cell_at : FM := mFn 2 0 _law_cell_at_b
def _law_pick_b : SM :=
    (smSeq (smIf (tmAnd (mTB (mCmp cGt (mV 0) (mB oPow (mC (.int 10)) (mC (.int 18))))) (mTB (mCmp cGt (mB oShr (mV 0) (mB oMul (mC (.int 20)) (mV 1))) (mC (.int 0))))) (smRet (mB oMod (mB oMod (mB oShr (mV 0) (mB oMul (mC (.int 20)) (mV 1))) (mC (.int 1048576))) (mV 2))) smSkip)
    (smSeq (smSet 3 (mB oMod (mB oAdd (mB oAdd (mB oMod (mV 0) (mC (.int 1000000007))) (mC (.int 314159265))) (mB oMul (mC (.int 104729)) (mV 1))) (mC (.int 998244353))))
    (smSeq (smSet 3 (mB oMod (mB oMul (mV 3) (mV 3)) (mC (.int 998244353))))
    (smSeq (smSet 4 (mB oMod (mB oMul (mB oAdd (mV 3) (mC (.int 271828183))) (mB oAdd (mB oAdd (mB oFdiv (mV 3) (mC (.int 1024))) (mC (.int 48271))) (mV 1))) (mC (.int 2147483629))))
    (smRet (mB oMod (mB oFdiv (mV 4) (mC (.int 128))) (mV 2)))))))
def _law_pick : FM := mFn 3 2 _law_pick_b
end M
namespace Law
open Dm M
def pcellF := Law0.cellF
theorem pcell_eq (ns : List Int) (k : Nat) : M._law_cell_at [.seq .rol (ns.map .int), .int k] = .ok (.int (pcellF ns k), false) := Law0.cell_eq ns k
def pickF := Law0.drawF
theorem pick_eq (c s m : Int) (hs : 0 ≤ s := by omega) (hs2 : s ≤ 1000000 := by omega) (hm : 0 < m := by omega) : M._law_pick [.int c, .int s, .int m] = .ok (.int (pickF c s m), false) := Law0.draw_eq c s m hs hs2 hm
theorem pick_lo (c s m : Int) (hs : 0 ≤ s := by omega) (hs2 : s ≤ 1000000 := by omega) (hm : 0 < m := by omega) : 0 ≤ pickF c s m := Law0.draw_lo c s m hs hs2 hm
theorem pick_hi (c s m : Int) (hs : 0 ≤ s := by omega) (hs2 : s ≤ 1000000 := by omega) (hm : 0 < m := by omega) : pickF c s m < m := Law0.draw_hi c s m hs hs2 hm
/-- a pick as a natural number -/
theorem pick_ex (c s : Int) (m : Nat) (hs : 0 ≤ s := by omega) (hs2 : s ≤ 1000000 := by omega) (hm : 0 < m := by omega) : ∃ r : Nat, r < m ∧ M._law_pick [.int c, .int s, .int m] = .ok (.int r, false) := by
  have e := pick_eq c s m hs hs2 (by omega)
  have l := pick_lo c s m hs hs2 (by omega)
  have h := pick_hi c s m hs hs2 (by omega)
  obtain ⟨r, hr⟩ : ∃ r : Nat, pickF c s m = r := ⟨(pickF c s m).toNat, by omega⟩
  rw [hr] at e h
  exact ⟨r, by omega, e⟩
/-- one of a written list -/
theorem at_mem {us : List D} {r : Nat} (h : r < us.length) : ∃ d, d ∈ us ∧ atI us (r : Int) = some d := ⟨us[r], List.getElem_mem h, atI_nat h⟩
end Law

end
end

section
set_option linter.all false
set_option maxRecDepth 100000
set_option maxHeartbeats 1000000
noncomputable section
namespace M
open Dm
def pads_of_b : SM :=
    (smSeq (smSet 3 (mBlt bMax (amCons (mC (.int 0)) (amCons (mB oSub (mV 1) (mV 0)) amNil))))
    (smSeq (smIf (mTB (mCmp cEq (mV 2) (mC (.str [108, 101, 102, 116])))) (smRet (mTup (amCons (mC (.int 0)) (amCons (mV 3) amNil)))) smSkip)
    (smSeq (smIf (mTB (mCmp cEq (mV 2) (mC (.str [114, 105, 103, 104, 116])))) (smRet (mTup (amCons (mV 3) (amCons (mC (.int 0)) amNil)))) smSkip)
    (smRet (mTup (amCons (mB oFdiv (mV 3) (mC (.int 2))) (amCons (mB oSub (mV 3) (mB oFdiv (mV 3) (mC (.int 2)))) amNil)))))))
def pads_of : FM := mFn 3 1 pads_of_b
def padded_b : SM :=
    (smSeq (smUnp [4, 5] (mCall M.pads_of (amCons (mBlt bLen (amCons (mV 0) amNil)) (amCons (mV 1) (amCons (mV 3) amNil)))))
    (smRet (mB oAdd (mB oAdd (mB oMul (mV 2) (mV 4)) (mV 0)) (mB oMul (mV 2) (mV 5)))))
def padded : FM := mFn 4 2 padded_b
def padded_inside_b : SM :=
    (smSeq (smUnp [4, 5] (mCall M.pads_of (amCons (mB oAdd (mBlt bLen (amCons (mV 0) amNil)) (mBlt bLen (amCons (mV 1) amNil))) (amCons (mV 2) (amCons (mC (.str [114, 105, 103, 104, 116])) amNil)))))
    (smRet (mB oAdd (mB oAdd (mV 0) (mB oMul (mV 3) (mV 4))) (mV 1))))
def padded_inside : FM := mFn 4 2 padded_inside_b
end M
namespace Law
open Dm M
def sdL : List Nat := [108, 101, 102, 116]
def sdR : List Nat := [114, 105, 103, 104, 116]
def sdM : List Nat := [109, 105, 100, 100, 108, 101]
def padA (n w : Nat) (s : List Nat) : Nat := if s = sdL then 0 else if s = sdR then w - n else (w - n) / 2
def padB (n w : Nat) (s : List Nat) : Nat := if s = sdL then w - n else if s = sdR then 0 else (w - n) - (w - n) / 2
theorem pads_eq (n w : Nat) (s : List Nat) : M.pads_of [.int n, .int w, .str s] = .ok (.seq .tup [.int (padA n w s), .int (padB n w s)], false) := by
  have e : (if (w : Int) - (n : Int) > 0 then (w : Int) - (n : Int) else 0) = ((w - n : Nat) : Int) := by split <;> omega
  have k : lg 2 9000 = true := lg_small _ (by decide)
  have e2 : fdivI ((w - n : Nat) : Int) 2 = ((w - n) / 2 : Nat) := by
    rw [fdivI_pos (by omega)]
    exact (Int.natCast_ediv _ 2).symm
  have e3 : ((w - n : Nat) : Int) - (((w - n) / 2 : Nat) : Int) = ((w - n - (w - n) / 2 : Nat) : Int) := by omega
  have h2 : 2 ≤ lim := le_lim (by decide)
  have e0 : bMax [.int 0, .int ((w : Int) - (n : Int))] = .ok (.int ((w - n : Nat) : Int)) := by rw [bMax_i, e]
  unfold padA padB
  generalize w - n = d at *
  by_cases h1 : s = sdL
  · subst h1
    simp [pads_of, pads_of_b, -bMax_i, e0, sdL, h2]
  · by_cases h3 : s = sdR
    · subst h3
      simp [pads_of, pads_of_b, -bMax_i, e0, sdL, sdR, h2]
    · rw [if_neg h1, if_neg h1, if_neg h3, if_neg h3]
      unfold sdL at h1
      unfold sdR at h3
      simp [pads_of, pads_of_b, -bMax_i, e0, h1, h3, h2, k]
      rw [e2]
      exact ⟨rfl, by omega⟩
theorem pad_sum (n w : Nat) (s : List Nat) : padA n w s + padB n w s = w - n := by
  unfold padA padB
  split
  · omega
  · split <;> omega
end Law
namespace Law
open Dm M
/-- the padded text -/
def padT (t : List Nat) (w x : Nat) (s : List Nat) : List Nat := List.replicate (padA t.length w s) x ++ t ++ List.replicate (padB t.length w s) x
theorem padT_len (t : List Nat) (w x : Nat) (s : List Nat) : (padT t w x s).length = max t.length w := by
  have := pad_sum t.length w s
  simp [padT]
  omega
theorem padded_eq (t : List Nat) (w x : Nat) (s : List Nat) (ht : t.length ≤ 400) (hw : w ≤ 400) : M.padded [.str t, .int w, .str [x], .str s] = .ok (.str (padT t w x s), false) := by
  have p := pads_eq t.length w s
  have q := pad_sum t.length w s
  have m1 := mul_one x (padA t.length w s) (by omega)
  have m2 := mul_one x (padB t.length w s) (by omega)
  simp (disch := first | omega | simp) [padded, padded_b, p, m1, m2, le_lim, padT]
def insT (l r : List Nat) (w x : Nat) : List Nat := l ++ List.replicate (w - (l.length + r.length)) x ++ r
theorem insT_len (l r : List Nat) (w x : Nat) : (insT l r w x).length = max (l.length + r.length) w := by
  simp [insT]
  omega
theorem inside_eq (l r : List Nat) (w x : Nat) (hl : l.length ≤ 500) (hr : r.length ≤ 500) (hw : w ≤ 400) : M.padded_inside [.str l, .str r, .int w, .str [x]] = .ok (.str (insT l r w x), false) := by
  have p := pads_eq (l.length + r.length) w sdR
  have hA : padA (l.length + r.length) w sdR = w - (l.length + r.length) := by simp [padA, sdL, sdR]
  rw [hA] at p
  have m1 := mul_one x (w - (l.length + r.length)) (by omega)
  simp only [sdR] at p
  simp at p
  simp (disch := first | omega | simp) [padded_inside, padded_inside_b, p, m1, le_lim, insT]
end Law

end
end

section
set_option linter.all false
set_option maxRecDepth 100000
set_option maxHeartbeats 1000000
noncomputable section
namespace M
open Dm
def ends_of_b : SM :=
    (smSeq (smIf (mT (mV 1)) (smRet (mDix [[109, 105, 110, 117, 115], [112, 108, 117, 115], [98, 108, 97, 110, 107], [98, 114, 97, 99, 107, 101, 116, 115], [98, 101, 104, 105, 110, 100]] [(.seq .tup [(.str [45]), (.str [])]), (.seq .tup [(.str [45]), (.str [])]), (.seq .tup [(.str [45]), (.str [])]), (.seq .tup [(.str [40]), (.str [41])]), (.seq .tup [(.str []), (.str [45])])] (mV 0))) smSkip)
    (smRet (mDix [[109, 105, 110, 117, 115], [112, 108, 117, 115], [98, 108, 97, 110, 107], [98, 114, 97, 99, 107, 101, 116, 115], [98, 101, 104, 105, 110, 100]] [(.seq .tup [(.str []), (.str [])]), (.seq .tup [(.str [43]), (.str [])]), (.seq .tup [(.str [32]), (.str [])]), (.seq .tup [(.str []), (.str [])]), (.seq .tup [(.str []), (.str [])])] (mV 0))))
def ends_of : FM := mFn 2 0 ends_of_b
def signed_b : SM :=
    (smSeq (smUnp [3, 4] (mCall M.ends_of (amCons (mV 1) (amCons (mV 2) amNil))))
    (smRet (mB oAdd (mB oAdd (mV 3) (mV 0)) (mV 4))))
def signed : FM := mFn 3 2 signed_b
end M
namespace Law
open Dm M
def syMinus : List Nat := [109, 105, 110, 117, 115]
def syPlus : List Nat := [112, 108, 117, 115]
def syBlank : List Nat := [98, 108, 97, 110, 107]
def syBrack : List Nat := [98, 114, 97, 99, 107, 101, 116, 115]
def syBehind : List Nat := [98, 101, 104, 105, 110, 100]
def styles : List (List Nat) := [syMinus, syPlus, syBlank, syBrack, syBehind]
def leadS (sty : List Nat) (b : Bool) : List Nat := if b then (if sty = syBrack then [40] else if sty = syBehind then [] else [45]) else (if sty = syPlus then [43] else if sty = syBlank then [32] else [])
def tailS (sty : List Nat) (b : Bool) : List Nat := if b then (if sty = syBrack then [41] else if sty = syBehind then [45] else []) else []
theorem sty_cases {P : List Nat → Prop} {s : List Nat} (h : s ∈ styles) (h1 : P syMinus) (h2 : P syPlus) (h3 : P syBlank) (h4 : P syBrack) (h5 : P syBehind) : P s := by
  simp only [styles, List.mem_cons, List.not_mem_nil, or_false] at h
  rcases h with rfl | rfl | rfl | rfl | rfl <;> assumption
theorem lead_le (s : List Nat) (b : Bool) : (leadS s b).length ≤ 1 := by
  unfold leadS
  cases b <;> (repeat' split) <;> simp
theorem tail_le (s : List Nat) (b : Bool) : (tailS s b).length ≤ 1 := by
  unfold tailS
  cases b <;> (repeat' split) <;> simp
theorem ends_of_eq (s : List Nat) (b : Bool) (h : s ∈ styles) : M.ends_of [.str s, .bl b] = .ok (.seq .tup [.str (leadS s b), .str (tailS s b)], false) := by
  refine sty_cases (P := fun s => M.ends_of [.str s, .bl b] = .ok (.seq .tup [.str (leadS s b), .str (tailS s b)], false)) h ?_ ?_ ?_ ?_ ?_ <;> cases b <;>
    simp [ends_of, ends_of_b, leadS, tailS, syMinus, syPlus, syBlank, syBrack, syBehind]
theorem signed_eq (t s : List Nat) (b : Bool) (h : s ∈ styles) (ht : t.length ≤ 1000000) : M.signed [.str t, .str s, .bl b] = .ok (.str (leadS s b ++ t ++ tailS s b), false) := by
  have e := ends_of_eq s b h
  have l1 := lead_le s b
  have l2 := tail_le s b
  have k1 : (leadS s b).length + t.length ≤ lim := le_lim (by omega)
  have k2 : (leadS s b).length + t.length + (tailS s b).length ≤ lim := le_lim (by omega)
  have k3 : (leadS s b).length + (t.length + (tailS s b).length) ≤ lim := le_lim (by omega)
  simp [signed, signed_b, e, k1, k2, k3]
end Law

end
end

section
set_option linter.all false
set_option maxRecDepth 100000
set_option maxHeartbeats 1000000
noncomputable section
namespace M
open Dm
def power_of_b : SM :=
    (smSeq (smSet 2 (mC (.int 1)))
    (smSeq (smFor (put1 3) (wmR1 (mV 1)) (smSet 2 (mB oMul (mV 2) (mV 0))))
    (smRet (mV 2))))
def power_of : FM := mFn 2 2 power_of_b
end M
namespace Law
open Dm M
theorem power_eq (b n : Nat) (hb : b ≤ 16) (hn : n ≤ 1000) : M.power_of [.int b, .int n] = .ok (.int (b ^ n : Nat), false) := by
  have hR : rgOk n = true := rgOk_of (by omega) (by omega)
  simp [power_of, power_of_b, hR]
  refine q_run (fun r => r = .ok (.int ((b : Int) ^ n), false)) (fun i ρ => ∃ a, ρ = [.fz (.int b), .fz (.int n), .fz (.int ((b : Int) ^ i)), a]) ⟨.no, by simp⟩ ?_ ?_
  · rintro i d ρ hd ⟨a, rfl⟩
    obtain ⟨hi, rfl⟩ := rangeL_get hd
    have k : mulOk ((b : Int) ^ i) b = true := mulOk_r (by omega)
    simp [k, Int.pow_succ]
  · rintro ρ ⟨a, rfl⟩
    simp
theorem pow_b {b n : Nat} (hb : 2 ≤ b) (hb2 : b ≤ 16) (hn : n ≤ 60) : 0 < b ^ n ∧ b ^ n < 2 ^ 250 := by
  refine ⟨Nat.pow_pos (by omega), ?_⟩
  have h1 : b ^ n ≤ 16 ^ n := Nat.pow_le_pow_left hb2 n
  have h2 : (16 : Nat) ^ n ≤ 16 ^ 60 := Nat.pow_le_pow_right (by decide) hn
  have h3 : (16 : Nat) ^ 60 < 2 ^ 250 := by decide
  omega
end Law

end
end

section
set_option linter.all false
set_option maxRecDepth 100000
set_option maxHeartbeats 1000000
noncomputable section
namespace M
open Dm
def gridded_b : SM :=
    (smSeq (smSet 4 (mB oMul (mIx (mV 0) (mC (.int 0))) (mCall M.power_of (amCons (mV 1) (amCons (mV 2) amNil)))))
    (smSeq (smSet 5 (mIx (mV 0) (mC (.int 1))))
    (smSeq (smSet 6 (mB oFdiv (mV 4) (mV 5)))
    (smSeq (smSet 7 (mB oSub (mV 4) (mB oMul (mV 6) (mV 5))))
    (smSeq (smIf (tmOr (mTB (mCmp cEq (mV 7) (mC (.int 0)))) (mTB (mCmp cEq (mV 3) (mC (.str [100, 111, 119, 110]))))) (smRet (mV 6)) smSkip)
    (smSeq (smIf (mTB (mCmp cEq (mV 3) (mC (.str [117, 112])))) (smRet (mB oAdd (mV 6) (mC (.int 1)))) smSkip)
    (smSeq (smIf (mTB (mCmp cEq (mV 3) (mC (.str [99, 117, 116])))) (smRet (mB oAdd (mV 6) (mBlt bInt (amCons (mCmp cLt (mV 6) (mC (.int 0))) amNil)))) smSkip)
    (smSeq (smIf (tmAnd (mTB (mCmp cEq (mB oMul (mC (.int 2)) (mV 7)) (mV 5))) (mTB (mCmp cEq (mV 3) (mC (.str [101, 118, 101, 110]))))) (smRet (mB oAdd (mV 6) (mB oMod (mV 6) (mC (.int 2))))) smSkip)
    (smRet (mB oAdd (mV 6) (mBlt bInt (amCons (mCmp cGe (mB oMul (mC (.int 2)) (mV 7)) (mV 5)) amNil))))))))))))
def gridded : FM := mFn 4 4 gridded_b
end M
namespace Law
open Dm M
def wDown : List Nat := [100, 111, 119, 110]
def wUp : List Nat := [117, 112]
def wCut : List Nat := [99, 117, 116]
def wNear : List Nat := [110, 101, 97, 114]
def wEven : List Nat := [101, 118, 101, 110]
def gridF (t y : Int) (w : List Nat) : Int :=
  if t - t / y * y = 0 ∨ w = wDown then t / y else if w = wUp then t / y + 1 else if w = wCut then t / y + (if t / y < 0 then 1 else 0)
  else if 2 * (t - t / y * y) = y ∧ w = wEven then t / y + t / y % 2 else t / y + (if 2 * (t - t / y * y) ≥ y then 1 else 0)
theorem gridded_eq (x y : Int) (b n : Nat) (w : List Nat) (hb : 2 ≤ b) (hb2 : b ≤ 16) (hn : n ≤ 60) (hx : x.natAbs < 2 ^ 500) (hy : y.natAbs < 2 ^ 500) (hy0 : 0 < y) : M.gridded [.seq .tup [.int x, .int y], .int b, .int n, .str w] = .ok (.int (gridF (x * (b ^ n : Nat)) y w), false) := by
  have p := power_eq b n hb2 (by omega)
  have pb := pow_b hb hb2 hn
  have hpb : ((b ^ n : Nat) : Int).natAbs < 2 ^ 250 := by omega
  generalize b ^ n = s at *
  have k1 : mulOk x s = true := mulW (absLe 1000 hx) (absLe 1000 hpb)
  have ht := absMul 750 hx hpb
  generalize hts : x * (s : Int) = t at *
  have hl : lg y 9000 = true := lg_of 500 hy
  have e1 : fdivI t y = t / y := fdivI_pos hy0
  have hq : (t / y).natAbs < 2 ^ 1000 := by
    have h1 : (t / y).natAbs ≤ t.natAbs + 1 := by
      have a1 := Int.ediv_mul_le t (Int.ne_of_gt hy0)
      have a2 := Int.lt_ediv_add_one_mul_self t hy0
      rcases Int.lt_or_le (t / y) 0 with h | h
      · have h3 := Int.mul_nonneg (show 0 ≤ -(t / y + 1) by omega) (show 0 ≤ y - 1 by omega)
        rw [Int.neg_mul, Int.mul_sub, Int.mul_one] at h3
        omega
      · have h3 := Int.mul_nonneg h (show 0 ≤ y - 1 by omega)
        rw [Int.mul_sub, Int.mul_one] at h3
        omega
    have : (2 : Nat) ^ 750 < 2 ^ 1000 := by decide
    omega
  have k2 : mulOk (t / y) y = true := mulW hq (absLe 1000 hy)
  have k3 : ∀ z, mulOk 2 z = true := fun z => mulOk_l (by decide)
  have hy1 : ¬ y = 0 := by omega
  have e2 : fmodI (t / y) 2 = t / y % 2 := fmodI_pos (by decide)
  unfold gridF
  generalize hqq : t / y = q at *
  by_cases h0 : t - q * y = 0
  · simp [gridded, gridded_b, at20, at21, p, hts, k1, hy1, hl, e1, k2, h0]
  · by_cases h1 : w = wDown
    · subst h1
      simp [gridded, gridded_b, at20, at21, p, hts, k1, hy1, hl, e1, k2, h0, wDown]
    · by_cases h2 : w = wUp
      · subst h2
        simp [gridded, gridded_b, at20, at21, p, hts, k1, hy1, hl, e1, k2, h0, wDown, wUp]
      · by_cases h3 : w = wCut
        · subst h3
          by_cases h5 : q < 0 <;> simp [gridded, gridded_b, at20, at21, p, hts, k1, hy1, hl, e1, k2, h0, wDown, wUp, wCut, h5]
        · have h1' := h1
          have h2' := h2
          have h3' := h3
          unfold wDown at h1'
          unfold wUp at h2'
          unfold wCut at h3'
          by_cases h4 : 2 * (t - q * y) = y
          · by_cases h6 : w = wEven
            · subst h6
              simp [gridded, gridded_b, at20, at21, p, hts, k1, hy1, hl, e1, k2, h0, h1, h2, h3, k3, h4, e2, wEven] at h1' h2' h3' ⊢
              simp [wDown, wUp, wCut]
            · have h6' := h6
              unfold wEven at h6'
              simp [gridded, gridded_b, at20, at21, p, hts, k1, hy1, hl, e1, k2, h0, h1, h2, h3, h1', h2', h3', k3, h4, h6, h6']
          · by_cases h7 : 2 * (t - q * y) ≥ y <;> simp [gridded, gridded_b, at20, at21, p, hts, k1, hy1, hl, e1, k2, h0, h1, h2, h3, h1', h2', h3', k3, h4, h7]
theorem gridF_abs (t y : Int) (w : List Nat) (hy0 : 0 < y) : (gridF t y w).natAbs ≤ t.natAbs + 3 := by
  have h := div_abs t y hy0
  unfold gridF
  generalize t / y = q at *
  split
  · omega
  · split
    · omega
    · split
      · split <;> omega
      · split
        · omega
        · split <;> omega
theorem gridF_whole (m y : Int) (w : List Nat) (hy0 : 0 < y) : gridF (m * y) y w = m := by
  have e : m * y / y = m := Int.mul_ediv_cancel m (by omega)
  unfold gridF
  rw [e, Int.sub_self, if_pos (.inl rfl)]
end Law

end
end

section
set_option linter.all false
set_option maxRecDepth 100000
set_option maxHeartbeats 1000000
noncomputable section
namespace M
open Dm
def _law_signs_b : SM :=
    (smRet (mC (.str [32, 33, 34, 35, 36, 38, 39, 40, 41, 42, 43, 44, 45, 46, 47, 48, 49, 50, 51, 52, 53, 54, 55, 56, 57, 58, 59, 60, 61, 62, 63, 64, 65, 66, 67, 68, 69, 70, 71, 72, 73, 74, 75, 76, 77, 78, 79, 80, 81, 82, 83, 84, 85, 86, 87, 88, 89, 90, 91, 92, 93, 94, 95, 96, 97, 98, 99, 100, 101, 102, 103, 104, 105, 106, 107, 108, 109, 110, 111, 112, 113, 114, 115, 116, 117, 118, 119, 120, 121, 122, 123, 124, 125, 126])))
def _law_signs : FM := mFn 0 0 _law_signs_b
def _law_sign_b : SM :=
    (smSeq (smSet 2 (mC (.str [32, 48, 45, 43, 40, 49, 42, 41, 95, 44, 46, 57, 102])))
    (smSeq (smIf (mTB (mCmp cGt (mCall M._law_pick (amCons (mV 0) (amCons (mV 1) (amCons (mC (.int 3)) amNil)))) (mC (.int 0)))) (smRet (mIx (mV 2) (mCall M._law_pick (amCons (mV 0) (amCons (mB oAdd (mV 1) (mC (.int 1))) (amCons (mBlt bLen (amCons (mV 2) amNil)) amNil)))))) smSkip)
    (smRet (mIx (mCall M._law_signs amNil) (mCall M._law_pick (amCons (mV 0) (amCons (mB oAdd (mV 1) (mC (.int 2))) (amCons (mC (.int 94)) amNil))))))))
def _law_sign : FM := mFn 2 1 _law_sign_b
def _law_number_spec_b : SM :=
    (smSeq (smSet 3 (mB oAdd (mC (.int 1)) (mCall M._law_pick (amCons (mV 0) (amCons (mC (.int 1)) (amCons (mIx (mLst (amCons (mC (.int 12)) (amCons (mC (.int 2)) amNil))) (mV 2)) amNil))))))
    (smSeq (smSet 4 (mCall M._law_pick (amCons (mV 0) (amCons (mC (.int 2)) (amCons (mIx (mLst (amCons (mC (.int 7)) (amCons (mC (.int 2)) amNil))) (mV 2)) amNil)))))
    (smSeq (smSet 5 (mIx (mLst (amCons (mC (.int 10)) (amCons (mC (.int 2)) (amCons (mIx (mLst (amCons (mC (.int 16)) (amCons (mC (.int 3)) amNil))) (mV 2)) (amCons (mIx (mLst (amCons (mB oAdd (mC (.int 2)) (mCall M._law_pick (amCons (mV 0) (amCons (mC (.int 3)) (amCons (mC (.int 15)) amNil))))) (amCons (mC (.int 10)) amNil))) (mV 2)) amNil))))) (mCall M._law_pick (amCons (mV 0) (amCons (mC (.int 4)) (amCons (mC (.int 4)) amNil))))))
    (smSeq (smSet 6 (mIx (mLst (amCons (mC (.str [109, 105, 110, 117, 115])) (amCons (mC (.str [112, 108, 117, 115])) (amCons (mC (.str [98, 108, 97, 110, 107])) (amCons (mC (.str [98, 114, 97, 99, 107, 101, 116, 115])) (amCons (mC (.str [98, 101, 104, 105, 110, 100])) amNil)))))) (mCall M._law_pick (amCons (mV 0) (amCons (mC (.int 5)) (amCons (mC (.int 5)) amNil))))))
    (smSeq (smSet 7 (mIx (mLst (amCons (mC (.int 0)) (amCons (mC (.int 3)) (amCons (mB oAdd (mC (.int 1)) (mCall M._law_pick (amCons (mV 0) (amCons (mC (.int 6)) (amCons (mC (.int 9)) amNil))))) amNil)))) (mCall M._law_pick (amCons (mV 0) (amCons (mC (.int 7)) (amCons (mC (.int 3)) amNil))))))
    (smSeq (smSet 8 (mIx (mLst (amCons (mC (.str [100, 111, 119, 110])) (amCons (mC (.str [117, 112])) (amCons (mC (.str [99, 117, 116])) (amCons (mC (.str [110, 101, 97, 114])) (amCons (mC (.str [101, 118, 101, 110])) amNil)))))) (mCall M._law_pick (amCons (mV 0) (amCons (mC (.int 8)) (amCons (mC (.int 5)) amNil))))))
    (smSeq (smSet 9 (mTup (amCons (mCall M._law_sign (amCons (mV 1) (amCons (mC (.int 10)) amNil))) (amCons (mCall M._law_sign (amCons (mV 1) (amCons (mC (.int 20)) amNil))) (amCons (mCall M._law_sign (amCons (mV 1) (amCons (mC (.int 30)) amNil))) amNil)))))
    (smSeq (smSet 10 (mLst (amCons (mC (.int 0)) (amCons (mB oAdd (mC (.int 1)) (mCall M._law_pick (amCons (mV 1) (amCons (mC (.int 40)) (amCons (mIx (mLst (amCons (mC (.int 40)) (amCons (mC (.int 5)) amNil))) (mV 2)) amNil))))) (amCons (mB oAdd (mC (.int 3)) (mCall M._law_pick (amCons (mV 1) (amCons (mC (.int 41)) (amCons (mIx (mLst (amCons (mC (.int 8)) (amCons (mC (.int 3)) amNil))) (mV 2)) amNil))))) amNil)))))
    (smSeq (smSet 11 (mIx (mV 10) (mCall M._law_pick (amCons (mV 1) (amCons (mC (.int 42)) (amCons (mC (.int 3)) amNil))))))
    (smSeq (smSet 12 (mIx (mLst (amCons (mC (.str [114, 105, 103, 104, 116])) (amCons (mC (.str [108, 101, 102, 116])) (amCons (mC (.str [109, 105, 100, 100, 108, 101])) (amCons (mC (.str [105, 110, 115, 105, 100, 101])) amNil))))) (mCall M._law_pick (amCons (mV 1) (amCons (mC (.int 43)) (amCons (mC (.int 4)) amNil))))))
    (smSeq (smSet 13 (mCmp cEq (mCall M._law_pick (amCons (mV 1) (amCons (mC (.int 44)) (amCons (mC (.int 3)) amNil)))) (mC (.int 0))))
    (smRet (mTup (amCons (mC (.str [110, 117, 109, 98, 101, 114])) (amCons (mV 3) (amCons (mV 4) (amCons (mV 5) (amCons (mV 6) (amCons (mV 7) (amCons (mIx (mV 9) (mC (.int 0))) (amCons (mIx (mV 9) (mC (.int 1))) (amCons (mV 8) (amCons (mV 11) (amCons (mIx (mV 9) (mC (.int 2))) (amCons (mV 12) (amCons (mV 13) amNil))))))))))))))))))))))))))
def _law_number_spec : FM := mFn 3 11 _law_number_spec_b
end M
namespace Law
open Dm M
def sgL : List Nat := [32, 33, 34, 35, 36, 38, 39, 40, 41, 42, 43, 44, 45, 46, 47, 48, 49, 50, 51, 52, 53, 54, 55, 56, 57, 58, 59, 60, 61, 62, 63, 64, 65, 66, 67, 68, 69, 70, 71, 72, 73, 74, 75, 76, 77, 78, 79, 80, 81, 82, 83, 84, 85, 86, 87, 88, 89, 90, 91, 92, 93, 94, 95, 96, 97, 98, 99, 100, 101, 102, 103, 104, 105, 106, 107, 108, 109, 110, 111, 112, 113, 114, 115, 116, 117, 118, 119, 120, 121, 122, 123, 124, 125, 126]
theorem sgL_len : sgL.length = 94 := by decide
theorem sgL_b : ∀ x ∈ sgL, 32 ≤ x ∧ x < 127 := by decide
theorem signs_eq : M._law_signs [] = .ok (.str sgL, false) := id rfl
theorem sign2_ex (c : Int) (s : Nat) (hs : s ≤ 1000) : ∃ x : Nat, M._law_sign [.int c, .int s] = .ok (.str [x], false) ∧ 32 ≤ x ∧ x < 127 := by
  obtain ⟨r1, h1, e1⟩ := pick_ex c s 3
  obtain ⟨r2, h2, e2⟩ := pick_ex c ((s : Int) + 1) 13
  obtain ⟨r3, h3, e3⟩ := pick_ex c ((s : Int) + 2) 94
  have k1 : 13 ≤ lim := le_lim (by decide)
  have k2 : 94 ≤ lim := le_lim (by decide)
  simp at e1 e2 e3
  by_cases h : 0 < r1
  · obtain ⟨x, hx, ex⟩ := (show ∃ x, x ∈ [32, 48, 45, 43, 40, 49, 42, 41, 95, 44, 46, 57, 102] ∧ atI [32, 48, 45, 43, 40, 49, 42, 41, 95, 44, 46, 57, 102] (r2 : Int) = some x from ⟨_, List.getElem_mem (show r2 < [32, 48, 45, 43, 40, 49, 42, 41, 95, 44, 46, 57, 102].length from h2), atI_nat h2⟩)
    refine ⟨x, ?_, (show ∀ x ∈ [32, 48, 45, 43, 40, 49, 42, 41, 95, 44, 46, 57, 102], 32 ≤ x ∧ x < 127 by decide) x hx⟩
    simp [_law_sign, _law_sign_b, e1, h, k1, e2, ex]
  · obtain ⟨x, hx, ex⟩ := atI_mem (xs := sgL) (i := (r3 : Int)) (by omega) (by rw [sgL_len]; omega)
    refine ⟨x, ?_, sgL_b x hx⟩
    have sl : sgL.length ≤ lim := by rw [sgL_len]; exact k2
    simp [_law_sign, _law_sign_b, e1, h, k1, k2, e3, signs_eq, ex, sl]
/-- a form of numbers, by the law's words -/
structure NS where
  f : Nat
  p : Nat
  b : Nat
  sg : List Nat
  sz : Nat
  mark : Nat
  pt : Nat
  wy : List Nat
  wd : Nat
  fl : Nat
  sd : List Nat
  st : Bool
def sdI : List Nat := [105, 110, 115, 105, 100, 101]
def NS.D (S : NS) : D := .seq .tup [.str [110, 117, 109, 98, 101, 114], .int S.f, .int S.p, .int S.b, .str S.sg, .int S.sz, .str [S.mark], .str [S.pt], .str S.wy, .int S.wd, .str [S.fl], .str S.sd, .bl S.st]
structure NS.Ok (S : NS) : Prop where
  f1 : 1 ≤ S.f
  f2 : S.f ≤ 12
  p2 : S.p ≤ 6
  b1 : 2 ≤ S.b
  b2 : S.b ≤ 16
  sg : S.sg ∈ styles
  sz : S.sz ≤ 9
  mark : 32 ≤ S.mark ∧ S.mark < 127
  pt : 32 ≤ S.pt ∧ S.pt < 127
  wd : S.wd ≤ 40
  fl : 32 ≤ S.fl ∧ S.fl < 127
  sd : S.sd = sdL ∨ S.sd = sdR ∨ S.sd = sdM ∨ S.sd = sdI
  wy : S.wy = wDown ∨ S.wy = wUp ∨ S.wy = wCut ∨ S.wy = wNear ∨ S.wy = wEven
theorem spec_ex (c o : Int) (sm : Nat) (h : sm ≤ 1) : ∃ S : NS, S.Ok ∧ M._law_number_spec [.int c, .int o, .int sm] = .ok (S.D, false) := by
  obtain ⟨m1, a1, b1, c1⟩ : ∃ m : Nat, atI [D.int 12, .int 2] (sm : Int) = some (.int m) ∧ 1 ≤ m ∧ m ≤ 12 := by
    rcases (show sm = 0 ∨ sm = 1 by omega) with rfl | rfl
    · exact ⟨12, rfl, by decide, by decide⟩
    · exact ⟨2, rfl, by decide, by decide⟩
  obtain ⟨m2, a2, b2, c2⟩ : ∃ m : Nat, atI [D.int 7, .int 2] (sm : Int) = some (.int m) ∧ 1 ≤ m ∧ m ≤ 7 := by
    rcases (show sm = 0 ∨ sm = 1 by omega) with rfl | rfl
    · exact ⟨7, rfl, by decide, by decide⟩
    · exact ⟨2, rfl, by decide, by decide⟩
  obtain ⟨m3, a3, b3, c3⟩ : ∃ m : Nat, atI [D.int 16, .int 3] (sm : Int) = some (.int m) ∧ 2 ≤ m ∧ m ≤ 16 := by
    rcases (show sm = 0 ∨ sm = 1 by omega) with rfl | rfl
    · exact ⟨16, rfl, by decide, by decide⟩
    · exact ⟨3, rfl, by decide, by decide⟩
  obtain ⟨m5, a5, b5, c5⟩ : ∃ m : Nat, atI [D.int 40, .int 5] (sm : Int) = some (.int m) ∧ 1 ≤ m ∧ m ≤ 40 := by
    rcases (show sm = 0 ∨ sm = 1 by omega) with rfl | rfl
    · exact ⟨40, rfl, by decide, by decide⟩
    · exact ⟨5, rfl, by decide, by decide⟩
  obtain ⟨m6, a6, b6, c6⟩ : ∃ m : Nat, atI [D.int 8, .int 3] (sm : Int) = some (.int m) ∧ 1 ≤ m ∧ m ≤ 8 := by
    rcases (show sm = 0 ∨ sm = 1 by omega) with rfl | rfl
    · exact ⟨8, rfl, by decide, by decide⟩
    · exact ⟨3, rfl, by decide, by decide⟩
  obtain ⟨r1, h1, e1⟩ := pick_ex c 1 m1
  obtain ⟨r2, h2, e2⟩ := pick_ex c 2 m2
  obtain ⟨r3, h3, e3⟩ := pick_ex c 3 15
  obtain ⟨m4, a4, b4, c4⟩ : ∃ m : Nat, atI [D.int (2 + (r3 : Int)), .int 10] (sm : Int) = some (.int m) ∧ 2 ≤ m ∧ m ≤ 16 := by
    rcases (show sm = 0 ∨ sm = 1 by omega) with rfl | rfl
    · exact ⟨2 + r3, rfl, by omega, by omega⟩
    · exact ⟨10, rfl, by decide, by decide⟩
  obtain ⟨r4, h4, e4⟩ := pick_ex c 4 4
  obtain ⟨b, ab, bb, cb⟩ : ∃ m : Nat, atI [D.int 10, .int 2, .int m3, .int m4] (r4 : Int) = some (.int m) ∧ 2 ≤ m ∧ m ≤ 16 := by
    rcases (show r4 = 0 ∨ r4 = 1 ∨ r4 = 2 ∨ r4 = 3 by omega) with rfl | rfl | rfl | rfl
    · exact ⟨10, rfl, by decide, by decide⟩
    · exact ⟨2, rfl, by decide, by decide⟩
    · exact ⟨m3, rfl, b3, c3⟩
    · exact ⟨m4, rfl, b4, c4⟩
  obtain ⟨r5, h5, e5⟩ := pick_ex c 5 5
  obtain ⟨sg, as, bs⟩ : ∃ s : List Nat, atI [D.str syMinus, .str syPlus, .str syBlank, .str syBrack, .str syBehind] (r5 : Int) = some (.str s) ∧ s ∈ styles := by
    rcases (show r5 = 0 ∨ r5 = 1 ∨ r5 = 2 ∨ r5 = 3 ∨ r5 = 4 by omega) with rfl | rfl | rfl | rfl | rfl
    · exact ⟨syMinus, rfl, by simp [styles]⟩
    · exact ⟨syPlus, rfl, by simp [styles]⟩
    · exact ⟨syBlank, rfl, by simp [styles]⟩
    · exact ⟨syBrack, rfl, by simp [styles]⟩
    · exact ⟨syBehind, rfl, by simp [styles]⟩
  obtain ⟨r6, h6, e6⟩ := pick_ex c 6 9
  obtain ⟨r7, h7, e7⟩ := pick_ex c 7 3
  obtain ⟨sz, az, bz⟩ : ∃ m : Nat, atI [D.int 0, .int 3, .int (1 + (r6 : Int))] (r7 : Int) = some (.int m) ∧ m ≤ 9 := by
    rcases (show r7 = 0 ∨ r7 = 1 ∨ r7 = 2 by omega) with rfl | rfl | rfl
    · exact ⟨0, rfl, by decide⟩
    · exact ⟨3, rfl, by decide⟩
    · exact ⟨1 + r6, rfl, by omega⟩
  obtain ⟨r8, h8, e8⟩ := pick_ex c 8 5
  obtain ⟨wy, aw, bw⟩ : ∃ s : List Nat, atI [D.str [100, 111, 119, 110], .str [117, 112], .str [99, 117, 116], .str [110, 101, 97, 114], .str [101, 118, 101, 110]] (r8 : Int) = some (.str s) ∧ (s = wDown ∨ s = wUp ∨ s = wCut ∨ s = wNear ∨ s = wEven) := by
    rcases (show r8 = 0 ∨ r8 = 1 ∨ r8 = 2 ∨ r8 = 3 ∨ r8 = 4 by omega) with rfl | rfl | rfl | rfl | rfl
    · exact ⟨wDown, rfl, .inl rfl⟩
    · exact ⟨wUp, rfl, .inr (.inl rfl)⟩
    · exact ⟨wCut, rfl, .inr (.inr (.inl rfl))⟩
    · exact ⟨wNear, rfl, .inr (.inr (.inr (.inl rfl)))⟩
    · exact ⟨wEven, rfl, .inr (.inr (.inr (.inr rfl)))⟩
  obtain ⟨x1, s1, t1⟩ := sign2_ex o 10 (by decide)
  obtain ⟨x2, s2, t2⟩ := sign2_ex o 20 (by decide)
  obtain ⟨x3, s3, t3⟩ := sign2_ex o 30 (by decide)
  obtain ⟨r9, h9, e9⟩ := pick_ex o 40 m5
  obtain ⟨q1, g1, i1⟩ := pick_ex o 41 m6
  obtain ⟨q2, g2, i2⟩ := pick_ex o 42 3
  obtain ⟨wd, ad, bd⟩ : ∃ m : Nat, atI [D.int 0, .int (1 + (r9 : Int)), .int (3 + (q1 : Int))] (q2 : Int) = some (.int m) ∧ m ≤ 40 := by
    rcases (show q2 = 0 ∨ q2 = 1 ∨ q2 = 2 by omega) with rfl | rfl | rfl
    · exact ⟨0, rfl, by decide⟩
    · exact ⟨1 + r9, rfl, by omega⟩
    · exact ⟨3 + q1, rfl, by omega⟩
  obtain ⟨q3, g3, i3⟩ := pick_ex o 43 4
  obtain ⟨sd, asd, bsd⟩ : ∃ s : List Nat, atI [D.str sdR, .str sdL, .str sdM, .str sdI] (q3 : Int) = some (.str s) ∧ (s = sdL ∨ s = sdR ∨ s = sdM ∨ s = sdI) := by
    rcases (show q3 = 0 ∨ q3 = 1 ∨ q3 = 2 ∨ q3 = 3 by omega) with rfl | rfl | rfl | rfl
    · exact ⟨sdR, rfl, .inr (.inl rfl)⟩
    · exact ⟨sdL, rfl, .inl rfl⟩
    · exact ⟨sdM, rfl, .inr (.inr (.inl rfl))⟩
    · exact ⟨sdI, rfl, .inr (.inr (.inr rfl))⟩
  obtain ⟨q4, g4, i4⟩ := pick_ex o 44 3
  refine ⟨⟨1 + r1, r2, b, sg, sz, x1, x2, wy, wd, x3, sd, decide (q4 = 0)⟩, ⟨by show 1 ≤ 1 + r1; omega, by show 1 + r1 ≤ 12; omega, by show r2 ≤ 6; omega, bb, cb, bs, bz, t1, t2, bd, t3, bsd, bw⟩, ?_⟩
  simp only [syMinus, syPlus, syBlank, syBrack, syBehind] at as
  simp only [sdL, sdR, sdM, sdI] at asd
  simp at e1 e2 e3 e4 e5 e6 e7 e8 e9 i1 i2 i3 i4 s1 s2 s3
  have k : ∀ n, n ≤ 13 → n ≤ lim := fun n h => le_lim (by omega)
  have t0 : ∀ x y z : D, atI [x, y, z] 0 = some x := fun _ _ _ => rfl
  have t1 : ∀ x y z : D, atI [x, y, z] 1 = some y := fun _ _ _ => rfl
  have t2 : ∀ x y z : D, atI [x, y, z] 2 = some z := fun _ _ _ => rfl
  have dq : ((q4 : Int) == 0) = decide (q4 = 0) := by
    rw [Bool.eq_iff_iff]
    simp
  simp (disch := first | omega | simp) [_law_number_spec, _law_number_spec_b, k, t0, t1, t2, dq, NS.D, a1, a2, a3, a4, a5, a6, e1, e2, e3, e4, ab, e5, as, e6, e7, az, e8, aw, s1, s2, s3, e9, i1, i2, ad, i3, asd, i4]
theorem t13_24 (x1 x2 x3 x4 x5 x6 x7 x8 x9 x10 x11 x12 x13 : D) : dCut (.seq .tup [x1, x2, x3, x4, x5, x6, x7, x8, x9, x10, x11, x12, x13]) (some 2) (some 4) = .ok (.seq .tup [x3, x4], .cl) := if_neg (t := (Res.bad : Res (D × Tg))) (show ¬ (sIx 13 0 (some 2) = 0 ∧ sIx 13 13 (some 4) = 13) by decide)
theorem t13_58 (x1 x2 x3 x4 x5 x6 x7 x8 x9 x10 x11 x12 x13 : D) : dCut (.seq .tup [x1, x2, x3, x4, x5, x6, x7, x8, x9, x10, x11, x12, x13]) (some 5) (some 8) = .ok (.seq .tup [x6, x7, x8], .cl) := if_neg (t := (Res.bad : Res (D × Tg))) (show ¬ (sIx 13 0 (some 5) = 0 ∧ sIx 13 13 (some 8) = 13) by decide)
theorem t13_18 (x1 x2 x3 x4 x5 x6 x7 x8 x9 x10 x11 x12 x13 : D) : dCut (.seq .tup [x1, x2, x3, x4, x5, x6, x7, x8, x9, x10, x11, x12, x13]) (some 1) (some 8) = .ok (.seq .tup [x2, x3, x4, x5, x6, x7, x8], .cl) := if_neg (t := (Res.bad : Res (D × Tg))) (show ¬ (sIx 13 0 (some 1) = 0 ∧ sIx 13 13 (some 8) = 13) by decide)
theorem t13_8 (x1 x2 x3 x4 x5 x6 x7 x8 x9 x10 x11 x12 x13 : D) : dCut (.seq .tup [x1, x2, x3, x4, x5, x6, x7, x8, x9, x10, x11, x12, x13]) (some 8) none = .ok (.seq .tup [x9, x10, x11, x12, x13], .cl) := if_neg (t := (Res.bad : Res (D × Tg))) (show ¬ (sIx 13 0 (some 8) = 0 ∧ sIx 13 13 none = 13) by decide)
theorem t13_a4 (x1 x2 x3 x4 x5 x6 x7 x8 x9 x10 x11 x12 x13 : D) : atI [x1, x2, x3, x4, x5, x6, x7, x8, x9, x10, x11, x12, x13] 4 = some x5 := rfl
theorem t13_a3 (x1 x2 x3 x4 x5 x6 x7 x8 x9 x10 x11 x12 x13 : D) : atI [x1, x2, x3, x4, x5, x6, x7, x8, x9, x10, x11, x12, x13] 3 = some x4 := rfl
theorem t13_a2 (x1 x2 x3 x4 x5 x6 x7 x8 x9 x10 x11 x12 x13 : D) : atI [x1, x2, x3, x4, x5, x6, x7, x8, x9, x10, x11, x12, x13] 2 = some x3 := rfl
theorem t13_a1 (x1 x2 x3 x4 x5 x6 x7 x8 x9 x10 x11 x12 x13 : D) : atI [x1, x2, x3, x4, x5, x6, x7, x8, x9, x10, x11, x12, x13] 1 = some x2 := rfl
theorem t13_m1 (x1 x2 x3 x4 x5 x6 x7 x8 x9 x10 x11 x12 x13 : D) : atI [x1, x2, x3, x4, x5, x6, x7, x8, x9, x10, x11, x12, x13] (-1) = some x13 := rfl
theorem t13_m2 (x1 x2 x3 x4 x5 x6 x7 x8 x9 x10 x11 x12 x13 : D) : atI [x1, x2, x3, x4, x5, x6, x7, x8, x9, x10, x11, x12, x13] (-2) = some x12 := rfl
theorem t13_m3 (x1 x2 x3 x4 x5 x6 x7 x8 x9 x10 x11 x12 x13 : D) : atI [x1, x2, x3, x4, x5, x6, x7, x8, x9, x10, x11, x12, x13] (-3) = some x11 := rfl
theorem t13_m4 (x1 x2 x3 x4 x5 x6 x7 x8 x9 x10 x11 x12 x13 : D) : atI [x1, x2, x3, x4, x5, x6, x7, x8, x9, x10, x11, x12, x13] (-4) = some x10 := rfl
end Law

end
end

section
set_option linter.all false
set_option maxRecDepth 100000
set_option maxHeartbeats 1000000
noncomputable section
namespace M
open Dm
def _law_word_spec_b : SM :=
    (smSeq (smSet 3 (mCall M._law_pick (amCons (mV 0) (amCons (mC (.int 51)) (amCons (mC (.int 94)) amNil)))))
    (smSeq (smSet 4 (mB oAdd (mC (.int 1)) (mCall M._law_pick (amCons (mV 0) (amCons (mC (.int 52)) (amCons (mC (.int 9)) amNil))))))
    (smSeq (smSet 5 (mCut (mStep (mCall M._law_signs amNil) (mV 3) (mV 4)) mNoP (mPart (mB oAdd (mC (.int 1)) (mCall M._law_pick (amCons (mV 0) (amCons (mC (.int 53)) (amCons (mIx (mLst (amCons (mC (.int 94)) (amCons (mC (.int 3)) amNil))) (mV 2)) amNil))))))))
    (smSeq (smSet 6 (mCall M._law_pick (amCons (mV 1) (amCons (mC (.int 54)) (amCons (mIx (mLst (amCons (mC (.int 25)) (amCons (mC (.int 3)) amNil))) (mV 2)) amNil)))))
    (smSeq (smSet 7 (mBlt bMin (amCons (mC (.int 24)) (amCons (mB oAdd (mV 6) (mCall M._law_pick (amCons (mV 1) (amCons (mC (.int 55)) (amCons (mIx (mLst (amCons (mC (.int 25)) (amCons (mC (.int 3)) amNil))) (mV 2)) amNil))))) amNil))))
    (smSeq (smSet 8 (mIx (mLst (amCons (mIx (mV 5) (mC (.int 0))) (amCons (mCall M._law_sign (amCons (mV 1) (amCons (mC (.int 56)) amNil))) (amCons (mIx (mV 5) (mNeg (mC (.int 1)))) amNil)))) (mCall M._law_pick (amCons (mV 1) (amCons (mC (.int 59)) (amCons (mC (.int 3)) amNil))))))
    (smSeq (smSet 9 (mIx (mLst (amCons (mC (.int 0)) (amCons (mB oAdd (mC (.int 1)) (mCall M._law_pick (amCons (mV 1) (amCons (mC (.int 60)) (amCons (mIx (mLst (amCons (mC (.int 40)) (amCons (mC (.int 5)) amNil))) (mV 2)) amNil))))) (amCons (mV 7) amNil)))) (mCall M._law_pick (amCons (mV 1) (amCons (mC (.int 61)) (amCons (mC (.int 3)) amNil))))))
    (smSeq (smSet 10 (mIx (mLst (amCons (mC (.str [108, 101, 102, 116])) (amCons (mC (.str [114, 105, 103, 104, 116])) (amCons (mC (.str [109, 105, 100, 100, 108, 101])) amNil)))) (mCall M._law_pick (amCons (mV 1) (amCons (mC (.int 62)) (amCons (mC (.int 3)) amNil))))))
    (smRet (mTup (amCons (mC (.str [119, 111, 114, 100])) (amCons (mV 5) (amCons (mV 6) (amCons (mV 7) (amCons (mV 9) (amCons (mV 8) (amCons (mV 10) (amCons (mCmp cEq (mCall M._law_pick (amCons (mV 1) (amCons (mC (.int 63)) (amCons (mC (.int 3)) amNil)))) (mC (.int 0))) amNil))))))))))))))))))
def _law_word_spec : FM := mFn 3 8 _law_word_spec_b
end M
namespace Law
open Dm M
/-- a form of words, by the law's words -/
structure WS where
  sg : List Nat
  lo : Nat
  hi : Nat
  wd : Nat
  fl : Nat
  sd : List Nat
  st : Bool
def WS.D (S : WS) : Dm.D := .seq .tup [.str [119, 111, 114, 100], .str S.sg, .int S.lo, .int S.hi, .int S.wd, .str [S.fl], .str S.sd, .bl S.st]
structure WS.Ok (S : WS) : Prop where
  ne : S.sg ≠ []
  len : S.sg.length ≤ 94
  sg : ∀ y ∈ S.sg, 32 ≤ y ∧ y < 127
  lh : S.lo ≤ S.hi
  hi : S.hi ≤ 24
  wd : S.wd ≤ 40
  fl : 32 ≤ S.fl ∧ S.fl < 127
  sd : S.sd = sdL ∨ S.sd = sdR ∨ S.sd = sdM
theorem stepL_mem (s : List Nat) (a k : Nat) : ∀ y ∈ stepL s a k, y ∈ s := fun y hy => by
  unfold stepL at hy
  obtain ⟨j, _, h⟩ := List.mem_filterMap.mp hy
  exact List.mem_of_getElem? h
theorem stepL_len (s : List Nat) (a k : Nat) (hk : 0 < k) : (stepL s a k).length ≤ s.length := by
  unfold stepL
  refine Nat.le_trans (List.length_filterMap_le _ _) ?_
  rw [List.length_range]
  by_cases h : s.length - a = 0
  · rw [h, Nat.zero_add, Nat.div_eq_of_lt (by omega)]
    omega
  · have : (s.length - a + k - 1) / k ≤ s.length - a := by
      rw [Nat.div_le_iff_le_mul_add_pred hk]
      have := Nat.mul_le_mul_right (s.length - a) (show 1 ≤ k from hk)
      rw [Nat.one_mul] at this
      omega
    omega
theorem stepL_ne (s : List Nat) (a k : Nat) (hk : 0 < k) (ha : a < s.length) : stepL s a k ≠ [] := by
  intro h
  have hm : s[a] ∈ stepL s a k := by
    unfold stepL
    refine List.mem_filterMap.mpr ⟨0, List.mem_range.mpr ?_, by simp [List.getElem?_eq_getElem ha]⟩
    exact Nat.div_pos (by omega) hk
  rw [h] at hm
  cases hm
theorem wspec_ex (c o : Int) (sm : Nat) (h : sm ≤ 1) : ∃ S : WS, S.Ok ∧ M._law_word_spec [.int c, .int o, .int sm] = .ok (S.D, false) := by
  obtain ⟨m1, a1, b1, c1⟩ : ∃ m : Nat, atI [D.int 94, .int 3] (sm : Int) = some (.int m) ∧ 1 ≤ m ∧ m ≤ 94 := by
    rcases (show sm = 0 ∨ sm = 1 by omega) with rfl | rfl
    · exact ⟨94, rfl, by decide, by decide⟩
    · exact ⟨3, rfl, by decide, by decide⟩
  obtain ⟨m2, a2, b2, c2⟩ : ∃ m : Nat, atI [D.int 25, .int 3] (sm : Int) = some (.int m) ∧ 1 ≤ m ∧ m ≤ 25 := by
    rcases (show sm = 0 ∨ sm = 1 by omega) with rfl | rfl
    · exact ⟨25, rfl, by decide, by decide⟩
    · exact ⟨3, rfl, by decide, by decide⟩
  obtain ⟨m3, a3, b3, c3⟩ : ∃ m : Nat, atI [D.int 40, .int 5] (sm : Int) = some (.int m) ∧ 1 ≤ m ∧ m ≤ 40 := by
    rcases (show sm = 0 ∨ sm = 1 by omega) with rfl | rfl
    · exact ⟨40, rfl, by decide, by decide⟩
    · exact ⟨5, rfl, by decide, by decide⟩
  obtain ⟨r1, h1, e1⟩ := pick_ex c 51 94
  obtain ⟨r2, h2, e2⟩ := pick_ex c 52 9
  obtain ⟨r3, h3, e3⟩ := pick_ex c 53 m1
  obtain ⟨r4, h4, e4⟩ := pick_ex o 54 m2
  obtain ⟨r5, h5, e5⟩ := pick_ex o 55 m2
  obtain ⟨x, s1, t1⟩ := sign2_ex o 56 (by decide)
  obtain ⟨r6, h6, e6⟩ := pick_ex o 59 3
  obtain ⟨r7, h7, e7⟩ := pick_ex o 60 m3
  obtain ⟨r8, h8, e8⟩ := pick_ex o 61 3
  obtain ⟨r9, h9, e9⟩ := pick_ex o 62 3
  obtain ⟨q0, g0, i0⟩ := pick_ex o 63 3
  have sl := sgL_len
  have k94 : sgL.length ≤ lim := by rw [sl]; exact le_lim (by decide)
  obtain ⟨L, hL⟩ : ∃ L, L = stepL sgL r1 (1 + r2) := ⟨_, rfl⟩
  have Lne := stepL_ne sgL r1 (1 + r2) (by omega) (by omega)
  have Lln := stepL_len sgL r1 (1 + r2) (by omega)
  have Lmm := stepL_mem sgL r1 (1 + r2)
  rw [← hL] at Lne Lln Lmm
  obtain ⟨T, hT⟩ : ∃ T, T = L.take (1 + r3) := ⟨_, rfl⟩
  have hcut : cutL L none (some (1 + (r3 : Int))) = T := by
    rw [hT, show (1 : Int) + (r3 : Int) = ((1 + r3 : Nat) : Int) by omega]
    exact cutL_to _ _
  have Tne : T ≠ [] := by
    intro z
    rw [hT] at z
    have := congrArg List.length z
    rw [List.length_take, List.length_nil] at this
    have := List.length_pos_iff.mpr Lne
    omega
  have T0 := List.length_pos_iff.mpr Tne
  have Tb : ∀ y ∈ T, 32 ≤ y ∧ y < 127 := fun y hy => sgL_b y (Lmm y (by rw [hT] at hy; exact List.mem_of_mem_take hy))
  have Tl : T.length ≤ 94 := by rw [hT, List.length_take]; omega
  obtain ⟨f0, hf0, mf0⟩ : ∃ y, atI T 0 = some y ∧ y ∈ T := ⟨T[0], atI_nat (i := 0) T0, List.getElem_mem T0⟩
  obtain ⟨f1, hf1, mf1⟩ : ∃ y, atI T (-1) = some y ∧ y ∈ T := by
    have hlt : T.length - 1 < T.length := by omega
    refine ⟨T[T.length - 1], ?_, List.getElem_mem hlt⟩
    unfold atI ixN
    rw [if_neg (by decide), if_pos (by omega)]
    show T[((-1 : Int) + (T.length : Int)).toNat]? = _
    rw [show ((-1 : Int) + (T.length : Int)).toNat = T.length - 1 by omega, List.getElem?_eq_getElem hlt]
  obtain ⟨fl, af, bf⟩ : ∃ y : Nat, atI [D.str [f0], .str [x], .str [f1]] (r6 : Int) = some (.str [y]) ∧ 32 ≤ y ∧ y < 127 := by
    rcases (show r6 = 0 ∨ r6 = 1 ∨ r6 = 2 by omega) with rfl | rfl | rfl
    · exact ⟨f0, rfl, Tb f0 mf0⟩
    · exact ⟨x, rfl, t1⟩
    · exact ⟨f1, rfl, Tb f1 mf1⟩
  obtain ⟨hi, ahi, bhi⟩ : ∃ m : Nat, bMin [.int 24, .int ((r4 : Int) + (r5 : Int))] = .ok (.int m) ∧ m = min 24 (r4 + r5) := by
    refine ⟨min 24 (r4 + r5), ?_, rfl⟩
    rw [bMin_i]
    congr 2
    split <;> omega
  obtain ⟨wd, aw, bw⟩ : ∃ m : Nat, atI [D.int 0, .int (1 + (r7 : Int)), .int hi] (r8 : Int) = some (.int m) ∧ m ≤ 40 := by
    rcases (show r8 = 0 ∨ r8 = 1 ∨ r8 = 2 by omega) with rfl | rfl | rfl
    · exact ⟨0, rfl, by decide⟩
    · exact ⟨1 + r7, rfl, by omega⟩
    · exact ⟨hi, rfl, by omega⟩
  obtain ⟨sd, asd, bsd⟩ : ∃ s : List Nat, atI [D.str sdL, .str sdR, .str sdM] (r9 : Int) = some (.str s) ∧ (s = sdL ∨ s = sdR ∨ s = sdM) := by
    rcases (show r9 = 0 ∨ r9 = 1 ∨ r9 = 2 by omega) with rfl | rfl | rfl
    · exact ⟨sdL, rfl, .inl rfl⟩
    · exact ⟨sdR, rfl, .inr (.inl rfl)⟩
    · exact ⟨sdM, rfl, .inr (.inr rfl)⟩
  refine ⟨⟨T, r4, hi, wd, fl, sd, decide (q0 = 0)⟩, ⟨Tne, Tl, Tb, by show r4 ≤ hi; omega, by show hi ≤ 24; omega, bw, bf, bsd⟩, ?_⟩
  simp only [sdL, sdR, sdM] at asd
  simp at e1 e2 e3 e4 e5 e6 e7 e8 e9 i0 s1
  have k : ∀ n, n ≤ 94 → n ≤ lim := fun n h => le_lim (by omega)
  have kT : T.length ≤ lim := k _ Tl
  have kL : L.length ≤ lim := le_lim (by omega)
  have hst : stepL sgL (r1 : Int).toNat (1 + (r2 : Int)).toNat = L := by
    rw [hL]
    congr 1
  have hst0 : (0 : Int) < 1 + (r2 : Int) := by omega
  have dq : ((q0 : Int) == 0) = decide (q0 = 0) := by
    rw [Bool.eq_iff_iff]
    simp
  simp at hst
  simp (disch := first | omega | simp) [-bMin_i, _law_word_spec, _law_word_spec_b, k, WS.D, a1, a2, a3, e1, e2, e3, e4, e5, e6, e7, e8, e9, i0, s1, signs_eq, k94, hst, hst0, kL, hcut, kT, hf0, hf1, af, ahi, aw, asd, dq]
end Law

end
end

section
set_option linter.all false
set_option maxRecDepth 100000
set_option maxHeartbeats 1000000
noncomputable section
namespace Law
open Dm
theorem strsOf_map : ∀ ts : List (List Nat), strsOf (ts.map .str) = some ts
  | [] => rfl
  | t :: ts => by
    rw [List.map_cons]
    unfold strsOf
    rw [strsOf_map ts]
    rfl
/-- the flattening of one sign each -/
theorem flat1 {α : Type} (g : α → Nat) : ∀ l : List α, (l.map fun k => [g k]).flatten = l.map g
  | [] => rfl
  | a :: l => by simp [flat1 g l]
/-- a comprehension whose elements are known to be there -/
theorem comp_ex {α β : Type} {put : D → Rho → Res Rho} {e : EM} {ρ : Rho} (h : α → D) (F : β → D) (R : α → β → Prop) (t : Tg) (ht : ∀ b, (t.free || (F b).sc) = true) : ∀ {cs : List α}, (∀ c ∈ cs, ∃ b, (put (h c) ρ).bind e = .ok (F b, t) ∧ R c b) →
    ∃ bs : List β, comp put tmYes e ρ (cs.map h) = .ok (bs.map F) ∧ bs.length = cs.length ∧ ∀ (i : Nat) (b : β), bs[i]? = some b → ∃ c, cs[i]? = some c ∧ R c b
  | [], _ => ⟨[], rfl, rfl, fun i b hb => by simp at hb⟩
  | x :: xs, hs => by
    obtain ⟨b, e2, r⟩ := hs x (List.mem_cons_self ..)
    obtain ⟨bs, ih, il, ir⟩ := comp_ex h F R t ht (cs := xs) fun d hd => hs d (List.mem_cons_of_mem _ hd)
    refine ⟨b :: bs, ?_, by simp [il], fun i y hy => ?_⟩
    · rw [List.map_cons]
      unfold comp
      have e0 : ∀ r, tmYes r = .ok true := fun _ => rfl
      cases e1 : put (h x) ρ with
      | ok ρ1 =>
        rw [e1, Res.bind_ok] at e2
        simp only [noEx, Res.bind_ok, e0, if_true, e2, ht b, ih, List.map_cons]
      | ex C => rw [e1] at e2; cases e2
      | bad => rw [e1] at e2; cases e2
    · cases i with
      | zero => exact ⟨x, rfl, by simp at hy; exact hy ▸ r⟩
      | succ i => exact ir i y (by simpa using hy)
/-- a comprehension that leaves some out -/
theorem comp_sel {α : Type} {put : D → Rho → Res Rho} {t : TM} {e : EM} {ρ : Rho} (h g : α → D) (p : α → Bool) (tg : Tg) (ht : ∀ c, (tg.free || (g c).sc) = true) : ∀ {cs : List α}, (∀ c ∈ cs, (put (h c) ρ).bind t = .ok (p c) ∧ (p c = true → (put (h c) ρ).bind e = .ok (g c, tg))) →
    comp put t e ρ (cs.map h) = .ok ((cs.filter p).map g)
  | [], _ => rfl
  | x :: xs, hs => by
    obtain ⟨e1, e2⟩ := hs x (List.mem_cons_self ..)
    have ih := comp_sel h g p tg ht (cs := xs) fun d hd => hs d (List.mem_cons_of_mem _ hd)
    rw [List.map_cons]
    unfold comp
    cases e3 : put (h x) ρ with
    | ok ρ1 =>
      rw [e3, Res.bind_ok] at e1 e2
      cases hp : p x with
      | true =>
        rw [hp] at e1
        simp only [noEx, Res.bind_ok, e1, if_true, e2 hp, ht x, ih, List.filter_cons_of_pos hp, List.map_cons]
      | false =>
        rw [hp] at e1
        have : ¬ p x = true := by rw [hp]; simp
        simp only [noEx, Res.bind_ok, e1, ih, List.filter_cons_of_neg this]
        rfl
    | ex C => rw [e3] at e1; cases e1
    | bad => rw [e3] at e1; cases e1
end Law

end
end

section
set_option linter.all false
set_option maxRecDepth 100000
set_option maxHeartbeats 1000000
noncomputable section
namespace Law
open Dm
abbrev Look := List (List Nat)
def lookD (l : Look) : Dm.D := .seq .lst (l.map .str)
theorem lookD_sc (l : Look) : (lookD l).sc = false := rfl
end Law

end
end

section
set_option linter.all false
set_option maxRecDepth 100000
set_option maxHeartbeats 1000000
noncomputable section
namespace M
open Dm
def _law_some_signs_b : SM :=
    (smSeq (smSet 1 (mCall M._law_pick (amCons (mV 0) (amCons (mC (.int 1)) (amCons (mC (.int 60)) amNil)))))
    (smRet (mCut (mStep (mCall M._law_signs amNil) (mV 1) (mB oAdd (mC (.int 1)) (mCall M._law_pick (amCons (mV 0) (amCons (mC (.int 2)) (amCons (mC (.int 9)) amNil)))))) mNoP (mPart (mC (.int 4))))))
def _law_some_signs : FM := mFn 1 1 _law_some_signs_b
def _law_cell_text_b : SM :=
    (smSeq (smSet 3 (mCall M._law_pick (amCons (mV 0) (amCons (mV 1) (amCons (mC (.int 4)) amNil)))))
    (smSeq (smIf (mTB (mCmp cLt (mV 3) (mC (.int 2)))) (smRet (mIx (mV 2) (mCall M._law_pick (amCons (mV 0) (amCons (mB oAdd (mV 1) (mC (.int 1))) (amCons (mC (.int 4)) amNil)))))) smSkip)
    (smSeq (smSet 4 (mB oAdd (mC (.int 1)) (mCall M._law_pick (amCons (mV 0) (amCons (mB oAdd (mV 1) (mC (.int 2))) (amCons (mC (.int 15)) amNil))))))
    (smRet (mS1 fJoin (mC (.str [])) (mComp (put1 5) [5] (wmR1 (mC (.int 4))) (mTB (mCmp cEq (mB oAnd (mB oShr (mV 4) (mV 5)) (mC (.int 1))) (mC (.int 1)))) (mIx (mV 2) (mV 5))))))))
def _law_cell_text : FM := mFn 3 3 _law_cell_text_b
def _law_look_b : SM :=
    (smRet (mComp (put1 3) [3] (wmR1 (mCall M._law_pick (amCons (mV 0) (amCons (mC (.int 3)) (amCons (mB oAdd (mV 2) (mC (.int 1))) amNil))))) tmYes (mCall M._law_cell_text (amCons (mV 0) (amCons (mB oAdd (mC (.int 10)) (mB oMul (mC (.int 3)) (mV 3))) (amCons (mV 1) amNil))))))
def _law_look : FM := mFn 3 1 _law_look_b
def _law_columns_b : SM :=
    (smSeq (smSet 2 (mCall M._law_some_signs (amCons (mCall M._law_cell_at (amCons (mV 0) (amCons (mC (.int 0)) amNil))) amNil)))
    (smSeq (smSet 3 (mB oAdd (mC (.int 1)) (mCall M._law_pick (amCons (mCall M._law_cell_at (amCons (mV 0) (amCons (mC (.int 1)) amNil))) (amCons (mC (.int 4)) (amCons (mC (.int 4)) amNil))))))
    (smSeq (smSet 4 (mLst amNil))
    (smSeq (smFor (put1 5) (wmR1 (mV 3)) (smSeq (smSet 6 (mB oAdd (mC (.int 1)) (mCall M._law_pick (amCons (mCall M._law_cell_at (amCons (mV 0) (amCons (mC (.int 1)) amNil))) (amCons (mB oAdd (mC (.int 5)) (mV 5)) (amCons (mIx (mLst (amCons (mC (.int 4)) (amCons (mC (.int 4)) (amCons (mC (.int 4)) (amCons (mC (.int 2)) amNil))))) (mB oSub (mV 3) (mC (.int 1)))) amNil))))))
    (smApp 4 (mComp (put1 7) [7] (wmR1 (mV 6)) tmYes (mCall M._law_look (amCons (mCall M._law_cell_at (amCons (mV 0) (amCons (mB oAdd (mB oAdd (mC (.int 2)) (mB oMul (mC (.int 4)) (mV 5))) (mV 7)) amNil))) (amCons (mV 2) (amCons (mV 1) amNil))))))))
    (smRet (mV 4))))))
def _law_columns : FM := mFn 2 6 _law_columns_b
end M
namespace Law
open Dm M
theorem stepL_length (s : List Nat) (a k : Nat) (hk : 0 < k) (ha : a < s.length) : (stepL s a k).length = (s.length - a + k - 1) / k := by
  have key : ∀ l : List Nat, (∀ j ∈ l, a + k * j < s.length) → (l.filterMap fun j => s[a + k * j]?).length = l.length := by
    intro l
    induction l with
    | nil => intro _; rfl
    | cons j l ih =>
      intro h
      have hj := h j (List.mem_cons_self ..)
      rw [List.filterMap_cons, List.getElem?_eq_getElem hj]
      simp only [List.length_cons]
      rw [ih fun i hi => h i (List.mem_cons_of_mem _ hi)]
  unfold stepL
  rw [key, List.length_range]
  intro j hj
  have h1 := (Nat.le_div_iff_mul_le hk).mp (show j + 1 ≤ (s.length - a + k - 1) / k from List.mem_range.mp hj)
  rw [Nat.add_mul, Nat.one_mul, Nat.mul_comm] at h1
  omega
theorem some_ex (cl : Int) : ∃ sg : List Nat, M._law_some_signs [.int cl] = .ok (.str sg, false) ∧ sg.length = 4 ∧ ∀ y ∈ sg, 32 ≤ y ∧ y < 127 := by
  obtain ⟨r1, h1, e1⟩ := pick_ex cl 1 60
  obtain ⟨r2, h2, e2⟩ := pick_ex cl 2 9
  have sl := sgL_len
  have k94 : sgL.length ≤ lim := by rw [sl]; exact le_lim (by decide)
  have Lln := stepL_length sgL r1 (1 + r2) (by omega) (by omega)
  have Lmm := stepL_mem sgL r1 (1 + r2)
  obtain ⟨L, hL⟩ : ∃ L, L = stepL sgL r1 (1 + r2) := ⟨_, rfl⟩
  rw [← hL] at Lln Lmm
  have L4 : 4 ≤ L.length := by
    rw [Lln, sl, Nat.le_div_iff_mul_le (by omega)]
    have : 4 * (1 + r2) ≤ 4 + 4 * r2 := by omega
    omega
  have Lup : L.length ≤ 94 := by
    rw [hL]
    exact Nat.le_trans (stepL_len _ _ _ (by omega)) (by rw [sl]; exact Nat.le_refl _)
  have kL : L.length ≤ lim := le_lim (by omega)
  have hcut : cutL L none (some 4) = L.take 4 := cutL_to L 4
  refine ⟨L.take 4, ?_, by rw [List.length_take]; omega, fun y hy => sgL_b y (Lmm y (List.mem_of_mem_take hy))⟩
  simp at e1 e2
  have hst : stepL sgL (r1 : Int).toNat (1 + (r2 : Int)).toNat = L := by
    rw [hL]
    congr 1
  have hst0 : (0 : Int) < 1 + (r2 : Int) := by omega
  simp at hst
  simp [_law_some_signs, _law_some_signs_b, e1, e2, signs_eq, k94, hst, hst0, kL, hcut]
theorem cellt_ex (c s : Int) (h0 : 0 ≤ s) (h1 : s ≤ 1000) (sg : List Nat) (h4 : sg.length = 4) : ∃ t : List Nat, M._law_cell_text [.int c, .int s, .str sg] = .ok (.str t, false) ∧ t ≠ [] ∧ t.length ≤ 4 ∧ ∀ y ∈ t, y ∈ sg := by
  obtain ⟨w, g1, e1⟩ := pick_ex c s 4
  obtain ⟨r, g2, e2⟩ := pick_ex c (s + 1) 4
  obtain ⟨b, g3, e3⟩ := pick_ex c (s + 2) 15
  simp at e1 e2 e3
  have k4 : sg.length ≤ lim := by rw [h4]; exact le_lim (by decide)
  have k44 : 4 ≤ lim := le_lim (by decide)
  by_cases hw : w < 2
  · obtain ⟨y, hy, ey⟩ := atI_mem (xs := sg) (i := (r : Int)) (by omega) (by omega)
    have hw' : (w : Int) < 2 := by omega
    exact ⟨[y], by simp [_law_cell_text, _law_cell_text_b, e1, hw', hw, e2, ey, k4], by simp, by simp, fun z hz => by rw [List.mem_singleton.mp hz]; exact hy⟩
  · have hw' : ¬ (w : Int) < 2 := by omega
    have hR : rgOk 4 = true := rgOk_of (by decide) (by decide)
    have l4 : 4 < lim := lt_lim (by decide)
    match sg, h4 with
    | [s0, s1, s2, s3], _ =>
    have cc := comp_sel (put := put1 5) (t := mTB (mCmp cEq (mB oAnd (mB oShr (mV 4) (mV 5)) (mC (.int 1))) (mC (.int 1)))) (e := mIx (mV 2) (mV 5)) (ρ := [.fz (.int c), .fz (.int s), .fz (.str [s0, s1, s2, s3]), .fz (.int w), .fz (.int (1 + (b : Int))), .no])
      (fun k : Nat => D.int ((0 : Int) + k)) (fun k => D.str [[s0, s1, s2, s3].getD k 0]) (fun k => decide ((1 + b) / 2 ^ k % 2 = 1)) .cl (fun _ => rfl) (cs := List.range 4) (fun k hk => by
        have hk' := List.mem_range.mp hk
        have hk4 : k = 0 ∨ k = 1 ∨ k = 2 ∨ k = 3 := by omega
        have key : (((1 : Int) + (b : Int)) / 2 ^ k % 2 == 1) = decide ((1 + b) / 2 ^ k % 2 = 1) := by
          rw [show (1 : Int) + (b : Int) = ((1 + b : Nat) : Int) by omega]
          rw [Bool.eq_iff_iff, beq_iff_eq, decide_eq_true_eq]
          rcases hk4 with rfl | rfl | rfl | rfl <;> simp <;> omega
        refine ⟨?_, fun _ => ?_⟩
        · simp [put1, oAnd, key]
        · rcases hk4 with rfl | rfl | rfl | rfl <;> simp [put1, k44, atI, ixN])
    have cc' : comp (put1 5) (mTB (mCmp cEq (mB oAnd (mB oShr (mV 4) (mV 5)) (mC (.int 1))) (mC (.int 1)))) (mIx (mV 2) (mV 5)) [.fz (.int c), .fz (.int s), .fz (.str [s0, s1, s2, s3]), .fz (.int w), .fz (.int (1 + (b : Int))), .no] (rangeL 0 4) = _ := cc
    rw [show cEq = dEqB from rfl] at cc'
    obtain ⟨ks, hks⟩ : ∃ ks, ks = (List.range 4).filter (fun k => decide ((1 + b) / 2 ^ k % 2 = 1)) := ⟨_, rfl⟩
    rw [← hks] at cc'
    have ksl : ks.length ≤ 4 := by
      rw [hks]
      exact Nat.le_trans (List.length_filter_le _ _) (by simp)
    have ksb : ∀ k ∈ ks, k < 4 := fun k hk => by
      rw [hks] at hk
      exact List.mem_range.mp (List.mem_filter.mp hk).1
    have ksn : ks ≠ [] := fun z => by
      have key : ∀ k, k < 4 → ¬ (1 + b) / 2 ^ k % 2 = 1 := fun k hk q => by
        have : k ∈ ks := by
          rw [hks]
          exact List.mem_filter.mpr ⟨List.mem_range.mpr hk, decide_eq_true q⟩
        rw [z] at this
        cases this
      have k0 := key 0 (by decide)
      have k1 := key 1 (by decide)
      have k2 := key 2 (by decide)
      have k3 := key 3 (by decide)
      simp at k0 k1 k2 k3
      omega
    have e5 : ks.map (fun k => D.str [[s0, s1, s2, s3].getD k 0]) = (ks.map fun k => [[s0, s1, s2, s3].getD k 0]).map .str := by rw [List.map_map]; rfl
    rw [e5] at cc'
    have so := strsOf_map (ks.map fun k => [[s0, s1, s2, s3].getD k 0])
    have fl := flat1 (fun k => [s0, s1, s2, s3].getD k 0) ks
    refine ⟨ks.map fun k => [s0, s1, s2, s3].getD k 0, ?_, by simpa using ksn, by simpa using ksl, fun y hy => ?_⟩
    · have fll : ((ks.map fun k => [[s0, s1, s2, s3].getD k 0]).flatten).length ≤ lim := by
        rw [fl, List.length_map]
        exact le_lim (by omega)
      rw [← fl]
      generalize ks.map (fun k => [[s0, s1, s2, s3].getD k 0]) = ts at *
      simp [_law_cell_text, _law_cell_text_b, e1, hw', hw, e3, hR, noOw, cc', l4, fJoin, so, fll, -List.length_flatten]
    · obtain ⟨k, hk, rfl⟩ := List.mem_map.mp hy
      have hk' := ksb k hk
      rcases (show k = 0 ∨ k = 1 ∨ k = 2 ∨ k = 3 by omega) with rfl | rfl | rfl | rfl <;> simp
/-! looks, columns -/
def colD (c : List Look) : Dm.D := .seq .lst (c.map lookD)
def colsD (cs : List (List Look)) : Dm.D := .seq .lst (cs.map colD)
def GoodT (t : List Nat) : Prop := t ≠ [] ∧ t.length ≤ 4 ∧ ∀ y ∈ t, 32 ≤ y ∧ y < 127
structure GoodC (most : Nat) (cs : List (List Look)) : Prop where
  ne : cs ≠ []
  len : cs.length ≤ 4
  col : ∀ c ∈ cs, c ≠ [] ∧ c.length ≤ 4 ∧ ∀ l ∈ c, l.length ≤ most ∧ ∀ t ∈ l, GoodT t
theorem colD_sc (l : List Look) : (colD l).sc = false := rfl
theorem colsD_sc (l : List (List Look)) : (colsD l).sc = false := rfl
theorem look_ex (c : Int) (sg : List Nat) (h4 : sg.length = 4) (hb : ∀ y ∈ sg, 32 ≤ y ∧ y < 127) (most : Nat) (hm : most ≤ 50) : ∃ l : Look, M._law_look [.int c, .str sg, .int most] = .ok (lookD l, true) ∧ l.length ≤ most ∧ ∀ t ∈ l, GoodT t := by
  obtain ⟨n, g1, e1⟩ := pick_ex c 3 (most + 1)
  have e1' : M._law_pick [.int c, .int 3, .int ((most : Int) + 1)] = .ok (.int n, false) := e1
  have hR : rgOk n = true := rgOk_of (by omega) (by omega)
  have nl : n < lim := lt_lim (by omega)
  have k3 : ∀ j, mulOk 3 j = true := fun j => mulOk_l (by decide)
  obtain ⟨l, cc, ll, lr⟩ := comp_ex (put := put1 3) (e := mCall M._law_cell_text (amCons (mV 0) (amCons (mB oAdd (mC (.int 10)) (mB oMul (mC (.int 3)) (mV 3))) (amCons (mV 1) amNil)))) (ρ := [.fz (.int c), .fz (.str sg), .fz (.int most), .no])
    (fun k : Nat => D.int ((0 : Int) + k)) D.str (fun _ t => GoodT t) .cl (fun _ => rfl) (cs := List.range n) (fun k hk => by
      have hk' := List.mem_range.mp hk
      obtain ⟨t, q1, q2, q3, q4⟩ := cellt_ex c (10 + 3 * (k : Int)) (by omega) (by omega) sg h4
      exact ⟨t, by simp [put1, k3, q1], q2, q3, fun y hy => hb y (q4 y hy)⟩)
  have cc' : comp (put1 3) tmYes (mCall M._law_cell_text (amCons (mV 0) (amCons (mB oAdd (mC (.int 10)) (mB oMul (mC (.int 3)) (mV 3))) (amCons (mV 1) amNil)))) [.fz (.int c), .fz (.str sg), .fz (.int most), .no] (rangeL 0 n) = _ := cc
  refine ⟨l, ?_, by rw [ll, List.length_range]; omega, fun t ht => ?_⟩
  · simp [_law_look, _law_look_b, e1', hR, noOw, cc', nl, lookD]
  · obtain ⟨i, hi, rfl⟩ := List.mem_iff_getElem.mp ht
    obtain ⟨_, _, r⟩ := lr i _ (List.getElem?_eq_getElem hi)
    exact r
theorem columns_ex (ns : List Int) (most : Nat) (hm : most ≤ 50) : ∃ cs : List (List Look), M._law_columns [.seq .rol (ns.map .int), .int most] = .ok (colsD cs, true) ∧ GoodC most cs := by
  have cell := fun i => pcell_eq ns i
  have c0 := pcell_eq ns 0
  have c1 := pcell_eq ns 1
  obtain ⟨sg, es, s4, sb⟩ := some_ex (pcellF ns 0)
  obtain ⟨m, g1, e1⟩ := pick_ex (pcellF ns 1) 4 4
  simp at e1 c0 c1
  obtain ⟨q, eq, q1, q2⟩ : ∃ q : Nat, atI [D.int 4, .int 4, .int 4, .int 2] (1 + (m : Int) - 1) = some (.int q) ∧ 1 ≤ q ∧ q ≤ 4 := by
    rcases (show m = 0 ∨ m = 1 ∨ m = 2 ∨ m = 3 by omega) with rfl | rfl | rfl | rfl
    · exact ⟨4, rfl, by decide, by decide⟩
    · exact ⟨4, rfl, by decide, by decide⟩
    · exact ⟨4, rfl, by decide, by decide⟩
    · exact ⟨2, rfl, by decide, by decide⟩
  have hR : rgOk (1 + (m : Int)) = true := rgOk_of (by omega) (by omega)
  have l4 : 4 ≤ lim := le_lim (by decide)
  have m4 : ∀ j, mulOk 4 j = true := fun j => mulOk_l (by decide)
  suffices key : ∀ R : Res (D × Bool) → Prop, (∀ cs : List (List Look), GoodC most cs → R (.ok (colsD cs, true))) → R (M._law_columns [.seq .rol (ns.map .int), .int most]) from
    key (fun r => ∃ cs : List (List Look), r = .ok (colsD cs, true) ∧ GoodC most cs) fun cs h => ⟨cs, rfl, h⟩
  intro R hRR
  obtain ⟨P, hP⟩ : ∃ P : Nat → Rho → Prop, P = (fun i ρ => ∃ (cs : List (List Look)) (a b c : Sl), cs.length = i ∧ (∀ c ∈ cs, c ≠ [] ∧ c.length ≤ 4 ∧ ∀ l ∈ c, l.length ≤ most ∧ ∀ t ∈ l, GoodT t) ∧
    ρ = [.fz (.seq .rol (ns.map .int)), .fz (.int most), .fz (.str sg), .fz (.int (1 + (m : Int))), .oo .lst (cs.map colD), a, b, .no]) := ⟨_, rfl⟩
  have hn : ((1 : Int) + (m : Int)).toNat = 1 + m := by omega
  simp [_law_columns, _law_columns_b, c0, c1, es, e1, hR, hn]
  refine q_run R P (by rw [hP]; exact ⟨[], .no, .no, .no, rfl, by simp, rfl⟩) ?_ ?_
  · intro i d ρ hd hp
    rw [hP] at hp
    obtain ⟨cs, a, b, c, hl, hc, rfl⟩ := hp
    obtain ⟨hi, rfl⟩ := rangeL_get hd
    obtain ⟨r, g2, e2⟩ := pick_ex (pcellF ns 1) (5 + (i : Int)) q
    have hR2 : rgOk (1 + (r : Int)) = true := rgOk_of (by omega) (by omega)
    have nl : (1 + (r : Int)).toNat < lim := lt_lim (by omega)
    have kn : cs.length < lim := lt_lim (by omega)
    obtain ⟨col, cc, cl, cr⟩ := comp_ex (put := put1 7) (e := mCall M._law_look (amCons (mCall M._law_cell_at (amCons (mV 0) (amCons (mB oAdd (mB oAdd (mC (.int 2)) (mB oMul (mC (.int 4)) (mV 5))) (mV 7)) amNil))) (amCons (mV 2) (amCons (mV 1) amNil))))
      (ρ := [.fz (.seq .rol (ns.map .int)), .fz (.int most), .fz (.str sg), .fz (.int (1 + (m : Int))), .oo .lst (cs.map colD), .fz (.int i), .fz (.int (1 + (r : Int))), .no])
      (fun k : Nat => D.int ((0 : Int) + k)) lookD (fun _ l => l.length ≤ most ∧ ∀ t ∈ l, GoodT t) .fr (fun _ => rfl) (cs := List.range (1 + (r : Int)).toNat) (fun k hk => by
        have ce := cell (2 + 4 * i + k)
        obtain ⟨l, q1, q2⟩ := look_ex (pcellF ns (2 + 4 * i + k)) sg s4 sb most hm
        refine ⟨l, ?_, q2⟩
        simp at ce
        simp [put1, m4, ce, q1, lookD_sc])
    have cc' : comp (put1 7) tmYes (mCall M._law_look (amCons (mCall M._law_cell_at (amCons (mV 0) (amCons (mB oAdd (mB oAdd (mC (.int 2)) (mB oMul (mC (.int 4)) (mV 5))) (mV 7)) amNil))) (amCons (mV 2) (amCons (mV 1) amNil))))
      [.fz (.seq .rol (ns.map .int)), .fz (.int most), .fz (.str sg), .fz (.int (1 + (m : Int))), .oo .lst (cs.map colD), .fz (.int i), .fz (.int (1 + (r : Int))), .no] (rangeL 0 (1 + (r : Int)).toNat) = _ := cc
    have fin : P (i + 1) [.fz (.seq .rol (ns.map .int)), .fz (.int most), .fz (.str sg), .fz (.int (1 + (m : Int))), .oo .lst (cs.map colD ++ [.seq .lst (col.map lookD)]), .fz (.int i), .fz (.int (1 + (r : Int))), .no] := by
      rw [hP]
      refine ⟨cs ++ [col], .fz (.int i), .fz (.int (1 + (r : Int))), .no, by simp [hl], fun c hc' => ?_, by simp [colD]⟩
      rcases List.mem_append.mp hc' with h | h
      · exact hc c h
      · rw [List.mem_singleton.mp h]
        rw [List.length_range] at cl
        refine ⟨fun z => by rw [z] at cl; simp at cl; omega, by omega, fun l hl' => ?_⟩
        obtain ⟨j, hj, rfl⟩ := List.mem_iff_getElem.mp hl'
        obtain ⟨_, _, q⟩ := cr j _ (List.getElem?_eq_getElem hj)
        exact q
    simp (disch := first | omega | simp) [put1, c1, l4, eq, e2, hR2, noOw, cc', nl, kn]
    simpa using fin
  · intro ρ hp
    rw [hP] at hp
    obtain ⟨cs, a, b, c, hl, hc, rfl⟩ := hp
    have hl' : cs.length = 1 + m := by simpa [rangeL] using hl
    have := hRR cs ⟨fun z => by rw [z] at hl'; simp at hl'; omega, by omega, hc⟩
    simpa [colsD] using this
end Law

end
end

section
set_option linter.all false
set_option maxRecDepth 100000
set_option maxHeartbeats 1000000
noncomputable section
namespace Law
open Dm
theorem eqvs_refl : ∀ xs : List D, (∀ x ∈ xs, D.eqv x x = true) → D.eqvs xs xs = true
  | [], _ => by simp
  | x :: xs, h => by
    have := eqvs_refl xs fun y hy => h y (List.mem_cons_of_mem _ hy)
    simp [h x (List.mem_cons_self ..), this]
theorem eqv_refl : ∀ (n : Nat) (d : D), D.lay n d = true → D.eqv d d = true
  | n, .non, _ => by simp
  | n, .bl a, _ => by simp
  | n, .int i, _ => by simp
  | n, .str s, _ => by simp
  | 0, .seq k xs, h => by simp [D.lay] at h
  | n + 1, .seq k xs, h => by
    rw [lay_q, List.all_eq_true] at h
    have := eqvs_refl xs fun x hx => eqv_refl n x (h x hx)
    simp [this]
  | 0, .dic _ _, h => by simp [D.lay] at h
  | n + 1, .dic _ _, h => by simp [D.lay] at h
  | 0, .dit _ _, h => by simp [D.lay] at h
  | n + 1, .dit _ _, h => by simp [D.lay] at h
  | 0, .obj _ _ _, h => by simp [D.lay] at h
  | n + 1, .obj _ _ _, h => by simp [D.lay] at h
theorem lay_up : ∀ (n : Nat) (d : D), D.lay n d = true → D.lay (n + 1) d = true
  | n, .non, _ => by simp
  | n, .bl a, _ => by simp
  | n, .int i, _ => by simp
  | n, .str s, h => by simpa using h
  | 0, .seq k xs, h => by simp [D.lay] at h
  | n + 1, .seq k xs, h => by
    rw [lay_q, List.all_eq_true] at h ⊢
    exact fun x hx => lay_up n x (h x hx)
  | 0, .dic _ _, h => by simp [D.lay] at h
  | n + 1, .dic _ _, h => by simp [D.lay] at h
  | 0, .dit _ _, h => by simp [D.lay] at h
  | n + 1, .dit _ _, h => by simp [D.lay] at h
  | 0, .obj _ _ _, h => by simp [D.lay] at h
  | n + 1, .obj _ _ _, h => by simp [D.lay] at h
theorem lay_le {d : D} {n : Nat} (h : D.lay n d = true) : ∀ m, n ≤ m → D.lay m d = true := fun m hm => by
  obtain ⟨k, rfl⟩ := Nat.exists_eq_add_of_le hm
  clear hm
  induction k with
  | zero => exact h
  | succ k ih => exact lay_up _ _ ih
theorem same_of {d : D} (h : D.lay 12 d = true) : dEqB d d = .ok true := by
  have e := eqv_refl 12 d h
  have key : dEqS d d = some true ∨ dEqS d d = none := by
    cases d <;> simp [dEqS]
  unfold dEqB
  rcases key with k | k
  · rw [k]
  · rw [k]
    simp only [h, e]
    rfl
theorem cIn_lst {x : D} {xs : List D} (hx : D.lay 11 x = true) (hxs : ∀ y ∈ xs, D.lay 11 y = true) : cIn x (.seq .lst xs) = .ok (inB x xs) := by
  have h : xs.all (D.lay 11) = true := List.all_eq_true.mpr hxs
  unfold cIn
  split
  · rename_i h1 h2; cases h2
  · rename_i k ys h1 h2
    cases h2
    rw [hx, h]
    simp
  · rename_i h1 _; exact absurd rfl (h1 _ _)
theorem inB_mem {x : D} {xs : List D} (hx : D.lay 11 x = true) (h : x ∈ xs) : inB x xs = true := List.any_eq_true.mpr ⟨x, h, eqv_refl 11 x hx⟩
theorem lay_str {s : List Nat} {n b : Nat} (h : ∀ y ∈ s, y < b) (hb : b ≤ 1114112) : D.lay n (.str s) = true := by
  rw [lay_s, List.all_eq_true]
  intro y hy
  have := h y hy
  exact decide_eq_true (by omega)
end Law

end
end

section
set_option linter.all false
set_option maxRecDepth 100000
set_option maxHeartbeats 1000000
noncomputable section
namespace M
open Dm
def begun_at_b : SM :=
    (smSeq (smIf (mTB (mCmp cEq (mV 1) (mBlt bLen (amCons (mV 0) amNil)))) (smRet (mLst (amCons (mTup (amCons (mV 1) (amCons (mC (.int 0)) (amCons (mC (.int 0)) amNil)))) amNil))) smSkip)
    (smRet (mComp (put1 2) [2] (wmR1 (mBlt bLen (amCons (mIx (mV 0) (mV 1)) amNil))) tmYes (mTup (amCons (mV 1) (amCons (mV 2) (amCons (mC (.int 0)) amNil)))))))
def begun_at : FM := mFn 2 1 begun_at_b
def cell_next_b : SM :=
    (smSeq (smUnp [2, 3, 4] (mV 1))
    (smSeq (smIf (tmOr (mTB (mCmp cEq (mV 2) (mBlt bLen (amCons (mV 0) amNil)))) (mTB (mCmp cEq (mV 4) (mBlt bLen (amCons (mIx (mIx (mV 0) (mV 2)) (mV 3)) amNil))))) (smRet (mC .non)) smSkip)
    (smRet (mIx (mIx (mIx (mV 0) (mV 2)) (mV 3)) (mV 4)))))
def cell_next : FM := mFn 2 3 cell_next_b
def begun_behind_b : SM :=
    (smSeq (smUnp [2, 3, 4] (mV 1))
    (smSeq (smIf (tmOr (mTB (mCmp cEq (mV 2) (mBlt bLen (amCons (mV 0) amNil)))) (mTB (mCmp cLt (mV 4) (mBlt bLen (amCons (mIx (mIx (mV 0) (mV 2)) (mV 3)) amNil))))) (smRet (mLst amNil)) smSkip)
    (smRet (mCall M.begun_at (amCons (mV 0) (amCons (mB oAdd (mV 2) (mC (.int 1))) amNil))))))
def begun_behind : FM := mFn 2 3 begun_behind_b
def shared_sign_b : SM :=
    (smSeq (smIf (tmOr (mTB (mCmp cIsN (mV 0) (mC .non))) (mTB (mCmp cIsN (mV 1) (mC .non)))) (smRet (mC .non)) smSkip)
    (smSeq (smFor (put1 2) (wmA (mV 0)) (smIf (mTB (mCmp cIn (mV 2) (mV 1))) (smRet (mV 2)) smSkip))
    (smRet (mC .non))))
def shared_sign : FM := mFn 2 1 shared_sign_b
def one_on_b : SM :=
    (smSeq (smUnp [1, 2, 3] (mV 0))
    (smRet (mTup (amCons (mV 1) (amCons (mV 2) (amCons (mB oAdd (mV 3) (mC (.int 1))) amNil))))))
def one_on : FM := mFn 1 3 one_on_b
def first_pairs_b : SM :=
    (smSeq (smSet 1 (mLst amNil))
    (smSeq (smFor (put1 2) (wmR1 (mBlt bLen (amCons (mV 0) amNil))) (smFor (put1 3) (wmR1 (mBlt bLen (amCons (mIx (mV 0) (mV 2)) amNil))) (smFor (put1 4) (wmR2 (mB oAdd (mV 3) (mC (.int 1))) (mBlt bLen (amCons (mIx (mV 0) (mV 2)) amNil))) (smApp 1 (mTup (amCons (mTup (amCons (mV 2) (amCons (mV 3) (amCons (mC (.int 0)) amNil)))) (amCons (mTup (amCons (mV 2) (amCons (mV 4) (amCons (mC (.int 0)) amNil)))) amNil)))))))
    (smRet (mV 1))))
def first_pairs : FM := mFn 1 4 first_pairs_b
def next_pairs_b : SM :=
    (smSeq (smUnp [2, 3] (mV 1))
    (smSeq (smSet 4 mDt0)
    (smSeq (smFor (put1 5) (wmA (mCall M.begun_behind (amCons (mV 0) (amCons (mV 2) amNil)))) (smPutT 4 (mTup (amCons (mV 5) (amCons (mV 3) amNil))) (mC (.bl true))))
    (smSeq (smFor (put1 5) (wmA (mCall M.begun_behind (amCons (mV 0) (amCons (mV 3) amNil)))) (smPutT 4 (mTup (amCons (mV 2) (amCons (mV 5) amNil))) (mC (.bl true))))
    (smSeq (smIf (mTB (mCmp cNotN (mCall M.shared_sign (amCons (mCall M.cell_next (amCons (mV 0) (amCons (mV 2) amNil))) (amCons (mCall M.cell_next (amCons (mV 0) (amCons (mV 3) amNil))) amNil))) (mC .non))) (smPutT 4 (mTup (amCons (mCall M.one_on (amCons (mV 2) amNil)) (amCons (mCall M.one_on (amCons (mV 3) amNil)) amNil))) (mC (.bl true))) smSkip)
    (smRet (mSortT (mV 4))))))))
def next_pairs : FM := mFn 2 4 next_pairs_b
def places_in_b : SM :=
    (smSeq (smSet 1 (mC (.int 0)))
    (smSeq (smFor (put1 2) (wmA (mV 0)) (smFor (put1 3) (wmA (mV 2)) (smSet 1 (mB oAdd (mB oAdd (mV 1) (mBlt bLen (amCons (mV 3) amNil))) (mC (.int 1))))))
    (smRet (mV 1))))
def places_in : FM := mFn 1 3 places_in_b
def _law_behind_b : SM :=
    (smSeq (smUnp [2, 3, 4] (mV 1))
    (smSeq (smIf (tmOr (mTB (mCmp cEq (mV 2) (mBlt bLen (amCons (mV 0) amNil)))) (mTB (mCmp cLt (mV 4) (mBlt bLen (amCons (mIx (mIx (mV 0) (mV 2)) (mV 3)) amNil))))) (smRet (mLst amNil)) smSkip)
    (smSeq (smIf (mTB (mCmp cEq (mB oAdd (mV 2) (mC (.int 1))) (mBlt bLen (amCons (mV 0) amNil)))) (smRet (mLst (amCons (mTup (amCons (mB oAdd (mV 2) (mC (.int 1))) (amCons (mC (.int 0)) (amCons (mC (.int 0)) amNil)))) amNil))) smSkip)
    (smRet (mComp (put1 5) [5] (wmR1 (mBlt bLen (amCons (mIx (mV 0) (mB oAdd (mV 2) (mC (.int 1)))) amNil))) tmYes (mTup (amCons (mB oAdd (mV 2) (mC (.int 1))) (amCons (mV 5) (amCons (mC (.int 0)) amNil)))))))))
def _law_behind : FM := mFn 2 4 _law_behind_b
def _law_share_b : SM :=
    (smSeq (smIf (tmOr (mTB (mCmp cEq (mIx (mV 1) (mC (.int 0))) (mBlt bLen (amCons (mV 0) amNil)))) (mTB (mCmp cEq (mIx (mV 2) (mC (.int 0))) (mBlt bLen (amCons (mV 0) amNil))))) (smRet (mC (.bl false))) smSkip)
    (smSeq (smSet 3 (mIx (mIx (mV 0) (mIx (mV 1) (mC (.int 0)))) (mIx (mV 1) (mC (.int 1)))))
    (smSeq (smSet 4 (mIx (mIx (mV 0) (mIx (mV 2) (mC (.int 0)))) (mIx (mV 2) (mC (.int 1)))))
    (smSeq (smIf (tmOr (mTB (mCmp cEq (mIx (mV 1) (mC (.int 2))) (mBlt bLen (amCons (mV 3) amNil)))) (mTB (mCmp cEq (mIx (mV 2) (mC (.int 2))) (mBlt bLen (amCons (mV 4) amNil))))) (smRet (mC (.bl false))) smSkip)
    (smRet (mCmp cNe (mComp (put1 5) [5] (wmA (mIx (mV 3) (mIx (mV 1) (mC (.int 2))))) (mTB (mCmp cIn (mV 5) (mIx (mV 4) (mIx (mV 2) (mC (.int 2)))))) (mV 5)) (mLst amNil)))))))
def _law_share : FM := mFn 3 3 _law_share_b
def _law_next_b : SM :=
    (smSeq (smUnp [2, 3] (mV 1))
    (smSeq (smSet 4 (mComp (put1 5) [5] (wmA (mCall M._law_behind (amCons (mV 0) (amCons (mV 2) amNil)))) tmYes (mTup (amCons (mV 5) (amCons (mV 3) amNil)))))
    (smSeq (smSet 4 (mB oAdd (mV 4) (mComp (put1 5) [5] (wmA (mCall M._law_behind (amCons (mV 0) (amCons (mV 3) amNil)))) tmYes (mTup (amCons (mV 2) (amCons (mV 5) amNil))))))
    (smSeq (smIf (mT (mCall M._law_share (amCons (mV 0) (amCons (mV 2) (amCons (mV 3) amNil))))) (smApp 4 (mTup (amCons (mTup (amCons (mIx (mV 2) (mC (.int 0))) (amCons (mIx (mV 2) (mC (.int 1))) (amCons (mB oAdd (mIx (mV 2) (mC (.int 2))) (mC (.int 1))) amNil)))) (amCons (mTup (amCons (mIx (mV 3) (mC (.int 0))) (amCons (mIx (mV 3) (mC (.int 1))) (amCons (mB oAdd (mIx (mV 3) (mC (.int 2))) (mC (.int 1))) amNil)))) amNil)))) smSkip)
    (smRet (mSortT (mV 4)))))))
def _law_next : FM := mFn 2 4 _law_next_b
def _law_first_b : SM :=
    (smSeq (smSet 1 (mLst amNil))
    (smSeq (smFor (put1 2) (wmR1 (mBlt bLen (amCons (mV 0) amNil))) (smFor (put1 3) (wmR1 (mBlt bLen (amCons (mIx (mV 0) (mV 2)) amNil))) (smExt 1 (mComp (put1 4) [4] (wmR2 (mB oAdd (mV 3) (mC (.int 1))) (mBlt bLen (amCons (mIx (mV 0) (mV 2)) amNil))) tmYes (mTup (amCons (mTup (amCons (mV 2) (amCons (mV 3) (amCons (mC (.int 0)) amNil)))) (amCons (mTup (amCons (mV 2) (amCons (mV 4) (amCons (mC (.int 0)) amNil)))) amNil)))))))
    (smRet (mV 1))))
def _law_first : FM := mFn 1 4 _law_first_b
def _law_copy_b : SM :=
    (smRet (mComp (put1 2) [2] (wmA (mV 0)) tmYes (mComp (put1 1) [1] (wmA (mV 2)) tmYes (mList (amCons (mV 1) amNil)))))
def _law_copy : FM := mFn 1 2 _law_copy_b
end M
namespace Law
open Dm M
abbrev pl (c l q : Nat) : Pl := ((c : Int), (l : Int), (q : Int))
def colAt (cs : List (List Look)) (c : Nat) : List Look := cs.getD c []
def lookAt (cs : List (List Look)) (c l : Nat) : Look := (colAt cs c).getD l []
/-- a place within the columns -/
def VP (cs : List (List Look)) (c l q : Nat) : Prop := (c = cs.length ∧ l = 0 ∧ q = 0) ∨ (c < cs.length ∧ l < (colAt cs c).length ∧ q ≤ (lookAt cs c l).length)
theorem getD_at {α : Type} {xs : List α} {i : Nat} (d : α) (h : i < xs.length) : xs.getD i d = xs[i] := by
  rw [List.getD_eq_getElem?_getD, List.getElem?_eq_getElem h]
  rfl
theorem at_col {cs : List (List Look)} {c : Nat} (h : c < cs.length) : atI (cs.map colD) (c : Int) = some (.seq .lst ((colAt cs c).map lookD)) := by
  have := atI_nat (xs := cs.map colD) (i := c) (by simpa using h)
  rw [this]
  unfold colAt
  rw [getD_at _ h]
  simp [colD]
theorem at_look {col : List Look} {l : Nat} (h : l < col.length) : atI (col.map lookD) (l : Int) = some (.seq .lst ((col.getD l []).map .str)) := by
  have := atI_nat (xs := col.map lookD) (i := l) (by simpa using h)
  rw [this, getD_at _ h]
  simp [lookD]
theorem at_cell {l : Look} {q : Nat} (h : q < l.length) : atI (l.map D.str) (q : Int) = some (.str (l.getD q [])) := by
  have := atI_nat (xs := l.map D.str) (i := q) (by simpa using h)
  rw [this, getD_at _ h]
  simp
def begunP (cs : List (List Look)) (c : Nat) : List Pl := if c = cs.length then [pl c 0 0] else (List.range (colAt cs c).length).map fun k => pl c k 0
def behP (cs : List (List Look)) (c l q : Nat) : List Pl := if c = cs.length ∨ q < (lookAt cs c l).length then [] else begunP cs (c + 1)
/-- small columns -/
structure SmC (cs : List (List Look)) : Prop where
  len : cs.length ≤ 100
  col : ∀ c, (colAt cs c).length ≤ 40
  look : ∀ c l, (lookAt cs c l).length ≤ 1000
theorem GoodC.sm {most : Nat} {cs : List (List Look)} (g : GoodC most cs) (h : most ≤ 1000) : SmC cs := by
  have hc : ∀ c, (colAt cs c) = [] ∨ colAt cs c ∈ cs := fun c => by
    by_cases hl : c < cs.length
    · right
      unfold colAt
      rw [getD_at _ hl]
      exact List.getElem_mem hl
    · left
      unfold colAt
      rw [List.getD_eq_getElem?_getD, List.getElem?_eq_none (by omega)]
      rfl
  refine ⟨by have := g.len; omega, fun c => ?_, fun c l => ?_⟩
  · rcases hc c with e | e
    · rw [e]; simp
    · have := (g.col _ e).2.1; omega
  · unfold lookAt
    by_cases hl : l < (colAt cs c).length
    · rw [getD_at _ hl]
      rcases hc c with e | e
      · rw [e] at hl; simp at hl
      · have := ((g.col _ e).2.2 _ (List.getElem_mem hl)).1
        omega
    · rw [List.getD_eq_getElem?_getD, List.getElem?_eq_none (by omega)]
      simp
theorem begun_at_eq (cs : List (List Look)) (s : SmC cs) (c : Nat) (hc : c ≤ cs.length) : M.begun_at [colsD cs, .int c] = .ok (.seq .lst ((begunP cs c).map plD), true) := by
  have l3 : 3 ≤ lim := le_lim (by decide)
  have l1 : 1 ≤ lim := le_lim (by decide)
  unfold colsD begunP
  by_cases h : c = cs.length
  · subst h
    simp [begun_at, begun_at_b, plD, l3, l1]
  · have hlt : c < cs.length := by omega
    have ac := at_col hlt
    have hi : ¬ (c : Int) = (cs.length : Int) := by omega
    have sm := s.col c
    have hR : rgOk ((colAt cs c).length : Int) = true := rgOk_of (by omega) (by omega)
    have nl : (colAt cs c).length < lim := lt_lim (by omega)
    have cc := comp_of (put := put1 2) (e := mTup (amCons (mV 1) (amCons (mV 2) (amCons (mC (.int 0)) amNil)))) (ρ := [.fz (.seq .lst (cs.map colD)), .fz (.int c), .no])
      (fun k : Nat => D.int ((0 : Int) + k)) (fun k => plD (pl c k 0)) .cl (fun _ => rfl) (cs := List.range (colAt cs c).length) (fun k _ => by simp [put1, plD, l3])
    have cc' : comp (put1 2) tmYes (mTup (amCons (mV 1) (amCons (mV 2) (amCons (mC (.int 0)) amNil)))) [.fz (.seq .lst (cs.map colD)), .fz (.int c), .no] (rangeL 0 (colAt cs c).length) = _ := cc
    rw [if_neg h]
    simp [begun_at, begun_at_b, hi, ac, hR, noOw, cc', nl, Function.comp_def]
theorem begun_behind_eq (cs : List (List Look)) (s : SmC cs) (c l q : Nat) (v : VP cs c l q) : M.begun_behind [colsD cs, plD (pl c l q)] = .ok (.seq .lst ((behP cs c l q).map plD), true) := by
  unfold behP
  rcases v with ⟨rfl, rfl, rfl⟩ | ⟨h1, h2, h3⟩
  · simp [begun_behind, begun_behind_b, plD, colsD]
  · have ac := at_col h1
    have al := at_look h2
    have hi : ¬ (c : Int) = (cs.length : Int) := by omega
    have e := begun_at_eq cs s (c + 1) (by omega)
    unfold colsD at e
    simp at e
    unfold lookAt
    obtain ⟨L, hL⟩ : ∃ L, L = (colAt cs c).getD l [] := ⟨_, rfl⟩
    rw [← hL] at al ⊢
    by_cases hq : q < L.length
    · rw [if_pos (.inr hq)]
      simp [begun_behind, begun_behind_b, plD, colsD, hi, ac, al, hq]
    · rw [if_neg (by omega)]
      simp [begun_behind, begun_behind_b, plD, colsD, hi, ac, al, hq, e]
theorem lbehind_eq (cs : List (List Look)) (s : SmC cs) (c l q : Nat) (v : VP cs c l q) : M._law_behind [colsD cs, plD (pl c l q)] = .ok (.seq .lst ((behP cs c l q).map plD), true) := by
  have l3 : 3 ≤ lim := le_lim (by decide)
  have l1 : 1 ≤ lim := le_lim (by decide)
  unfold behP
  rcases v with ⟨rfl, rfl, rfl⟩ | ⟨h1, h2, h3⟩
  · simp [_law_behind, _law_behind_b, plD, colsD]
  · have ac := at_col h1
    have al := at_look h2
    have hi : ¬ (c : Int) = (cs.length : Int) := by omega
    unfold lookAt
    obtain ⟨L, hL⟩ : ∃ L, L = (colAt cs c).getD l [] := ⟨_, rfl⟩
    rw [← hL] at al ⊢
    by_cases hq : q < L.length
    · rw [if_pos (.inr hq)]
      simp [_law_behind, _law_behind_b, plD, colsD, hi, ac, al, hq]
    · rw [if_neg (by omega)]
      unfold begunP
      by_cases hn : c + 1 = cs.length
      · rw [if_pos hn]
        have hn' : (c : Int) + 1 = (cs.length : Int) := by omega
        simp [_law_behind, _law_behind_b, plD, colsD, hi, ac, al, hq, hn', l3, l1]
      · rw [if_neg hn]
        have hn' : ¬ (c : Int) + 1 = (cs.length : Int) := by omega
        have ac1 := at_col (show c + 1 < cs.length by omega)
        simp at ac1
        have sm := s.col (c + 1)
        have hR : rgOk ((colAt cs (c + 1)).length : Int) = true := rgOk_of (by omega) (by omega)
        have nl : (colAt cs (c + 1)).length < lim := lt_lim (by omega)
        have cc := comp_of (put := put1 5) (e := mTup (amCons (mB oAdd (mV 2) (mC (.int 1))) (amCons (mV 5) (amCons (mC (.int 0)) amNil)))) (ρ := [.fz (.seq .lst (cs.map colD)), .fz (.seq .tup [.int c, .int l, .int q]), .fz (.int c), .fz (.int l), .fz (.int q), .no])
          (fun k : Nat => D.int ((0 : Int) + k)) (fun k => plD (pl (c + 1) k 0)) .cl (fun _ => rfl) (cs := List.range (colAt cs (c + 1)).length) (fun k _ => by simp [put1, plD, l3])
        have cc' : comp (put1 5) tmYes (mTup (amCons (mB oAdd (mV 2) (mC (.int 1))) (amCons (mV 5) (amCons (mC (.int 0)) amNil)))) [.fz (.seq .lst (cs.map colD)), .fz (.seq .tup [.int c, .int l, .int q]), .fz (.int c), .fz (.int l), .fz (.int q), .no] (rangeL 0 (colAt cs (c + 1)).length) = _ := cc
        simp [_law_behind, _law_behind_b, plD, colsD, hi, ac, al, hq, hn', ac1, hR, noOw, cc', nl, Function.comp_def]
/-! the next cell -/
def cellO (cs : List (List Look)) (c l q : Nat) : Option (List Nat) := if c = cs.length ∨ q = (lookAt cs c l).length then none else some ((lookAt cs c l).getD q [])
def cellD : Option (List Nat) → Dm.D
  | none => .non
  | some t => .str t
theorem cell_next_eq (cs : List (List Look)) (c l q : Nat) (v : VP cs c l q) : M.cell_next [colsD cs, plD (pl c l q)] = .ok (cellD (cellO cs c l q), false) := by
  unfold cellO
  rcases v with ⟨rfl, rfl, rfl⟩ | ⟨h1, h2, h3⟩
  · simp [cell_next, cell_next_b, plD, colsD, cellD]
  · have ac := at_col h1
    have al := at_look h2
    have hi : ¬ (c : Int) = (cs.length : Int) := by omega
    have hi' : ¬ c = cs.length := by omega
    unfold lookAt at h3 ⊢
    obtain ⟨L, hL⟩ : ∃ L, L = (colAt cs c).getD l [] := ⟨_, rfl⟩
    rw [← hL] at al h3 ⊢
    by_cases hq : q = L.length
    · subst hq
      simp [cell_next, cell_next_b, plD, colsD, hi, ac, al, cellD]
    · rw [if_neg (by omega)]
      have ae := at_cell (l := L) (q := q) (by omega)
      have hq' : ¬ (q : Int) = (L.length : Int) := by omega
      simp at ae
      simp [cell_next, cell_next_b, plD, colsD, hi, ac, al, hq, hq', ae, cellD]
def shareB : Option (List Nat) → Option (List Nat) → Bool
  | some x, some y => x.any fun z => decide (z ∈ y)
  | _, _ => false
theorem shared_sign_ex (a b : Option (List Nat)) : ∃ d, M.shared_sign [cellD a, cellD b] = .ok (d, false) ∧ ((shareB a b = true ∧ ∃ z, d = .str [z] ∧ (∃ x, a = some x ∧ z ∈ x) ∧ ∃ y, b = some y ∧ z ∈ y) ∨ (shareB a b = false ∧ d = .non)) := by
  cases a with
  | none => exact ⟨.non, by cases b <;> simp [shared_sign, shared_sign_b, cellD, cIsN], .inr ⟨rfl, rfl⟩⟩
  | some x =>
    cases b with
    | none => exact ⟨.non, by simp [shared_sign, shared_sign_b, cellD, cIsN], .inr ⟨rfl, rfl⟩⟩
    | some y =>
      simp [shared_sign, shared_sign_b, cellD, cIsN, shareB]
      refine q_or (fun r => ∃ d, r = .ok (d, false) ∧ (((∃ x_1, x_1 ∈ x ∧ x_1 ∈ y) ∧ ∃ z, d = .str [z] ∧ z ∈ x ∧ z ∈ y) ∨ ((∀ x_1, x_1 ∈ x → ¬ x_1 ∈ y) ∧ d = .non))) (fun i ρ => (∀ j w, j < i → x[j]? = some w → ¬ w ∈ y) ∧ ∃ s, ρ = [.fz (.str x), .fz (.str y), s])
        (fun o => ∃ z, o = .rt (.str [z]) false ∧ z ∈ x ∧ z ∈ y) ⟨fun j w h => absurd h (Nat.not_lt_zero _), .no, rfl⟩ ?_ ?_ ?_
      · rintro i d ρ hd ⟨hno, s, rfl⟩
        rw [List.getElem?_map] at hd
        obtain ⟨w, hw, rfl⟩ := Option.map_eq_some_iff.mp hd
        by_cases hm : w ∈ y
        · right
          exact ⟨.rt (.str [w]) false, by simp [put1, cIn, hm], fun _ => rfl, w, rfl, List.mem_of_getElem? hw, hm⟩
        · left
          simp [put1, cIn, hm]
          intro j u hj hu
          by_cases e : j = i
          · subst e
            rw [hw] at hu
            cases hu
            exact hm
          · exact hno j u (by omega) hu
      · rintro ρ ⟨hno, s, rfl⟩
        refine ⟨.non, by simp, .inr ⟨fun w hw => ?_, rfl⟩⟩
        obtain ⟨j, hj⟩ := List.mem_iff_getElem?.mp hw
        refine hno j w ?_ hj
        obtain ⟨h, _⟩ := List.getElem?_eq_some_iff.mp hj
        simpa using h
      · rintro o ⟨z, rfl, h1, h2⟩
        exact ⟨.str [z], rfl, .inl ⟨⟨z, h1, h2⟩, z, rfl, h1, h2⟩⟩
theorem one_on_eq (c l q : Nat) : M.one_on [plD (pl c l q)] = .ok (plD (pl c l (q + 1)), false) := by
  have l3 : 3 ≤ lim := le_lim (by decide)
  simp [one_on, one_on_b, plD, l3]
/-! the next pairs -/
def nxP (cs : List (List Look)) (c l q c' l' q' : Nat) : List Pr :=
  (behP cs c l q).map (fun p => ((p, pl c' l' q') : Pr)) ++ (behP cs c' l' q').map (fun p => ((pl c l q, p) : Pr)) ++ (if shareB (cellO cs c l q) (cellO cs c' l' q') = true then [((pl c l (q + 1), pl c' l' (q' + 1)) : Pr)] else [])
theorem begunP_at {cs : List (List Look)} {c : Nat} {p : Pl} (h : p ∈ begunP cs c) : p.1 = c ∧ p.2.2 = 0 := by
  unfold begunP at h
  split at h
  · rw [List.mem_singleton.mp h]; exact ⟨rfl, rfl⟩
  · obtain ⟨k, _, rfl⟩ := List.mem_map.mp h
    exact ⟨rfl, rfl⟩
theorem behP_at {cs : List (List Look)} {c l q : Nat} {p : Pl} (h : p ∈ behP cs c l q) : p.1 = (c : Int) + 1 := by
  unfold behP at h
  split at h
  · cases h
  · have := (begunP_at h).1
    rw [this]
    omega
theorem begunP_nodup (cs : List (List Look)) (c : Nat) : (begunP cs c).Nodup := by
  unfold begunP
  split
  · simp
  · rw [List.nodup_iff_pairwise_ne, List.pairwise_map]
    refine List.Pairwise.imp ?_ (List.nodup_iff_pairwise_ne.mp List.nodup_range)
    intro a b hab e
    simp [pl] at e
    omega
theorem behP_nodup (cs : List (List Look)) (c l q : Nat) : (behP cs c l q).Nodup := by
  unfold behP
  split
  · simp
  · exact begunP_nodup cs _
theorem map_nodup {α β : Type} {f : α → β} (hf : ∀ a b, f a = f b → a = b) {xs : List α} (h : xs.Nodup) : (xs.map f).Nodup := by
  rw [List.nodup_iff_pairwise_ne, List.pairwise_map]
  exact (List.nodup_iff_pairwise_ne.mp h).imp fun hab e => hab (hf _ _ e)
theorem nxP_nodup (cs : List (List Look)) (c l q c' l' q' : Nat) : (nxP cs c l q c' l' q').Nodup := by
  unfold nxP
  rw [List.nodup_append]
  refine ⟨?_, ?_, ?_⟩
  · rw [List.nodup_append]
    refine ⟨map_nodup (fun a b e => by simpa using e) (behP_nodup cs c l q), map_nodup (fun a b e => by simpa using e) (behP_nodup cs c' l' q'), ?_⟩
    intro x hx y hy e
    obtain ⟨p, hp, rfl⟩ := List.mem_map.mp hx
    obtain ⟨p', hp', rfl⟩ := List.mem_map.mp hy
    have h1 := behP_at hp
    simp at e
    rw [e.1] at h1
    simp at h1
    omega
  · split <;> simp
  · intro x hx y hy e
    split at hy
    · rw [List.mem_singleton.mp hy] at e
      rcases List.mem_append.mp hx with hx | hx
      · obtain ⟨p, hp, rfl⟩ := List.mem_map.mp hx
        have h1 := behP_at hp
        simp at e
        rw [e.1] at h1
        simp at h1
        omega
      · obtain ⟨p, hp, rfl⟩ := List.mem_map.mp hx
        have h1 := behP_at hp
        simp at e
        rw [e.2] at h1
        simp at h1
        omega
    · cases hy
theorem begunP_len {cs : List (List Look)} (s : SmC cs) (c : Nat) : (begunP cs c).length ≤ 1000 := by
  unfold begunP
  split
  · simp
  · rw [List.length_map, List.length_range]; exact Nat.le_trans (s.col c) (by omega)
theorem behP_len {cs : List (List Look)} (s : SmC cs) (c l q : Nat) : (behP cs c l q).length ≤ 1000 := by
  unfold behP
  split
  · simp
  · exact begunP_len s _
theorem trues_all (n : Nat) : (trues n).all D.isTrue = true := by simp [trues, D.isTrue]
theorem trues_len (n : Nat) : (trues n).length = n := by simp [trues]
theorem trues_succ (n : Nat) : trues n ++ [.bl true] = trues (n + 1) := by simp [trues, List.replicate_succ']
theorem put_new (ps : List Pr) (q : Pr) (h : ¬ q ∈ ps) (hl : ps.length < 10000000) : putPr (asPrs (ps.map prD)) (some q) (trues ps.length) = some ((ps ++ [q]).map prD, trues (ps ++ [q]).length) := by
  have hk : ps.length < lim := lt_lim (by omega)
  rw [asPrs_map, putPr_some, if_pos ⟨by rw [trues_len]; exact hk, trues_all _⟩, if_neg h, trues_succ]
  simp
/-- a loop that puts new pairs -/
theorem put_loop (f : Pl → Pr) (e : EM) (a0 a1 a2 a3 : Sl) (he : ∀ (p : Pl) (o : Sl), ∃ t, e [a0, a1, a2, a3, o, .fz (plD p)] = .ok (prD (f p), t)) (L : List Pl) (acc : List Pr) (s5 : Sl) (hn : (acc ++ L.map f).Nodup) (hl : acc.length + L.length ≤ 9000) {β : Type} (Q : Res β → Prop) {g : Out → Res β}
    (k : ∀ s5', Q (g (.nx [a0, a1, a2, a3, .oo (.dit ((acc ++ L.map f).map prD)) (trues (acc ++ L.map f).length), s5']))) :
    Q ((turns (put1 5) (smPutT 4 e (mC (.bl true))) (L.map plD) [a0, a1, a2, a3, .oo (.dit (acc.map prD)) (trues acc.length), s5]).bind g) := by
  refine t_run Q (fun i ρ => ∃ s, ρ = [a0, a1, a2, a3, .oo (.dit ((acc ++ (L.take i).map f).map prD)) (trues (acc ++ (L.take i).map f).length), s]) ⟨s5, by simp⟩ ?_ ?_
  · rintro i d ρ hd ⟨s, rfl⟩
    rw [List.getElem?_map] at hd
    obtain ⟨p, hp, rfl⟩ := Option.map_eq_some_iff.mp hd
    obtain ⟨hi, ep⟩ := List.getElem?_eq_some_iff.mp hp
    have et : L.take (i + 1) = L.take i ++ [p] := by rw [List.take_succ_eq_append_getElem hi, ep]
    have hnew : ¬ f p ∈ acc ++ (L.take i).map f := by
      intro hm
      have e2 : acc ++ L.map f = (acc ++ (L.take i).map f) ++ (L.drop i).map f := by rw [List.append_assoc, ← List.map_append, List.take_append_drop]
      rw [e2, List.nodup_append] at hn
      refine hn.2.2 _ hm (f p) (List.mem_map.mpr ⟨p, ?_, rfl⟩) rfl
      rw [List.drop_eq_getElem_cons hi, ep]
      exact List.mem_cons_self
    have hlen : (acc ++ (L.take i).map f).length < 10000 := by
      rw [List.length_append, List.length_map, List.length_take]
      omega
    have ea : acc ++ (L.take (i + 1)).map f = (acc ++ (L.take i).map f) ++ [f p] := by rw [et]; simp
    obtain ⟨A, hA⟩ : ∃ A, A = acc ++ (L.take i).map f := ⟨_, rfl⟩
    rw [ea]
    rw [← hA] at hnew hlen ⊢
    obtain ⟨t, e3⟩ := he p (.oo (.dit (A.map prD)) (trues A.length))
    have pn := put_new A (f p) hnew (by omega)
    simp only [put1, Res.bind_ok, List.set_cons_succ, List.set_cons_zero, List.set_nil]
    rw [e_smPutT]
    simp only [e_mC, Res.st_ok, List.getElem?_cons_succ, List.getElem?_cons_zero, e3, asPr_prD, pn]
    exact ⟨_, rfl⟩
  · rintro ρ ⟨s, rfl⟩
    rw [List.length_map, List.take_length]
    exact k s
theorem prD_sc (p : Pr) : (prD p).sc = false := rfl
theorem plD_sc (p : Pl) : (plD p).sc = false := rfl
theorem nxP_len {cs : List (List Look)} (s : SmC cs) (c l q c' l' q' : Nat) : (nxP cs c l q c' l' q').length ≤ 2001 := by
  have h1 := behP_len s c l q
  have h2 := behP_len s c' l' q'
  unfold nxP
  simp only [List.length_append, List.length_map]
  split
  · simp; omega
  · simp; omega
theorem next_pairs_eq (cs : List (List Look)) (s : SmC cs) (c l q c' l' q' : Nat) (v : VP cs c l q) (v' : VP cs c' l' q') :
    M.next_pairs [colsD cs, prD (pl c l q, pl c' l' q')] = .ok (.seq .lst ((sortP (nxP cs c l q c' l' q')).map prD), true) := by
  have l2 : 2 ≤ lim := le_lim (by decide)
  have b1 := begun_behind_eq cs s c l q v
  have b2 := begun_behind_eq cs s c' l' q' v'
  have n1 := cell_next_eq cs c l q v
  have n2 := cell_next_eq cs c' l' q' v'
  have o1 := one_on_eq c l q
  have o2 := one_on_eq c' l' q'
  have nd := nxP_nodup cs c l q c' l' q'
  have nl := nxP_len s c l q c' l' q'
  obtain ⟨d, es, hd⟩ := shared_sign_ex (cellO cs c l q) (cellO cs c' l' q')
  obtain ⟨A, hA⟩ : ∃ A, A = (behP cs c l q).map (fun p => ((p, pl c' l' q') : Pr)) := ⟨_, rfl⟩
  obtain ⟨B, hB⟩ : ∃ B, B = (behP cs c' l' q').map (fun p => ((pl c l q, p) : Pr)) := ⟨_, rfl⟩
  have hN : nxP cs c l q c' l' q' = A ++ B ++ (if shareB (cellO cs c l q) (cellO cs c' l' q') = true then [((pl c l (q + 1), pl c' l' (q' + 1)) : Pr)] else []) := by rw [hA, hB]; rfl
  have ndAB : (A ++ B).Nodup := by
    rw [hN, List.nodup_append] at nd
    exact nd.1
  have ndA : A.Nodup := by
    rw [List.nodup_append] at ndAB
    exact ndAB.1
  have lAB : A.length + B.length ≤ 2001 := by
    rw [hN] at nl
    simp only [List.length_append] at nl
    omega
  have hlA : (behP cs c l q).length = A.length := by rw [hA, List.length_map]
  have hlB : (behP cs c' l' q').length = B.length := by rw [hB, List.length_map]
  have hpr : prD (pl c l q, pl c' l' q') = .seq .tup [plD (pl c l q), plD (pl c' l' q')] := rfl
  rw [hpr]
  simp only [next_pairs, next_pairs_b]
  simp [b1, b2, colsD_sc]
  have start : ∀ (a0 a1 a2 a3 s5 : Sl), [a0, a1, a2, a3, Sl.oo (.dit []) [], s5] = [a0, a1, a2, a3, .oo (.dit (([] : List Pr).map prD)) (trues ([] : List Pr).length), s5] := fun _ _ _ _ _ => rfl
  rw [start]
  refine put_loop (fun p => (p, pl c' l' q')) _ _ _ _ _ (fun p o => ⟨.cl, by simp [l2, prD]⟩) (behP cs c l q) [] _ (by rw [List.nil_append, ← hA]; exact ndA) (by simp; omega) (fun r => Res.fin r = .ok (.seq .lst ((sortP (nxP cs c l q c' l' q')).map prD), true)) fun s5 => ?_
  rw [List.nil_append, ← hA]
  simp [b1, b2, colsD_sc]
  refine put_loop (fun p => (pl c l q, p)) _ _ _ _ _ (fun p o => ⟨.cl, by simp [l2, prD]⟩) (behP cs c' l' q') A _ (by rw [← hB]; exact ndAB) (by omega) (fun r => Res.fin r = .ok (.seq .lst ((sortP (nxP cs c l q c' l' q')).map prD), true)) fun s5' => ?_
  rw [← hB]
  rcases hd with ⟨hs, z, rfl, _⟩ | ⟨hs, rfl⟩
  · rw [if_pos hs] at hN
    rw [hN] at nl ⊢
    rw [hN, List.nodup_append] at nd
    have hnew : ¬ ((pl c l (q + 1), pl c' l' (q' + 1)) : Pr) ∈ A ++ B := fun hm => nd.2.2 _ hm _ (List.mem_singleton.mpr rfl) rfl
    have pn := put_new (A ++ B) _ hnew (by simp only [List.length_append]; omega)
    have kl : (A ++ B ++ [((pl c l (q + 1), pl c' l' (q' + 1)) : Pr)]).length ≤ lim := le_lim (by omega)
    obtain ⟨C, hC⟩ : ∃ C, C = A ++ B := ⟨_, rfl⟩
    rw [← hC] at pn kl hnew nl ⊢
    simp only [Out.go_nx]
    simp [n1, n2, es, o1, o2, colsD_sc, plD_sc, cNotN, l2, pn, -List.map_append, -asPrs_map]
    rw [asPrs_map]
    simp at kl
    simp [kl, -List.map_append]
  · rw [if_neg (by rw [hs]; simp)] at hN
    rw [List.append_nil] at hN
    rw [hN] at nl ⊢
    have kl : (A ++ B).length ≤ lim := le_lim (by omega)
    obtain ⟨C, hC⟩ : ∃ C, C = A ++ B := ⟨_, rfl⟩
    rw [← hC] at kl ⊢
    simp [n1, n2, es, colsD_sc, plD_sc, cNotN, kl]
/-! the law's next pairs -/
theorem lshare_eq (cs : List (List Look)) (hg : ∀ c l q, ∀ t, cellO cs c l q = some t → t.length ≤ 4 ∧ ∀ y ∈ t, y < 127) (c l q c' l' q' : Nat) (v : VP cs c l q) (v' : VP cs c' l' q') :
    M._law_share [colsD cs, plD (pl c l q), plD (pl c' l' q')] = .ok (.bl (shareB (cellO cs c l q) (cellO cs c' l' q')), false) := by
  have e00 : ∀ x y z : Dm.D, atI [x, y, z] 0 = some x := fun _ _ _ => rfl
  have e01 : ∀ x y z : Dm.D, atI [x, y, z] 1 = some y := fun _ _ _ => rfl
  have e02 : ∀ x y z : Dm.D, atI [x, y, z] 2 = some z := fun _ _ _ => rfl
  by_cases h1 : c = cs.length
  · have : cellO cs c l q = none := by unfold cellO; rw [if_pos (.inl h1)]
    rw [this]
    subst h1
    simp [_law_share, _law_share_b, plD, colsD, e00, shareB]
  · by_cases h2 : c' = cs.length
    · have : cellO cs c' l' q' = none := by unfold cellO; rw [if_pos (.inl h2)]
      rw [this]
      subst h2
      have hi : ¬ (c : Int) = (cs.length : Int) := by omega
      have hs : shareB (cellO cs c l q) none = false := by cases cellO cs c l q <;> rfl
      simp [_law_share, _law_share_b, plD, colsD, e00, hs, hi]
    · rcases v with v | ⟨a1, a2, a3⟩
      · exact absurd v.1 h1
      · rcases v' with v' | ⟨b1, b2, b3⟩
        · exact absurd v'.1 h2
        · have ac := at_col a1
          have al := at_look a2
          have bc := at_col b1
          have bl := at_look b2
          have hi : ¬ (c : Int) = (cs.length : Int) := by omega
          have hi' : ¬ (c' : Int) = (cs.length : Int) := by omega
          have g1 := hg c l q
          have g2 := hg c' l' q'
          unfold cellO at g1 g2 ⊢
          unfold lookAt at a3 b3 g1 g2 ⊢
          obtain ⟨L, hL⟩ : ∃ L, L = (colAt cs c).getD l [] := ⟨_, rfl⟩
          obtain ⟨L', hL'⟩ : ∃ L', L' = (colAt cs c').getD l' [] := ⟨_, rfl⟩
          rw [← hL] at al a3 g1 ⊢
          rw [← hL'] at bl b3 g2 ⊢
          by_cases hq : q = L.length
          · subst hq
            simp [_law_share, _law_share_b, plD, colsD, e00, e01, e02, hi, hi', ac, al, bc, bl, shareB]
          · by_cases hq' : q' = L'.length
            · subst hq'
              have hqi : ¬ (q : Int) = (L.length : Int) := by omega
              simp [_law_share, _law_share_b, plD, colsD, e00, e01, e02, hi, hi', ac, al, bc, bl, shareB, hq, hqi, h1]
            · have hqi : ¬ (q : Int) = (L.length : Int) := by omega
              have hqi' : ¬ (q' : Int) = (L'.length : Int) := by omega
              have ae := at_cell (l := L) (q := q) (by omega)
              have be := at_cell (l := L') (q := q') (by omega)
              rw [if_neg (by omega)] at g1 g2
              rw [if_neg (by omega), if_neg (by omega)]
              obtain ⟨T, hT⟩ : ∃ T, T = L.getD q [] := ⟨_, rfl⟩
              obtain ⟨T', hT'⟩ : ∃ T', T' = L'.getD q' [] := ⟨_, rfl⟩
              rw [← hT] at ae g1 ⊢
              rw [← hT'] at be g2 ⊢
              obtain ⟨t1, t2⟩ := g1 T rfl
              have tl : T.length < lim := lt_lim (by omega)
              have cc := comp_sel (put := put1 5) (t := mTB (mCmp cIn (mV 5) (mIx (mV 4) (mIx (mV 2) (mC (.int 2)))))) (e := mV 5) (ρ := [.fz (.seq .lst (cs.map colD)), .fz (.seq .tup [.int c, .int l, .int q]), .fz (.seq .tup [.int c', .int l', .int q']), .fz (.seq .lst (L.map .str)), .fz (.seq .lst (L'.map .str)), .no])
                (fun z : Nat => D.str [z]) (fun z => D.str [z]) (fun z => decide (z ∈ T')) .cl (fun _ => rfl) (cs := T) (fun z _ => by
                  simp [put1, e02, be, cIn])
              have hlay : D.lay 12 (.seq .lst ((T.filter fun z => decide (z ∈ T')).map fun z => D.str [z])) = true := by
                rw [lay_q, List.all_eq_true]
                intro d hd
                obtain ⟨z, hz, rfl⟩ := List.mem_map.mp hd
                have := t2 z (List.mem_filter.mp hz).1
                exact lay_str (b := 127) (by simp; exact this) (by decide)
              have hany : T.any (fun z => decide (z ∈ T')) = !(T.filter fun z => decide (z ∈ T')).isEmpty := by
                rw [Bool.eq_iff_iff]
                simp
              have s1 : shareB (some T) (some T') = T.any (fun z => decide (z ∈ T')) := rfl
              rw [s1, hany]
              obtain ⟨F, hF⟩ : ∃ F, F = T.filter (fun z => decide (z ∈ T')) := ⟨_, rfl⟩
              rw [← hF] at cc hlay ⊢
              have hne : dEqB (.seq .lst (F.map fun z => D.str [z])) (.seq .lst []) = .ok F.isEmpty := by
                have h0 : D.lay 12 (.seq .lst []) = true := by simp [D.lay]
                unfold dEqB
                simp only [dEqS, hlay, h0]
                cases F <;> simp
              simp [_law_share, _law_share_b, plD, colsD, e00, e01, e02, hi, hi', ac, al, bc, bl, hqi, hqi', hq, hq', ae, be, noOw, tl, cc, cNe, hne]
theorem lnext_eq (cs : List (List Look)) (s : SmC cs) (hg : ∀ c l q, ∀ t, cellO cs c l q = some t → t.length ≤ 4 ∧ ∀ y ∈ t, y < 127) (c l q c' l' q' : Nat) (v : VP cs c l q) (v' : VP cs c' l' q') :
    M._law_next [colsD cs, prD (pl c l q, pl c' l' q')] = .ok (.seq .lst ((sortP (nxP cs c l q c' l' q')).map prD), true) := by
  have l2 : 2 ≤ lim := le_lim (by decide)
  have l3 : 3 ≤ lim := le_lim (by decide)
  have b1 := lbehind_eq cs s c l q v
  have b2 := lbehind_eq cs s c' l' q' v'
  have sh := lshare_eq cs hg c l q c' l' q' v v'
  have nl := nxP_len s c l q c' l' q'
  have k1 := behP_len s c l q
  have k2 := behP_len s c' l' q'
  have hpr : prD (pl c l q, pl c' l' q') = .seq .tup [plD (pl c l q), plD (pl c' l' q')] := rfl
  have c1 := comp_of (put := put1 5) (e := mTup (amCons (mV 5) (amCons (mV 3) amNil))) (ρ := [.fz (colsD cs), .fz (.seq .tup [plD (pl c l q), plD (pl c' l' q')]), .fz (plD (pl c l q)), .fz (plD (pl c' l' q')), .no, .no])
    plD (fun p => prD (p, pl c' l' q')) .cl (fun _ => rfl) (cs := behP cs c l q) (fun p _ => by simp [put1, l2, prD])
  obtain ⟨A, hA⟩ : ∃ A, A = (behP cs c l q).map (fun p => ((p, pl c' l' q') : Pr)) := ⟨_, rfl⟩
  obtain ⟨B, hB⟩ : ∃ B, B = (behP cs c' l' q').map (fun p => ((pl c l q, p) : Pr)) := ⟨_, rfl⟩
  have hlA : (behP cs c l q).length = A.length := by rw [hA, List.length_map]
  have hlB : (behP cs c' l' q').length = B.length := by rw [hB, List.length_map]
  have eA : (behP cs c l q).map (fun p => prD (p, pl c' l' q')) = A.map prD := by rw [hA, List.map_map]; rfl
  have eB : (behP cs c' l' q').map (fun p => prD (pl c l q, p)) = B.map prD := by rw [hB, List.map_map]; rfl
  have c2 := comp_of (put := put1 5) (e := mTup (amCons (mV 2) (amCons (mV 5) amNil))) (ρ := [.fz (colsD cs), .fz (.seq .tup [plD (pl c l q), plD (pl c' l' q')]), .fz (plD (pl c l q)), .fz (plD (pl c' l' q')), .oo .lst (A.map prD), .no])
    plD (fun p => prD (pl c l q, p)) .cl (fun _ => rfl) (cs := behP cs c' l' q') (fun p _ => by simp [put1, l2, prD])
  rw [eA] at c1
  rw [eB] at c2
  have hN : nxP cs c l q c' l' q' = A ++ B ++ (if shareB (cellO cs c l q) (cellO cs c' l' q') = true then [((pl c l (q + 1), pl c' l' (q' + 1)) : Pr)] else []) := by rw [hA, hB]; rfl
  rw [hpr]
  have t1 : (behP cs c l q).length < lim := lt_lim (by omega)
  have t2 : (behP cs c' l' q').length < lim := lt_lim (by omega)
  have t3 : A.length + B.length ≤ lim := le_lim (by omega)
  have t4 : A.length + B.length < lim := lt_lim (by omega)
  cases hs : shareB (cellO cs c l q) (cellO cs c' l' q') with
  | true =>
    rw [hs] at sh
    rw [if_pos hs] at hN
    rw [hN] at nl ⊢
    have kl : (A ++ B ++ [((pl c l (q + 1), pl c' l' (q' + 1)) : Pr)]).length ≤ lim := le_lim (by omega)
    have tu : ∀ (ρ : Rho), True := fun _ => trivial
    have fin : A.map prD ++ (B.map prD ++ [.seq .tup [.seq .tup [.int c, .int l, .int ((q : Int) + 1)], .seq .tup [.int c', .int l', .int ((q' : Int) + 1)]]]) = (A ++ B ++ [((pl c l (q + 1), pl c' l' (q' + 1)) : Pr)]).map prD := by
      simp [prD, plD]
    have e00 : ∀ x y z : Dm.D, atI [x, y, z] 0 = some x := fun _ _ _ => rfl
    have e01 : ∀ x y z : Dm.D, atI [x, y, z] 1 = some y := fun _ _ _ => rfl
    have e02 : ∀ x y z : Dm.D, atI [x, y, z] 2 = some z := fun _ _ _ => rfl
    have px : ∀ x : Pl, plD x = .seq .tup [.int x.1, .int x.2.1, .int x.2.2] := fun _ => rfl
    simp only [_law_next, _law_next_b]
    simp [b1, b2, colsD_sc, plD_sc, noOw, c1, c2, t1, t2, t3, t4, sh]
    simp [px, e00, e01, e02, l2, l3, t4, fin, -List.map_append]
    simp at kl
    simp [kl, -List.map_append]
  | false =>
    rw [hs] at sh
    rw [if_neg (by rw [hs]; simp), List.append_nil] at hN
    rw [hN] at nl ⊢
    have kl : A.length + B.length ≤ lim := t3
    have fin : A.map prD ++ B.map prD = (A ++ B).map prD := by simp
    simp only [_law_next, _law_next_b]
    simp [b1, b2, colsD_sc, plD_sc, noOw, c1, c2, t1, t2, t3, sh, fin, -List.map_append]
/-! the first pairs -/
def innP (cs : List (List Look)) (c l : Nat) : List Pr := (List.range ((colAt cs c).length - (l + 1))).map fun k => ((pl c l 0, pl c (l + 1 + k) 0) : Pr)
def midP (cs : List (List Look)) (c n : Nat) : List Pr := (List.range n).flatMap (innP cs c)
def topP (cs : List (List Look)) (n : Nat) : List Pr := (List.range n).flatMap fun c => midP cs c (colAt cs c).length
def firstP (cs : List (List Look)) : List Pr := topP cs cs.length
theorem fm_len {α : Type} (F : Nat → List α) (b : Nat) : ∀ n, (∀ i, i < n → (F i).length ≤ b) → ((List.range n).flatMap F).length ≤ n * b
  | 0, _ => by simp
  | n + 1, h => by
    have ih := fm_len F b n fun i hi => h i (by omega)
    have h1 := h n (by omega)
    rw [List.range_succ, List.flatMap_append, List.length_append]
    simp only [List.flatMap_cons, List.flatMap_nil, List.append_nil]
    rw [Nat.add_mul]
    omega
theorem fm_succ {α : Type} (F : Nat → List α) (n : Nat) : (List.range (n + 1)).flatMap F = (List.range n).flatMap F ++ F n := by
  rw [List.range_succ, List.flatMap_append]
  simp
theorem innP_len {cs : List (List Look)} (s : SmC cs) (c l : Nat) : (innP cs c l).length ≤ 40 := by
  have := s.col c
  unfold innP
  rw [List.length_map, List.length_range]
  omega
theorem midP_len {cs : List (List Look)} (s : SmC cs) (c n : Nat) (h : n ≤ 40) : (midP cs c n).length ≤ 1600 := by
  have := fm_len (innP cs c) 40 n fun i _ => innP_len s c i
  unfold midP
  omega
theorem topP_len {cs : List (List Look)} (s : SmC cs) (n : Nat) (h : n ≤ 100) : (topP cs n).length ≤ 160000 := by
  have := fm_len (fun c => midP cs c (colAt cs c).length) 1600 n fun i _ => midP_len s i _ (s.col i)
  unfold topP
  omega
theorem midP_succ (cs : List (List Look)) (c l : Nat) : midP cs c (l + 1) = midP cs c l ++ innP cs c l := fm_succ _ _
theorem topP_succ (cs : List (List Look)) (c : Nat) : topP cs (c + 1) = topP cs c ++ midP cs c (colAt cs c).length := fm_succ _ _
theorem first_pairs_eq (cs : List (List Look)) (s : SmC cs) : M.first_pairs [colsD cs] = .ok (.seq .lst ((firstP cs).map prD), true) := by
  have l2 : 2 ≤ lim := le_lim (by decide)
  have l3 : 3 ≤ lim := le_lim (by decide)
  have hl := s.len
  have hR : rgOk (cs.length : Int) = true := rgOk_of (by omega) (by omega)
  unfold colsD firstP
  simp [first_pairs, first_pairs_b, hR]
  refine q_run (fun r => r = .ok (.seq .lst ((topP cs cs.length).map prD), true)) (fun i ρ => ∃ a b c, ρ = [.fz (.seq .lst (cs.map colD)), .oo .lst ((topP cs i).map prD), a, b, c]) ⟨.no, .no, .no, rfl⟩ ?_ ?_
  · rintro i d ρ hd ⟨a, b, c, rfl⟩
    obtain ⟨hi, rfl⟩ := rangeL_get hd
    have ac := at_col hi
    have hc := s.col i
    have hR2 : rgOk ((colAt cs i).length : Int) = true := rgOk_of (by omega) (by omega)
    have tl := topP_len s i (by omega)
    simp [put1, ac, hR2]
    refine b_run (Stp _) (fun l ρ => ∃ b c, ρ = [.fz (.seq .lst (cs.map colD)), .oo .lst ((topP cs i ++ midP cs i l).map prD), .fz (.int i), b, c]) ⟨b, c, by simp [midP]⟩ ?_ ?_
    · rintro l d ρ hd ⟨b, c, rfl⟩
      obtain ⟨hl2, rfl⟩ := rangeL_get hd
      have ml := midP_len s i l (by omega)
      have hR3 : rgOk ((l : Int) + 1) = true := rgOk_of (by omega) (by omega)
      have hn : ((colAt cs i).length - ((l : Int) + 1)).toNat = (colAt cs i).length - (l + 1) := by omega
      simp [put1, ac, hR2, hR3, hn]
      refine b_run (Stp _) (fun k ρ => ∃ c, ρ = [.fz (.seq .lst (cs.map colD)), .oo .lst ((topP cs i ++ midP cs i l ++ (innP cs i l).take k).map prD), .fz (.int i), .fz (.int l), c]) ⟨c, by simp⟩ ?_ ?_
      · rintro k d ρ hd ⟨c, rfl⟩
        obtain ⟨hk, rfl⟩ := rangeL_get hd
        have il := innP_len s i l
        have ei : (innP cs i l).take (k + 1) = (innP cs i l).take k ++ [((pl i l 0, pl i (l + 1 + k) 0) : Pr)] := by
          have hk' : k < (innP cs i l).length := by unfold innP; simpa using hk
          have eg : (innP cs i l)[k]? = some ((pl i l 0, pl i (l + 1 + k) 0) : Pr) := by
            unfold innP
            rw [List.getElem?_map, List.getElem?_range (by simpa using hk)]
            rfl
          rw [List.take_succ_eq_append_getElem hk', (List.getElem?_eq_some_iff.mp eg).2]
        have kn : (topP cs i).length + ((midP cs i l).length + min k (innP cs i l).length) < lim := lt_lim (by omega)
        simp [put1, l2, l3, kn, ei]
        simp [prD, plD]
      · rintro ρ ⟨c, rfl⟩
        have e2 : (innP cs i l).take (rangeL ((l : Int) + 1) ((colAt cs i).length - (l + 1))).length = innP cs i l := by
          rw [rangeL_len]
          refine List.take_of_length_le ?_
          unfold innP
          simp
        rw [e2]
        simp [midP_succ]
    · rintro ρ ⟨b, c, rfl⟩
      rw [rangeL_len]
      simp [topP_succ]
  · rintro ρ ⟨a, b, c, rfl⟩
    rw [rangeL_len]
    simp
theorem lfirst_eq (cs : List (List Look)) (s : SmC cs) : M._law_first [colsD cs] = .ok (.seq .lst ((firstP cs).map prD), true) := by
  have l2 : 2 ≤ lim := le_lim (by decide)
  have l3 : 3 ≤ lim := le_lim (by decide)
  have hl := s.len
  have hR : rgOk (cs.length : Int) = true := rgOk_of (by omega) (by omega)
  unfold colsD firstP
  simp [_law_first, _law_first_b, hR]
  refine q_run (fun r => r = .ok (.seq .lst ((topP cs cs.length).map prD), true)) (fun i ρ => ∃ a b, ρ = [.fz (.seq .lst (cs.map colD)), .oo .lst ((topP cs i).map prD), a, b, .no]) ⟨.no, .no, rfl⟩ ?_ ?_
  · rintro i d ρ hd ⟨a, b, rfl⟩
    obtain ⟨hi, rfl⟩ := rangeL_get hd
    have ac := at_col hi
    have hc := s.col i
    have hR2 : rgOk ((colAt cs i).length : Int) = true := rgOk_of (by omega) (by omega)
    have tl := topP_len s i (by omega)
    simp [put1, ac, hR2]
    refine b_run (Stp _) (fun l ρ => ∃ b, ρ = [.fz (.seq .lst (cs.map colD)), .oo .lst ((topP cs i ++ midP cs i l).map prD), .fz (.int i), b, .no]) ⟨b, by simp [midP]⟩ ?_ ?_
    · rintro l d ρ hd ⟨b, rfl⟩
      obtain ⟨hl2, rfl⟩ := rangeL_get hd
      have ml := midP_len s i l (by omega)
      have il := innP_len s i l
      have hR3 : rgOk ((l : Int) + 1) = true := rgOk_of (by omega) (by omega)
      have hn : ((colAt cs i).length - ((l : Int) + 1)).toNat = (colAt cs i).length - (l + 1) := by omega
      have cc := comp_of (put := put1 4) (e := mTup (amCons (mTup (amCons (mV 2) (amCons (mV 3) (amCons (mC (.int 0)) amNil)))) (amCons (mTup (amCons (mV 2) (amCons (mV 4) (amCons (mC (.int 0)) amNil)))) amNil)))
        (ρ := [.fz (.seq .lst (cs.map colD)), .oo .lst ((topP cs i ++ midP cs i l).map prD), .fz (.int i), .fz (.int l), .no])
        (fun k : Nat => D.int ((l : Int) + 1 + k)) (fun k => prD (pl i l 0, pl i (l + 1 + k) 0)) .cl (fun _ => rfl) (cs := List.range ((colAt cs i).length - (l + 1))) (fun k _ => by simp [put1, l2, l3, prD, plD])
      have ei : (List.range ((colAt cs i).length - (l + 1))).map (fun k => prD (pl i l 0, pl i (l + 1 + k) 0)) = (innP cs i l).map prD := by unfold innP; rw [List.map_map]; rfl
      rw [ei] at cc
      have cc' : comp (put1 4) tmYes (mTup (amCons (mTup (amCons (mV 2) (amCons (mV 3) (amCons (mC (.int 0)) amNil)))) (amCons (mTup (amCons (mV 2) (amCons (mV 4) (amCons (mC (.int 0)) amNil)))) amNil)))
        [.fz (.seq .lst (cs.map colD)), .oo .lst ((topP cs i ++ midP cs i l).map prD), .fz (.int i), .fz (.int l), .no] (rangeL ((l : Int) + 1) ((colAt cs i).length - (l + 1))) = _ := cc
      have t1 : (colAt cs i).length - (l + 1) < lim := lt_lim (by omega)
      have t2 : (topP cs i).length + (midP cs i l).length + (innP cs i l).length ≤ lim := le_lim (by omega)
      simp at cc'
      simp [put1, ac, hR2, hR3, hn, noOw, cc', t1, t2, midP_succ, smExt]
    · rintro ρ ⟨b, rfl⟩
      rw [rangeL_len]
      simp [topP_succ]
  · rintro ρ ⟨a, b, rfl⟩
    rw [rangeL_len]
    simp
/-! the places -/
def lookN (l : Look) : Int := (l.length : Int) + 1
def colN (c : List Look) : Int := (c.map lookN).sum
def plN (cs : List (List Look)) : Int := (cs.map colN).sum
theorem places_in_eq (cs : List (List Look)) : M.places_in [colsD cs] = .ok (.int (plN cs), false) := by
  unfold colsD
  simp [places_in, places_in_b]
  refine q_run (fun r => r = .ok (.int (plN cs), false)) (fun i ρ => ∃ a b, ρ = [.fz (.seq .lst (cs.map colD)), .fz (.int (plN (cs.take i))), a, b]) ⟨.no, .no, rfl⟩ ?_ ?_
  · rintro i d ρ hd ⟨a, b, rfl⟩
    rw [List.getElem?_map] at hd
    obtain ⟨c, hc, rfl⟩ := Option.map_eq_some_iff.mp hd
    obtain ⟨hi, ec⟩ := List.getElem?_eq_some_iff.mp hc
    have et : plN (cs.take (i + 1)) = plN (cs.take i) + colN c := by
      unfold plN
      rw [List.take_succ_eq_append_getElem hi, ec]
      simp
    rw [et]
    have hcd : colD c = .seq .lst (c.map lookD) := rfl
    rw [hcd]
    simp [put1]
    refine b_run (Stp _) (fun j ρ => ∃ b, ρ = [.fz (.seq .lst (cs.map colD)), .fz (.int (plN (cs.take i) + colN (c.take j))), .fz (.seq .lst (c.map lookD)), b]) ⟨b, by simp [colN]⟩ ?_ ?_
    · rintro j d ρ hd ⟨b, rfl⟩
      rw [List.getElem?_map] at hd
      obtain ⟨l, hl, rfl⟩ := Option.map_eq_some_iff.mp hd
      obtain ⟨hj, el⟩ := List.getElem?_eq_some_iff.mp hl
      have et2 : colN (c.take (j + 1)) = colN (c.take j) + ((l.length : Int) + 1) := by
        unfold colN
        rw [List.take_succ_eq_append_getElem hj, el]
        simp [lookN]
      rw [et2]
      have hld : lookD l = .seq .lst (l.map .str) := rfl
      rw [hld]
      simp [put1]
      omega
    · rintro ρ ⟨b, rfl⟩
      rw [List.length_map, List.take_length]
      simp
  · rintro ρ ⟨a, b, rfl⟩
    rw [List.length_map, List.take_length]
    simp
theorem copy_eq (cs : List (List Look)) (s : SmC cs) (hr : ∀ c ∈ cs, c.length ≤ 1000 ∧ ∀ l ∈ c, l.length ≤ 1000) : M._law_copy [colsD cs] = .ok (colsD cs, true) := by
  have hl := s.len
  have t0 : cs.length < lim := lt_lim (by omega)
  have c1 := comp_of (put := put1 2) (e := mComp (put1 1) [1] (wmA (mV 2)) tmYes (mList (amCons (mV 1) amNil))) (ρ := [.fz (colsD cs), .no, .no])
    colD colD .fr (fun _ => rfl) (cs := cs) (fun c hc => by
      obtain ⟨h1, h2⟩ := hr c hc
      have t1 : c.length < lim := lt_lim (by omega)
      have cc := comp_of (put := put1 1) (e := mList (amCons (mV 1) amNil)) (ρ := [.fz (colsD cs), .no, .fz (.seq .lst (c.map lookD))])
        lookD lookD .fr (fun _ => rfl) (cs := c) (fun l hl => by
          have := h2 l hl
          have t2 : l.length ≤ lim := le_lim (by omega)
          have hld : lookD l = .seq .lst (l.map .str) := rfl
          rw [hld]
          simp [put1, t2])
      have hcd : colD c = .seq .lst (c.map lookD) := rfl
      rw [hcd]
      simp [put1, noOw, cc, t1])
  unfold colsD at c1 ⊢
  simp [_law_copy, _law_copy_b, noOw, c1, t0]
theorem intsOf_is : ∀ ns : List Int, intsOf (ns.map .int) = some ns
  | [] => rfl
  | n :: ns => by rw [List.map_cons, intsOf, intsOf_is ns]; rfl
end Law

end
end

section
set_option linter.all false
set_option maxRecDepth 100000
set_option maxHeartbeats 1000000
noncomputable section
-- core: Dmn
namespace Law
open Dm
theorem Tb_row_put {T : Tb} {k j : Nat} {xs : List En} : (T.put k xs).row j = if j = k then xs else T.row j := by
  unfold Tb.row Tb.put
  dsimp only
  split <;> rfl
theorem Tb_row_put2 {T : Tb} {k j : Nat} {xs : List En} : (T.put2 k xs).row j = if j = k then xs else T.row j := by
  unfold Tb.row Tb.put2
  dsimp only
  split <;> rfl
theorem opn_ex {T : Tb} {k : Nat} (h : T.n < lim) : ∃ T', T.opn k = .ok T' ∧ (∀ j, T'.row j = T.row j) ∧ T'.n = T.n + 1 := by
  refine ⟨T.put k (T.row k), by unfold Tb.opn; rw [if_pos h], fun j => ?_, rfl⟩
  rw [Tb_row_put]
  split
  · rename_i e; rw [e]
  · rfl
theorem add_ex {T : Tb} {k : Nat} {x : En} (h : T.n < lim) (h2 : (T.row k).length < lim) : ∃ T', T.add k x = .ok T' ∧ (∀ j, T'.row j = T.row j ++ (if k = j then [x] else [])) ∧ T'.n = T.n + 2 := by
  refine ⟨T.put2 k (T.row k ++ [x]), by unfold Tb.add; rw [if_pos ⟨h, h2⟩], fun j => ?_, rfl⟩
  rw [Tb_row_put2]
  by_cases e : j = k
  · subst e; rw [if_pos rfl, if_pos rfl]
  · rw [if_neg e, if_neg (fun z => e z.symm), List.append_nil]
def newE (stp : Pr → Pr → Nat) (len : Nat) (e : Pr) (qs : List Pr) (j : Nat) : List En := (qs.filter fun q => decide (len + stp e q = j)).map fun q => (q, some e)
theorem addAll_ex {st : Pr → Pr → Res Nat} {stp : Pr → Pr → Nat} {len : Nat} {e : Pr} : ∀ {qs : List Pr} {T : Tb}, (∀ q ∈ qs, st e q = .ok (stp e q)) → T.n + 2 * qs.length < lim → (∀ j, (T.row j).length + qs.length < lim) →
    ∃ T', comeAdd st len e qs T = .ok T' ∧ (∀ j, T'.row j = T.row j ++ newE stp len e qs j) ∧ T'.n = T.n + 2 * qs.length
  | [], T, _, _, _ => ⟨T, rfl, fun j => by simp [newE], rfl⟩
  | q :: qs, T, hs, hn, hr => by
    have hr0 := hr (len + stp e q)
    rw [List.length_cons] at hn hr0
    obtain ⟨T1, e1, r1, n1⟩ := add_ex (T := T) (k := len + stp e q) (x := (q, some e)) (by omega) (by omega)
    obtain ⟨T2, e2, r2, n2⟩ := addAll_ex (st := st) (stp := stp) (len := len) (e := e) (qs := qs) (T := T1) (fun z hz => hs z (List.mem_cons_of_mem _ hz)) (by omega) (fun j => by
      have := hr j
      rw [List.length_cons] at this
      rw [r1, List.length_append]
      split <;> simp <;> omega)
    refine ⟨T2, ?_, fun j => ?_, by rw [n2, n1, List.length_cons]; omega⟩
    · unfold comeAdd
      rw [hs q List.mem_cons_self, Res.bind_ok, e1, Res.bind_ok]
      exact e2
    · rw [r2, r1, List.append_assoc]
      unfold newE
      rw [List.filter_cons]
      by_cases h : len + stp e q = j
      · rw [if_pos h, if_pos (by simpa using h)]
        rfl
      · rw [if_neg h, if_neg (by simpa using h)]
        rfl
def newF (sa : Pr → Nat) (fs : List Pr) (j : Nat) : List En := (fs.filter fun p => decide (sa p = j)).map fun p => (p, none)
theorem first_ex {sa' : Int → Res Nat} {sa : Pr → Nat} : ∀ {fs : List Pr} {T : Tb}, (∀ p ∈ fs, sa' p.1.1 = .ok (sa p)) → T.n + 2 * fs.length < lim → (∀ j, (T.row j).length + fs.length < lim) →
    ∃ T', comeFirst sa' fs T = .ok T' ∧ (∀ j, T'.row j = T.row j ++ newF sa fs j) ∧ T'.n = T.n + 2 * fs.length
  | [], T, _, _, _ => ⟨T, rfl, fun j => by simp [newF], rfl⟩
  | p :: fs, T, hs, hn, hr => by
    have hr0 := hr (sa p)
    rw [List.length_cons] at hn hr0
    obtain ⟨T1, e1, r1, n1⟩ := add_ex (T := T) (k := sa p) (x := (p, none)) (by omega) (by omega)
    obtain ⟨T2, e2, r2, n2⟩ := first_ex (sa' := sa') (sa := sa) (fs := fs) (T := T1) (fun z hz => hs z (List.mem_cons_of_mem _ hz)) (by omega) (fun j => by
      have := hr j
      rw [List.length_cons] at this
      rw [r1, List.length_append]
      split <;> simp <;> omega)
    refine ⟨T2, ?_, fun j => ?_, by rw [n2, n1, List.length_cons]; omega⟩
    · unfold comeFirst
      rw [hs p List.mem_cons_self, Res.bind_ok, e1, Res.bind_ok]
      exact e2
    · rw [r2, r1, List.append_assoc]
      unfold newF
      rw [List.filter_cons]
      by_cases h : sa p = j
      · rw [if_pos h, if_pos (by simpa using h)]
        rfl
      · rw [if_neg h, if_neg (by simpa using h)]
        rfl
/-- what is walked: the first pairs, the next ones, the steps' signs, the signs ahead; bounds -/
structure Wld where
  fs : List Pr
  nxt : Pr → List Pr
  stp : Pr → Pr → Nat
  sa : Pr → Nat
  V : Pr → Prop
  bnd : Pr → Nat
  n : Nat
  dg : Nat
  cap : Nat
  vf : ∀ p ∈ fs, V p ∧ sa p ≤ bnd p
  vn : ∀ p t, V p → t ∈ nxt p → V t ∧ bnd p + stp p t ≤ bnd t
  bn : ∀ p, V p → bnd p ≤ n
  deg : ∀ p, V p → (nxt p).length ≤ dg
  few : ∀ ps : List Pr, ps.Nodup → (∀ p ∈ ps, V p) → ps.length ≤ cap
  lm : 2 * (fs.length + dg * cap) + n + 10 < 16777216
theorem nodup_le {α : Type} [DecidableEq α] : ∀ {xs ys : List α}, xs.Nodup → (∀ x ∈ xs, x ∈ ys) → xs.length ≤ ys.length
  | [], _, _, _ => Nat.zero_le _
  | x :: xs, ys, hn, hs => by
    rw [List.nodup_cons] at hn
    have hx := hs x List.mem_cons_self
    have ih := nodup_le (xs := xs) (ys := ys.erase x) hn.2 fun z hz => by
      have hz2 := hs z (List.mem_cons_of_mem _ hz)
      have ne : z ≠ x := fun e => hn.1 (e ▸ hz)
      exact (List.mem_erase_of_ne ne).mpr hz2
    have hl := List.length_erase_of_mem hx
    have : 0 < ys.length := List.length_pos_of_mem hx
    rw [List.length_cons]
    omega
def keys (C : List En) : List Pr := C.map Prod.fst
section
variable (w : Wld)
/-- an entry of the row j -/
def Ent (d : Pr → Nat) (C : List En) (j : Nat) (e : En) : Prop := (e.2 = none → e.1 ∈ w.fs ∧ j = w.sa e.1) ∧ ∀ p, e.2 = some p → p ∈ keys C ∧ e.1 ∈ w.nxt p ∧ j = d p + w.stp p e.1
def Pend (T : Tb) (len k : Nat) (t : Pr) (j : Nat) : Prop := ∃ i o, (T.row j)[i]? = some (t, o) ∧ (len < j ∨ (j = len ∧ k ≤ i))
/-- each pair's way -/
def ChainC (d : Pr → Nat) (C : List En) : Prop := ∀ (i : Nat) (e : En), C[i]? = some e → (e.2 = none → e.1 ∈ w.fs ∧ d e.1 = w.sa e.1) ∧ ∀ p, e.2 = some p → p ∈ keys (C.take i) ∧ e.1 ∈ w.nxt p ∧ d e.1 = d p + w.stp p e.1
structure CInv (d : Pr → Nat) (C : List En) (T : Tb) (len k : Nat) : Prop where
  nd : (keys C).Nodup
  v : ∀ p ∈ keys C, w.V p ∧ d p ≤ w.bnd p ∧ d p ≤ len
  ch : ChainC w d C
  tr : ∀ j e, e ∈ T.row j → Ent w d C j e
  fi : ∀ p ∈ w.fs, (p ∈ keys C ∧ d p ≤ w.sa p) ∨ Pend T len k p (w.sa p)
  nx : ∀ p ∈ keys C, ∀ t ∈ w.nxt p, (t ∈ keys C ∧ d t ≤ d p + w.stp p t) ∨ Pend T len k t (d p + w.stp p t)
  cn : ∀ j, (T.row j).length ≤ w.fs.length + w.dg * C.length
variable {w} {d : Pr → Nat} {C : List En} {T : Tb} {len k : Nat} {nx : Pr → Res (List Pr)} {st : Pr → Pr → Res Nat}
theorem keys_app (C : List En) (e : En) : keys (C ++ [e]) = keys C ++ [e.1] := by unfold keys; rw [List.map_append]; rfl
theorem CInv.len_cap (h : CInv w d C T len k) : C.length ≤ w.cap := by
  have := w.few (keys C) h.nd fun p hp => (h.v p hp).1
  unfold keys at this
  rwa [List.length_map] at this
theorem CInv.row_cap (h : CInv w d C T len k) (j : Nat) : (T.row j).length ≤ w.fs.length + w.dg * w.cap := by
  have h1 := h.cn j
  have h2 := Nat.mul_le_mul_left w.dg h.len_cap
  omega
/-- a pair that stands already -/
theorem CInv.skip (h : CInv w d C T len k) {e : En} (he : (T.row len)[k]? = some e) (hm : e.1 ∈ keys C) : CInv w d C T len (k + 1) := by
  have step : ∀ t j, Pend T len k t j → (t ∈ keys C ∧ d t ≤ j) ∨ Pend T len (k + 1) t j := by
    rintro t j ⟨i, o, h1, h2⟩
    rcases h2 with h2 | ⟨rfl, h2⟩
    · exact .inr ⟨i, o, h1, .inl h2⟩
    · by_cases ei : i = k
      · subst ei
        rw [he] at h1
        cases h1
        exact .inl ⟨hm, (h.v _ hm).2.2⟩
      · exact .inr ⟨i, o, h1, .inr ⟨rfl, by omega⟩⟩
  refine ⟨h.nd, h.v, h.ch, h.tr, fun p hp => ?_, fun p hp t ht => ?_, h.cn⟩
  · rcases h.fi p hp with z | z
    · exact .inl z
    · exact step _ _ z
  · rcases h.nx p hp t ht with z | z
    · exact .inl z
    · exact step _ _ z
/-- a new pair -/
theorem CInv.take (h : CInv w d C T len k) {e : En} (he : (T.row len)[k]? = some e) (hm : ¬ e.1 ∈ keys C) {T' : Tb} (hT : ∀ j, T'.row j = T.row j ++ newE w.stp len e.1 (w.nxt e.1) j) :
    CInv w (fun p => if p = e.1 then len else d p) (C ++ [e]) T' len (k + 1) := by
  have hen := h.tr len e (List.mem_of_getElem? he)
  have dk : ∀ p ∈ keys C, (if p = e.1 then len else d p) = d p := fun p hp => by
    rw [if_neg]
    intro z
    exact hm (z ▸ hp)
  have de : (if e.1 = e.1 then len else d e.1) = len := if_pos rfl
  have hV : w.V e.1 ∧ len ≤ w.bnd e.1 := by
    cases h2 : e.2 with
    | none =>
      obtain ⟨a, b⟩ := hen.1 h2
      have := w.vf _ a
      exact ⟨this.1, by rw [b]; exact this.2⟩
    | some p =>
      obtain ⟨a, b, c⟩ := hen.2 p h2
      have hp := h.v p a
      have := w.vn p e.1 hp.1 b
      exact ⟨this.1, by omega⟩
  have hk : k < (T.row len).length := (List.getElem?_eq_some_iff.mp he).1
  have old : ∀ {j i : Nat} {x : En}, (T.row j)[i]? = some x → (T'.row j)[i]? = some x := fun {j i x} q => by
    rw [hT, List.getElem?_append_left (List.getElem?_eq_some_iff.mp q).1]
    exact q
  have step : ∀ t j, Pend T len k t j → (t ∈ keys (C ++ [e]) ∧ (if t = e.1 then len else d t) ≤ j) ∨ Pend T' len (k + 1) t j := by
    rintro t j ⟨i, o, h1, h2⟩
    rcases h2 with h2 | ⟨rfl, h2⟩
    · exact .inr ⟨i, o, old h1, .inl h2⟩
    · by_cases ei : i = k
      · subst ei
        rw [he] at h1
        cases h1
        exact .inl ⟨by rw [keys_app]; simp, by rw [if_pos rfl]; exact Nat.le_refl _⟩
      · exact .inr ⟨i, o, old h1, .inr ⟨rfl, by omega⟩⟩
  refine ⟨?_, fun p hp => ?_, fun i x hx => ?_, fun j x hx => ?_, fun p hp => ?_, fun p hp t ht => ?_, fun j => ?_⟩
  · rw [keys_app, List.nodup_append]
    exact ⟨h.nd, by simp, by
      intro x hx y hy z
      rw [List.mem_singleton] at hy
      subst hy z
      exact hm hx⟩
  · rw [keys_app] at hp
    rcases List.mem_append.mp hp with hp | hp
    · try dsimp only
      rw [dk p hp]
      exact h.v p hp
    · rw [List.mem_singleton] at hp
      subst hp
      try dsimp only
      rw [de]
      exact ⟨hV.1, hV.2, Nat.le_refl _⟩
  · by_cases hi : i < C.length
    · rw [List.getElem?_append_left hi] at hx
      have hx1 : x.1 ∈ keys C := List.mem_map.mpr ⟨x, List.mem_of_getElem? hx, rfl⟩
      obtain ⟨a, b⟩ := h.ch i x hx
      try dsimp only
      rw [dk _ hx1]
      refine ⟨a, fun p hp => ?_⟩
      obtain ⟨b1, b2, b3⟩ := b p hp
      have hpk : p ∈ keys C := by
        unfold keys at b1 ⊢
        obtain ⟨y, hy, rfl⟩ := List.mem_map.mp b1
        exact List.mem_map.mpr ⟨y, List.mem_of_mem_take hy, rfl⟩
      rw [dk _ hpk, List.take_append_of_le_length (by omega)]
      exact ⟨b1, b2, b3⟩
    · have hi2 : i = C.length := by
        have := (List.getElem?_eq_some_iff.mp hx).1
        rw [List.length_append] at this
        simp at this
        omega
      subst hi2
      rw [List.getElem?_append_right (Nat.le_refl _), Nat.sub_self] at hx
      cases hx
      try dsimp only
      rw [de]
      refine ⟨fun q => ?_, fun p q => ?_⟩
      · exact hen.1 q
      · obtain ⟨b1, b2, b3⟩ := hen.2 p q
        rw [dk _ b1, List.take_append_of_le_length (Nat.le_refl _), List.take_length]
        exact ⟨b1, b2, b3⟩
  · rw [hT] at hx
    rcases List.mem_append.mp hx with hx | hx
    · obtain ⟨a, b⟩ := h.tr j x hx
      refine ⟨a, fun p hp => ?_⟩
      obtain ⟨b1, b2, b3⟩ := b p hp
      try dsimp only
      rw [dk _ b1]
      exact ⟨by rw [keys_app]; exact List.mem_append_left _ b1, b2, b3⟩
    · unfold newE at hx
      obtain ⟨q, hq, rfl⟩ := List.mem_map.mp hx
      obtain ⟨q1, q2⟩ := List.mem_filter.mp hq
      refine ⟨(fun z => by cases z), fun p z => ?_⟩
      cases z
      try dsimp only
      rw [de]
      exact ⟨by rw [keys_app]; simp, q1, (of_decide_eq_true q2).symm⟩
  · rcases h.fi p hp with z | z
    · left
      try dsimp only
      rw [dk _ z.1]
      exact ⟨by rw [keys_app]; exact List.mem_append_left _ z.1, z.2⟩
    · exact step _ _ z
  · rw [keys_app] at hp
    rcases List.mem_append.mp hp with hp | hp
    · try dsimp only
      rw [dk _ hp]
      rcases h.nx p hp t ht with z | z
      · left
        rw [dk _ z.1]
        exact ⟨by rw [keys_app]; exact List.mem_append_left _ z.1, z.2⟩
      · exact step _ _ z
    · rw [List.mem_singleton] at hp
      subst hp
      right
      try dsimp only
      rw [de]
      have hin : ((t, some e.1) : En) ∈ newE w.stp len e.1 (w.nxt e.1) (len + w.stp e.1 t) := List.mem_map.mpr ⟨t, List.mem_filter.mpr ⟨ht, by simp⟩, rfl⟩
      obtain ⟨i, hi⟩ := List.mem_iff_getElem?.mp hin
      refine ⟨(T.row (len + w.stp e.1 t)).length + i, some e.1, ?_, ?_⟩
      · rw [hT, List.getElem?_append_right (Nat.le_add_right _ _), Nat.add_sub_cancel_left]
        exact hi
      · by_cases h0 : w.stp e.1 t = 0
        · rw [h0, Nat.add_zero]
          exact .inr ⟨rfl, by omega⟩
        · exact .inl (by omega)
  · rw [hT, List.length_append, List.length_append]
    have h1 := h.cn j
    have h2 : (newE w.stp len e.1 (w.nxt e.1) j).length ≤ w.dg := by
      unfold newE
      rw [List.length_map]
      exact Nat.le_trans (List.length_filter_le _ _) (w.deg _ hV.1)
    have h3 : w.dg * (C.length + [e].length) = w.dg * C.length + w.dg := by rw [List.length_singleton, Nat.mul_add, Nat.mul_one]
    omega
/-- the row is through -/
theorem CInv.done (h : CInv w d C T len k) (he : (T.row len)[k]? = none) : CInv w d C T (len + 1) 0 := by
  have hk : (T.row len).length ≤ k := by
    rw [List.getElem?_eq_none_iff] at he
    exact he
  have step : ∀ t j, Pend T len k t j → Pend T (len + 1) 0 t j := by
    rintro t j ⟨i, o, h1, h2⟩
    refine ⟨i, o, h1, ?_⟩
    rcases h2 with h2 | ⟨rfl, h2⟩
    · by_cases z : len + 1 < j
      · exact .inl z
      · exact .inr ⟨by omega, Nat.zero_le _⟩
    · have := (List.getElem?_eq_some_iff.mp h1).1
      omega
  refine ⟨h.nd, fun p hp => ?_, h.ch, h.tr, fun p hp => ?_, fun p hp t ht => ?_, h.cn⟩
  · obtain ⟨a, b, c⟩ := h.v p hp
    exact ⟨a, b, by omega⟩
  · exact (h.fi p hp).imp id (step _ _)
  · exact (h.nx p hp t ht).imp id (step _ _)
theorem CInv.rows (h : CInv w d C T len k) {T' : Tb} (e : ∀ j, T'.row j = T.row j) : CInv w d C T' len k := by
  have step : ∀ t j, Pend T len k t j → Pend T' len k t j := fun t j ⟨i, o, h1, h2⟩ => ⟨i, o, by rw [e]; exact h1, h2⟩
  exact ⟨h.nd, h.v, h.ch, fun j x hx => h.tr j x (by rw [← e]; exact hx), fun p hp => (h.fi p hp).imp id (step _ _), fun p hp t ht => (h.nx p hp t ht).imp id (step _ _), fun j => by rw [e]; exact h.cn j⟩
theorem in_ex (hnx : ∀ p, w.V p → nx p = .ok (w.nxt p)) (hst : ∀ p t, w.V p → t ∈ w.nxt p → st p t = .ok (w.stp p t)) : ∀ (f k : Nat) (C : List En) (T : Tb) (d : Pr → Nat), CInv w d C T len k → len ≤ w.n → T.n ≤ 2 * (w.fs.length + w.dg * C.length) + len + 1 →
    k ≤ (T.row len).length → w.fs.length + w.dg * w.cap < f + k → ∃ C' T' d', comeIn nx st len f k C T = .ok (C', T') ∧ CInv w d' C' T' (len + 1) 0 ∧ T'.n ≤ 2 * (w.fs.length + w.dg * C'.length) + (len + 1)
  | 0, k, C, T, d, h, _, _, hk, hf => by
    have := h.row_cap len
    omega
  | f + 1, k, C, T, d, h, hl, hn, hk, hf => by
    have hlm := w.lm
    unfold comeIn
    cases he : (T.row len)[k]? with
    | none => exact ⟨C, T, d, rfl, h.done he, hn⟩
    | some e =>
      have hkl : k < (T.row len).length := (List.getElem?_eq_some_iff.mp he).1
      dsimp only
      by_cases hm : e.1 ∈ keys C
      · rw [if_pos (show e.1 ∈ C.map Prod.fst from hm)]
        exact in_ex hnx hst f (k + 1) C T d (h.skip he hm) hl hn hkl (by omega)
      · rw [if_neg (show ¬ e.1 ∈ C.map Prod.fst from hm)]
        have hcap := h.len_cap
        have hmul := Nat.mul_le_mul_left w.dg hcap
        have hen := h.tr len e (List.mem_of_getElem? he)
        have hV : w.V e.1 := by
          cases h2 : e.2 with
          | none => exact (w.vf _ (hen.1 h2).1).1
          | some p =>
            obtain ⟨a, b, c⟩ := hen.2 p h2
            exact (w.vn p e.1 (h.v p a).1 b).1
        have hC : C.length < lim := by
          by_cases hd : w.dg = 0
          · have h1 := h.cn len
            rw [hd, Nat.zero_mul, Nat.add_zero] at h1
            have h2 : C.length ≤ w.fs.length := by
              have : ∀ p ∈ keys C, p ∈ w.fs := fun p hp => by
                obtain ⟨x, hx, rfl⟩ := List.mem_map.mp hp
                obtain ⟨i, hi⟩ := List.mem_iff_getElem?.mp hx
                obtain ⟨a, b⟩ := h.ch i x hi
                cases q : x.2 with
                | none => exact (a q).1
                | some p' =>
                  obtain ⟨b1, b2, _⟩ := b p' q
                  have hp' : p' ∈ keys C := by
                    unfold keys at b1 ⊢
                    obtain ⟨y, hy, rfl⟩ := List.mem_map.mp b1
                    exact List.mem_map.mpr ⟨y, List.mem_of_mem_take hy, rfl⟩
                  have := w.deg p' (h.v p' hp').1
                  rw [hd] at this
                  have := List.length_pos_of_mem b2
                  omega
              have nd := h.nd
              have := nodup_le nd this
              unfold keys at this
              rwa [List.length_map] at this
            exact lt_lim (by omega)
          · have : 1 * w.cap ≤ w.dg * w.cap := Nat.mul_le_mul_right _ (by omega)
            exact lt_lim (by omega)
        rw [if_pos hC, hnx _ hV, Res.bind_ok]
        have hdg := w.deg _ hV
        have hnew : C.length + 1 ≤ w.cap := by
          have := w.few (e.1 :: keys C) (List.nodup_cons.mpr ⟨hm, h.nd⟩) fun p hp => by
            rcases List.mem_cons.mp hp with rfl | hp
            · exact hV
            · exact (h.v p hp).1
          unfold keys at this
          simpa using this
        have hmul2 := Nat.mul_le_mul_left w.dg hnew
        rw [Nat.mul_add, Nat.mul_one] at hmul2
        obtain ⟨T', e1, r1, n1⟩ := addAll_ex (st := st) (stp := w.stp) (len := len) (e := e.1) (qs := w.nxt e.1) (T := T) (fun q hq => hst _ _ hV hq) (lt_lim (by omega)) (fun j => lt_lim (by have := h.cn j; omega))
        rw [e1, Res.bind_ok]
        have h' := h.take he hm r1
        have hl2 : (C ++ [e]).length = C.length + 1 := by simp
        exact in_ex hnx hst f (k + 1) (C ++ [e]) T' _ h' hl (by rw [n1, hl2, Nat.mul_add w.dg, Nat.mul_one]; omega) (by rw [r1, List.length_append]; omega) (by omega)
theorem out_ex (hnx : ∀ p, w.V p → nx p = .ok (w.nxt p)) (hst : ∀ p t, w.V p → t ∈ w.nxt p → st p t = .ok (w.stp p t)) {f : Nat} (hf : w.fs.length + w.dg * w.cap < f) : ∀ (m len : Nat) (C : List En) (T : Tb) (d : Pr → Nat), CInv w d C T len 0 → len + m ≤ w.n + 1 → T.n ≤ 2 * (w.fs.length + w.dg * C.length) + len →
    ∃ C' T' d', comeOut nx st f m len C T = .ok C' ∧ CInv w d' C' T' (len + m) 0
  | 0, len, C, T, d, h, _, _ => ⟨C, T, d, rfl, h⟩
  | m + 1, len, C, T, d, h, hl, hn => by
    have hlm := w.lm
    have hcap := Nat.mul_le_mul_left w.dg h.len_cap
    obtain ⟨T1, e1, r1, n1⟩ := opn_ex (T := T) (k := len) (lt_lim (by omega))
    obtain ⟨C2, T2, d2, e2, h2, n2⟩ := in_ex hnx hst f 0 C T1 d (h.rows r1) (by omega) (by omega) (Nat.zero_le _) (by omega)
    obtain ⟨C3, T3, d3, e3, h3⟩ := out_ex hnx hst hf m (len + 1) C2 T2 d2 h2 (by omega) (by omega)
    refine ⟨C3, T3, d3, ?_, ?_⟩
    · unfold comeOut
      rw [e1, Res.bind_ok, e2, Res.bind_ok]
      exact e3
    · have : len + (m + 1) = len + 1 + m := by omega
      rw [this]
      exact h3
/-- all that is come to -/
structure Come (w : Wld) (d : Pr → Nat) (C : List En) : Prop where
  nd : (keys C).Nodup
  v : ∀ p ∈ keys C, w.V p
  ch : ChainC w d C
  fi : ∀ p ∈ w.fs, p ∈ keys C ∧ d p ≤ w.sa p
  nx : ∀ p ∈ keys C, ∀ t ∈ w.nxt p, t ∈ keys C ∧ d t ≤ d p + w.stp p t
theorem come_ex (hnx : ∀ p, w.V p → nx p = .ok (w.nxt p)) (hst : ∀ p t, w.V p → t ∈ w.nxt p → st p t = .ok (w.stp p t)) {f : Nat} (hf : w.fs.length + w.dg * w.cap < f) {sa' : Int → Res Nat} (hsa : ∀ p ∈ w.fs, sa' p.1.1 = .ok (w.sa p)) :
    ∃ T C d, comeFirst sa' w.fs ⟨fun _ => none, 0⟩ = .ok T ∧ comeOut nx st f (w.n + 1) 0 [] T = .ok C ∧ Come w d C := by
  have hlm := w.lm
  obtain ⟨T, e1, r1, n1⟩ := first_ex (sa' := sa') (sa := w.sa) (fs := w.fs) (T := ⟨fun _ => none, 0⟩) hsa (lt_lim (by simp; omega)) (fun j => lt_lim (by simp [Tb.row]; omega))
  have r0 : ∀ j, T.row j = newF w.sa w.fs j := fun j => by rw [r1]; simp [Tb.row]
  have h0 : CInv w (fun _ => 0) [] T 0 0 := by
    refine ⟨List.nodup_nil, fun p hp => (by cases hp), fun i e he => (by cases he), fun j e he => ?_, fun p hp => .inr ?_, fun p hp => (by cases hp), fun j => ?_⟩
    · rw [r0] at he
      unfold newF at he
      obtain ⟨q, hq, rfl⟩ := List.mem_map.mp he
      obtain ⟨q1, q2⟩ := List.mem_filter.mp hq
      exact ⟨fun _ => ⟨q1, (of_decide_eq_true q2).symm⟩, fun p z => by cases z⟩
    · have hin : ((p, none) : En) ∈ T.row (w.sa p) := by
        rw [r0]
        exact List.mem_map.mpr ⟨p, List.mem_filter.mpr ⟨hp, by simp⟩, rfl⟩
      obtain ⟨i, hi⟩ := List.mem_iff_getElem?.mp hin
      exact ⟨i, none, hi, by
        by_cases z : 0 < w.sa p
        · exact .inl z
        · exact .inr ⟨by omega, Nat.zero_le _⟩⟩
    · rw [r0]
      unfold newF
      rw [List.length_map]
      exact Nat.le_trans (List.length_filter_le _ _) (Nat.le_add_right _ _)
  obtain ⟨C, T2, d, e2, h2⟩ := out_ex hnx hst hf (w.n + 1) 0 [] T _ h0 (by omega) (by rw [n1]; simp)
  rw [Nat.zero_add] at h2
  have nop : ∀ t j, ¬ Pend T2 (w.n + 1) 0 t j := by
    rintro t j ⟨i, o, h3, h4⟩
    have hen := h2.tr j _ (List.mem_of_getElem? h3)
    have hb : j ≤ w.n := by
      cases o with
      | none =>
        obtain ⟨a, b⟩ := hen.1 rfl
        have := w.vf _ a
        have := w.bn _ this.1
        omega
      | some p =>
        obtain ⟨a, b, c⟩ := hen.2 p rfl
        have hp := h2.v p a
        have h5 := w.vn p _ hp.1 b
        have := w.bn _ h5.1
        omega
    omega
  exact ⟨T, C, d, e1, e2, h2.nd, fun p hp => (h2.v p hp).1, h2.ch, fun p hp => (h2.fi p hp).resolve_right (nop _ _), fun p hp t ht => (h2.nx p hp t ht).resolve_right (nop _ _)⟩
end
end Law

end
end

section
set_option linter.all false
set_option maxRecDepth 100000
set_option maxHeartbeats 1000000
noncomputable section
namespace Law
open Dm M
/-- a pair of places within the columns -/
def VPr (cs : List (List Look)) (p : Pr) : Prop := ∃ c l q c' l' q', VP cs c l q ∧ VP cs c' l' q' ∧ p = (pl c l q, pl c' l' q')
def nxt (cs : List (List Look)) (p : Pr) : List Pr := nxP cs p.1.1.toNat p.1.2.1.toNat p.1.2.2.toNat p.2.1.toNat p.2.2.1.toNat p.2.2.2.toNat
theorem nxt_pl (cs : List (List Look)) (c l q c' l' q' : Nat) : nxt cs (pl c l q, pl c' l' q') = nxP cs c l q c' l' q' := rfl
theorem colAt_mem {cs : List (List Look)} {c : Nat} (h : c < cs.length) : colAt cs c ∈ cs := by unfold colAt; rw [getD_at _ h]; exact List.getElem_mem h
theorem begunP_v {cs : List (List Look)} {c : Nat} {p : Pl} (hc : c ≤ cs.length) (h : p ∈ begunP cs c) : ∃ l, VP cs c l 0 ∧ p = pl c l 0 := by
  unfold begunP at h
  split at h
  · rename_i e
    exact ⟨0, .inl ⟨e, rfl, rfl⟩, List.mem_singleton.mp h⟩
  · rename_i e
    obtain ⟨k, hk, rfl⟩ := List.mem_map.mp h
    exact ⟨k, .inr ⟨by omega, List.mem_range.mp hk, Nat.zero_le _⟩, rfl⟩
theorem behP_v {cs : List (List Look)} {c l q : Nat} {p : Pl} (v : VP cs c l q) (h : p ∈ behP cs c l q) : ∃ c' l' q', VP cs c' l' q' ∧ p = pl c' l' q' := by
  unfold behP at h
  split at h
  · cases h
  · rename_i hn
    have hc : c + 1 ≤ cs.length := by
      rcases v with ⟨e, _⟩ | ⟨e, _⟩
      · exact absurd (.inl e) hn
      · omega
    obtain ⟨l', v', e⟩ := begunP_v hc h
    exact ⟨_, _, _, v', e⟩
theorem cellO_v {cs : List (List Look)} {c l q : Nat} {t : List Nat} (v : VP cs c l q) (h : cellO cs c l q = some t) : VP cs c l (q + 1) := by
  unfold cellO at h
  split at h
  · cases h
  · rename_i hn
    rcases v with ⟨e, _⟩ | ⟨e1, e2, e3⟩
    · exact absurd (.inl e) hn
    · refine .inr ⟨e1, e2, ?_⟩
      have : ¬ q = (lookAt cs c l).length := fun z => hn (.inr z)
      omega
theorem nxt_v {cs : List (List Look)} {p t : Pr} (v : VPr cs p) (h : t ∈ nxt cs p) : VPr cs t := by
  obtain ⟨c, l, q, c', l', q', v1, v2, rfl⟩ := v
  rw [nxt_pl] at h
  unfold nxP at h
  rcases List.mem_append.mp h with h | h
  · rcases List.mem_append.mp h with h | h
    · obtain ⟨x, hx, rfl⟩ := List.mem_map.mp h
      obtain ⟨a, b, d, w, rfl⟩ := behP_v v1 hx
      exact ⟨a, b, d, c', l', q', w, v2, rfl⟩
    · obtain ⟨x, hx, rfl⟩ := List.mem_map.mp h
      obtain ⟨a, b, d, w, rfl⟩ := behP_v v2 hx
      exact ⟨c, l, q, a, b, d, v1, w, rfl⟩
  · split at h
    · rename_i hs
      rw [List.mem_singleton.mp h]
      cases e1 : cellO cs c l q with
      | none => rw [e1] at hs; cases hs
      | some t1 =>
        cases e2 : cellO cs c' l' q' with
        | none => rw [e1, e2] at hs; cases hs
        | some t2 => exact ⟨c, l, q + 1, c', l', q' + 1, cellO_v v1 e1, cellO_v v2 e2, rfl⟩
    · cases h
theorem innP_v {cs : List (List Look)} {c l : Nat} {p : Pr} (hc : c < cs.length) (hl : l < (colAt cs c).length) (h : p ∈ innP cs c l) : VPr cs p := by
  unfold innP at h
  obtain ⟨k, hk, rfl⟩ := List.mem_map.mp h
  have := List.mem_range.mp hk
  exact ⟨c, l, 0, c, l + 1 + k, 0, .inr ⟨hc, hl, Nat.zero_le _⟩, .inr ⟨hc, by omega, Nat.zero_le _⟩, rfl⟩
theorem first_v {cs : List (List Look)} {p : Pr} (h : p ∈ firstP cs) : VPr cs p := by
  unfold firstP topP at h
  obtain ⟨c, hc, h⟩ := List.mem_flatMap.mp h
  unfold midP at h
  obtain ⟨l, hl, h⟩ := List.mem_flatMap.mp h
  exact innP_v (List.mem_range.mp hc) (List.mem_range.mp hl) h
theorem lnext_v {cs : List (List Look)} (s : SmC cs) (hg : ∀ c l q, ∀ t, cellO cs c l q = some t → t.length ≤ 4 ∧ ∀ y ∈ t, y < 127) {p : Pr} (v : VPr cs p) : M._law_next [.seq .lst (cs.map colD), prD p] = .ok (.seq .lst ((sortP (nxt cs p)).map prD), true) := by
  obtain ⟨c, l, q, c', l', q', v1, v2, rfl⟩ := v
  exact lnext_eq cs s hg c l q c' l' q' v1 v2
theorem next_v {cs : List (List Look)} (s : SmC cs) {p : Pr} (v : VPr cs p) : M.next_pairs [.seq .lst (cs.map colD), prD p] = .ok (.seq .lst ((sortP (nxt cs p)).map prD), true) := by
  obtain ⟨c, l, q, c', l', q', v1, v2, rfl⟩ := v
  exact next_pairs_eq cs s c l q c' l' q' v1 v2
theorem sort_mem {p : Pr} {ps : List Pr} : p ∈ sortP ps ↔ p ∈ ps := by unfold sortP; exact List.mem_mergeSort
theorem sort_len (ps : List Pr) : (sortP ps).length = ps.length := by unfold sortP; exact List.length_mergeSort _
theorem lay_pr (n : Nat) (p : Pr) : D.lay (n + 2) (prD p) = true := by simp [prD, plD, D.lay]
theorem lay_prs (ps : List Pr) : D.lay 12 (.seq .lst (ps.map prD)) = true := by
  rw [lay_q, List.all_eq_true]
  intro d hd
  obtain ⟨p, _, rfl⟩ := List.mem_map.mp hd
  exact lay_pr 9 p
theorem ne_nil (ps : List Pr) : dEqB (.seq .lst (ps.map prD)) (.seq .lst []) = .ok ps.isEmpty := by
  have h0 : D.lay 12 (.seq .lst []) = true := by simp [D.lay]
  have h1 := lay_prs ps
  unfold dEqB
  simp only [dEqS, h1, h0]
  cases ps <;> simp
theorem in_eq (p : Pr) (ps : List Pr) (ds : List D) : inT (prD p) (.dit (ps.map prD) ds) = .ok (decide (p ∈ ps)) := by
  show (match asPr (prD p), asPrs (ps.map prD) with
    | some p, some ps => Res.ok (decide (p ∈ ps))
    | _, _ => .bad) = _
  rw [asPr_prD, asPrs_map]
/-! what is shut -/
def endP (cs : List (List Look)) : Pr := (pl cs.length 0 0, pl cs.length 0 0)
def shutB (cs : List (List Look)) (ps : List Pr) : Bool := (!decide (endP cs ∈ ps) && (firstP cs).all fun p => decide (p ∈ ps)) && ps.all fun p => (nxt cs p).all fun t => decide (t ∈ ps)
def KOf (ps : List Pr) (K : List Pr) : Prop := K.Nodup ∧ (∀ z, z ∈ K ↔ z ∈ ps)
theorem kof_len {ps K : List Pr} (k : KOf ps K) : K.length ≤ ps.length := nodup_le k.1 fun z hz => (k.2 z).mp hz
theorem kof_put {ps K : List Pr} {p : Pr} (k : KOf ps K) (hl : ps.length < 1000000) : ∃ K', putPr (asPrs (K.map prD)) (some p) (trues K.length) = some (K'.map prD, trues K'.length) ∧ KOf (ps ++ [p]) K' := by
  have hkl := kof_len k
  by_cases hm : p ∈ K
  · have hk : K.length < lim := lt_lim (by omega)
    refine ⟨K, ?_, k.1, fun z => ?_⟩
    · rw [asPrs_map, putPr_some, if_pos ⟨by rw [trues_len]; exact hk, trues_all _⟩, if_pos hm]
    · rw [k.2, List.mem_append, List.mem_singleton]
      constructor
      · exact .inl
      · rintro (h | rfl)
        · exact h
        · exact (k.2 _).mp hm
  · refine ⟨K ++ [p], put_new K p hm (by omega), ?_, fun z => ?_⟩
    · rw [List.nodup_append]
      exact ⟨k.1, by simp, by
        intro x hx y hy e
        simp at hy
        subst hy e
        exact hm hx⟩
    · rw [List.mem_append, List.mem_append, k.2]
theorem kof_shut {cs : List (List Look)} {ps K : List Pr} (k : KOf ps K) : shutB cs ps = ((!decide (endP cs ∈ K) && (firstP cs).all fun p => decide (p ∈ K)) && K.all fun p => (nxt cs p).all fun t => decide (t ∈ K)) := by
  have e1 : ∀ z, decide (z ∈ ps) = decide (z ∈ K) := fun z => by rw [decide_eq_decide]; exact (k.2 z).symm
  have e2 : (ps.all fun p => (nxt cs p).all fun t => decide (t ∈ ps)) = (K.all fun p => (nxt cs p).all fun t => decide (t ∈ K)) := by
    rw [Bool.eq_iff_iff]
    simp only [List.all_eq_true, decide_eq_true_eq]
    constructor
    · intro h p hp t ht
      exact (k.2 t).mpr (h p ((k.2 p).mp hp) t ht)
    · intro h p hp t ht
      exact (k.2 t).mp (h p ((k.2 p).mpr hp) t ht)
  unfold shutB
  rw [e2]
  simp only [e1]
/-- the first i are all in K -/
def AllIn (xs : List Pr) (i : Nat) (f : Pr → Bool) : Prop := ∀ (j : Nat) (z : Pr), j < i → xs[j]? = some z → f z = true
theorem allIn0 (xs : List Pr) (f : Pr → Bool) : AllIn xs 0 f := fun j z h => absurd h (Nat.not_lt_zero _)
theorem AllIn.succ {xs : List Pr} {i : Nat} {f : Pr → Bool} {p : Pr} (h : AllIn xs i f) (hp : xs[i]? = some p) (hf : f p = true) : AllIn xs (i + 1) f := fun j z hj hz => by
  by_cases e : j = i
  · subst e
    rw [hp] at hz
    cases hz
    exact hf
  · exact h j z (by omega) hz
theorem AllIn.all {xs : List Pr} {i : Nat} {f : Pr → Bool} (h : AllIn xs i f) (hi : i = xs.length) : xs.all f = true := by
  rw [List.all_eq_true]
  intro z hz
  obtain ⟨j, hj⟩ := List.mem_iff_getElem?.mp hz
  obtain ⟨hlt, _⟩ := List.getElem?_eq_some_iff.mp hj
  exact h j z (by omega) hj
theorem all_not {xs : List Pr} {f : Pr → Bool} {p : Pr} (hp : p ∈ xs) (h : f p = false) : xs.all f = false := by
  rw [Bool.eq_false_iff]
  intro h2
  have := List.all_eq_true.mp h2 p hp
  rw [h] at this
  cases this

/-! how many places there are -/
def csz (col : List Look) : Nat := (col.map List.length).sum
def plM (cs : List (List Look)) : Nat := (cs.map fun col => (col.map fun l => l.length + 1).sum).sum
def allP (cs : List (List Look)) : List Pl := pl cs.length 0 0 :: ((List.range cs.length).flatMap fun c => (List.range (colAt cs c).length).flatMap fun l => (List.range ((lookAt cs c l).length + 1)).map fun q => pl c l q)
def allPr (cs : List (List Look)) : List Pr := (allP cs).flatMap fun x => (allP cs).map fun y => (x, y)
theorem vp_allP {cs : List (List Look)} {c l q : Nat} (v : VP cs c l q) : pl c l q ∈ allP cs := by
  unfold allP
  rcases v with ⟨rfl, rfl, rfl⟩ | ⟨h1, h2, h3⟩
  · exact List.mem_cons_self
  · exact List.mem_cons_of_mem _ (List.mem_flatMap.mpr ⟨c, List.mem_range.mpr h1, List.mem_flatMap.mpr ⟨l, List.mem_range.mpr h2, List.mem_map.mpr ⟨q, List.mem_range.mpr (by omega), rfl⟩⟩⟩)
theorem vpr_allPr {cs : List (List Look)} {p : Pr} (v : VPr cs p) : p ∈ allPr cs := by
  obtain ⟨c, l, q, c', l', q', v1, v2, rfl⟩ := v
  exact List.mem_flatMap.mpr ⟨_, vp_allP v1, List.mem_map.mpr ⟨_, vp_allP v2, rfl⟩⟩
theorem range_map {α β : Type} (xs : List α) (d : α) (f : α → β) : (List.range xs.length).map (fun i => f (xs.getD i d)) = xs.map f := by
  apply List.ext_getElem
  · simp
  · intro i h1 h2
    have hi : i < xs.length := by simpa using h1
    simp [List.getD_eq_getElem?_getD, hi]
theorem allP_len (cs : List (List Look)) : (allP cs).length = plM cs + 1 := by
  unfold allP
  rw [List.length_cons]
  congr 1
  rw [List.length_flatMap]
  have e1 : ((List.range cs.length).map fun c => ((List.range (colAt cs c).length).flatMap fun l => (List.range ((lookAt cs c l).length + 1)).map fun q => pl c l q).length) = (List.range cs.length).map fun c => ((colAt cs c).map fun l => l.length + 1).sum := by
    apply List.map_congr_left
    intro c hc
    rw [List.length_flatMap]
    congr 1
    have : (fun l => ((List.range ((lookAt cs c l).length + 1)).map fun q => pl c l q).length) = fun l => ((colAt cs c).getD l []).length + 1 := by
      funext l
      rw [List.length_map, List.length_range]
      rfl
    rw [this]
    exact range_map (colAt cs c) [] fun l => l.length + 1
  rw [e1]
  exact congrArg List.sum (range_map cs [] fun col => (col.map fun l => l.length + 1).sum)
theorem allPr_len (cs : List (List Look)) : (allPr cs).length = (plM cs + 1) * (plM cs + 1) := by
  have : ∀ (xs : List Pl) (ys : List Pl), (xs.flatMap fun x => ys.map fun y => ((x, y) : Pr)).length = xs.length * ys.length := by
    intro xs ys
    induction xs with
    | nil => simp
    | cons x xs ih =>
      rw [List.flatMap_cons, List.length_append, ih, List.length_map, List.length_cons, Nat.add_mul]
      omega
  unfold allPr
  rw [this, allP_len]
theorem plN_M (cs : List (List Look)) : plN cs = (plM cs : Int) := by
  have h1 : ∀ col : List Look, colN col = (((col.map fun l => l.length + 1).sum : Nat) : Int) := by
    intro col
    unfold colN
    induction col with
    | nil => rfl
    | cons l ls ih =>
      simp only [List.map_cons, List.sum_cons, Int.natCast_add]
      rw [ih]
      simp [lookN]
  unfold plN plM
  induction cs with
  | nil => rfl
  | cons c cs ih =>
    simp only [List.map_cons, List.sum_cons, Int.natCast_add]
    rw [ih, h1]
theorem sum_mono {α : Type} {f g : α → Nat} : ∀ {xs : List α}, (∀ x ∈ xs, f x ≤ g x) → (xs.map f).sum ≤ (xs.map g).sum
  | [], _ => Nat.le_refl _
  | x :: xs, h => by
    have h1 := h x List.mem_cons_self
    have h2 := sum_mono (f := f) (g := g) (xs := xs) fun y hy => h y (List.mem_cons_of_mem _ hy)
    simp only [List.map_cons, List.sum_cons]
    omega
/-- the signs of the columns ahead, at most -/
def szS (cs : List (List Look)) (c : Nat) : Nat := ((cs.take c).map csz).sum
theorem szS_succ {cs : List (List Look)} {c : Nat} (h : c < cs.length) : szS cs (c + 1) = szS cs c + csz (colAt cs c) := by
  unfold szS colAt
  rw [List.take_succ_eq_append_getElem h, getD_at _ h, List.map_append, List.sum_append]
  simp
theorem look_le {cs : List (List Look)} {c l : Nat} (h : l < (colAt cs c).length) : (lookAt cs c l).length ≤ csz (colAt cs c) := by
  unfold lookAt csz
  rw [getD_at _ h]
  generalize colAt cs c = col at h ⊢
  induction col generalizing l with
  | nil => simp at h
  | cons x xs ih =>
    cases l with
    | zero => simp
    | succ l =>
      have := ih (l := l) (by simpa using h)
      simp only [List.getElem_cons_succ, List.map_cons, List.sum_cons]
      omega
theorem take_sum_le {α : Type} (f : α → Nat) : ∀ (xs : List α) (c : Nat), ((xs.take c).map f).sum ≤ (xs.map f).sum
  | [], c => by simp
  | x :: xs, 0 => by simp
  | x :: xs, c + 1 => by
    have := take_sum_le f xs c
    simp only [List.take_succ_cons, List.map_cons, List.sum_cons]
    omega
theorem csz_le (col : List Look) : csz col ≤ (col.map fun l => l.length + 1).sum := sum_mono fun l _ => Nat.le_succ _
theorem szS_le (cs : List (List Look)) (c : Nat) : szS cs c ≤ plM cs := Nat.le_trans (take_sum_le csz cs c) (sum_mono fun col _ => csz_le col)
def bndP (cs : List (List Look)) (p : Pr) : Nat := szS cs p.1.1.toNat + p.1.2.2.toNat
theorem bnd_le {cs : List (List Look)} {p : Pr} (v : VPr cs p) : bndP cs p ≤ plM cs := by
  obtain ⟨c, l, q, c', l', q', v1, v2, rfl⟩ := v
  show szS cs c + q ≤ plM cs
  rcases v1 with ⟨rfl, rfl, rfl⟩ | ⟨h1, h2, h3⟩
  · exact szS_le cs _
  · have := look_le h2
    have := szS_succ h1
    have := szS_le cs (c + 1)
    omega
def stepP (p t : Pr) : Nat := if p.1 ≠ t.1 ∧ p.2 ≠ t.2 then 1 else 0
theorem behP_bnd {cs : List (List Look)} {c l q : Nat} {x : Pl} (v : VP cs c l q) (h : x ∈ behP cs c l q) : szS cs c + q ≤ szS cs x.1.toNat ∧ x.2.2 = 0 := by
  have h1 := behP_at h
  unfold behP at h
  split at h
  · cases h
  · rename_i hn
    have hx := begunP_at h
    rcases v with ⟨e, _⟩ | ⟨v1, v2, v3⟩
    · exact absurd (.inl e) hn
    · have hx1 : x.1.toNat = c + 1 := by omega
      rw [hx1, szS_succ v1]
      have := look_le v2
      exact ⟨by omega, hx.2⟩
theorem bnd_step {cs : List (List Look)} {p t : Pr} (v : VPr cs p) (h : t ∈ nxt cs p) : bndP cs p + stepP p t ≤ bndP cs t := by
  obtain ⟨c, l, q, c', l', q', v1, v2, rfl⟩ := v
  rw [nxt_pl] at h
  unfold nxP at h
  have hb : bndP cs (pl c l q, pl c' l' q') = szS cs c + q := rfl
  rw [hb]
  rcases List.mem_append.mp h with h | h
  · rcases List.mem_append.mp h with h | h
    · obtain ⟨x, hx, rfl⟩ := List.mem_map.mp h
      obtain ⟨b1, b2⟩ := behP_bnd v1 hx
      have : stepP (pl c l q, pl c' l' q') (x, pl c' l' q') = 0 := if_neg fun z => z.2 rfl
      rw [this]
      show szS cs c + q + 0 ≤ szS cs x.1.toNat + x.2.2.toNat
      omega
    · obtain ⟨x, hx, rfl⟩ := List.mem_map.mp h
      have : stepP (pl c l q, pl c' l' q') (pl c l q, x) = 0 := if_neg fun z => z.1 rfl
      rw [this]
      exact Nat.le_refl _
  · split at h
    · rw [List.mem_singleton.mp h]
      have : stepP (pl c l q, pl c' l' q') (pl c l (q + 1), pl c' l' (q' + 1)) ≤ 1 := by unfold stepP; split <;> omega
      show szS cs c + q + _ ≤ szS cs c + (q + 1)
      omega
    · cases h
/-! the shortest looks -/
def lensI (col : List Look) : List Int := col.map fun l => (l.length : Int)
def shp (col : List Look) : Nat := ((lensI col).findIdx? fun i => decide (i = (minI (lensI col)).getD 0)).getD 0
def shl (col : List Look) : Look := col.getD (shp col) []
theorem minI_some : ∀ {ns : List Int}, ns ≠ [] → ∃ m, minI ns = some m ∧ m ∈ ns ∧ ∀ y ∈ ns, m ≤ y
  | [], h => absurd rfl h
  | [n], _ => ⟨n, rfl, by simp, by simp⟩
  | n :: m :: ns, _ => by
    obtain ⟨x, h1, h2, h3⟩ := minI_some (ns := m :: ns) (by simp)
    unfold minI
    rw [h1]
    by_cases h : n ≤ x
    · refine ⟨n, by simp [h], List.mem_cons_self, fun y hy => ?_⟩
      rcases List.mem_cons.mp hy with rfl | hy
      · exact Int.le_refl _
      · exact Int.le_trans h (h3 y hy)
    · refine ⟨x, by simp [h], List.mem_cons_of_mem _ h2, fun y hy => ?_⟩
      rcases List.mem_cons.mp hy with rfl | hy
      · omega
      · exact h3 y hy
theorem shp_ok {col : List Look} (h : col ≠ []) : ∃ m, minI (lensI col) = some m ∧ (lensI col).findIdx? (fun i => decide (i = m)) = some (shp col) ∧ shp col < col.length ∧ ∀ l ∈ col, (shl col).length ≤ l.length := by
  obtain ⟨m, h1, h2, h3⟩ := minI_some (ns := lensI col) (by cases col; exact absurd rfl h; simp [lensI])
  have hs : shp col = ((lensI col).findIdx? fun i => decide (i = m)).getD 0 := by unfold shp; rw [h1]; rfl
  cases e : (lensI col).findIdx? (fun i => decide (i = m)) with
  | none =>
    rw [List.findIdx?_eq_none_iff] at e
    have := e m h2
    simp at this
  | some j =>
    rw [e] at hs
    have hs' : shp col = j := hs
    obtain ⟨hj, hp, _⟩ := List.findIdx?_eq_some_iff_getElem.mp e
    have hl : j < col.length := by simpa [lensI] using hj
    refine ⟨m, h1, by rw [hs']; exact e, by rw [hs']; exact hl, fun l hl2 => ?_⟩
    have hm : (col[j].length : Int) = m := by simpa [lensI] using hp
    have := h3 (l.length : Int) (List.mem_map.mpr ⟨l, hl2, rfl⟩)
    unfold shl
    rw [hs', getD_at _ hl]
    omega
def saC (cs : List (List Look)) (c : Nat) : Nat := ((cs.take c).map fun col => (shl col).length).sum
theorem saC_le {cs : List (List Look)} (hn : ∀ col ∈ cs, col ≠ []) (c : Nat) : saC cs c ≤ szS cs c := by
  unfold saC szS
  refine sum_mono fun col hc => ?_
  have hne := hn col (List.mem_of_mem_take hc)
  obtain ⟨m, _, _, h1, _⟩ := shp_ok hne
  have : shl col ∈ col := by unfold shl; rw [getD_at _ h1]; exact List.getElem_mem h1
  obtain ⟨i, hi, e⟩ := List.mem_iff_getElem.mp this
  have hx := look_le (cs := [col]) (c := 0) (l := i) (by simpa [colAt] using hi)
  have e2 : lookAt [col] 0 i = shl col := by
    unfold lookAt colAt
    rw [show [col].getD 0 [] = col from rfl, getD_at _ hi, e]
  rw [e2] at hx
  exact hx
def saP (cs : List (List Look)) (p : Pr) : Nat := saC cs p.1.1.toNat
/-- columns for which all can be walked -/
structure WCol (cs : List (List Look)) (W : Nat) : Prop where
  s : SmC cs
  ne : ∀ col ∈ cs, col ≠ []
  w1 : 1 ≤ W
  wide : ∀ c, (colAt cs c).length ≤ W
  pn : plM cs ≤ 500
  cell : ∀ c l q, ∀ t, cellO cs c l q = some t → t.length ≤ 4 ∧ ∀ y ∈ t, y < 127
  lm : (2 * W + 1) * ((plM cs + 1) * (plM cs + 1)) ≤ 7000000
theorem behP_wide {cs : List (List Look)} {W : Nat} (g : WCol cs W) (c l q : Nat) : (behP cs c l q).length ≤ W := by
  unfold behP
  split
  · simp
  · unfold begunP
    split
    · simp; exact g.w1
    · rw [List.length_map, List.length_range]; exact g.wide _
theorem nxt_wide {cs : List (List Look)} {W : Nat} (g : WCol cs W) {p : Pr} : (nxt cs p).length ≤ 2 * W + 1 := by
  unfold nxt nxP
  have h1 := behP_wide g p.1.1.toNat p.1.2.1.toNat p.1.2.2.toNat
  have h2 := behP_wide g p.2.1.toNat p.2.2.1.toNat p.2.2.2.toNat
  simp only [List.length_append, List.length_map]
  split
  · simp; omega
  · simp; omega
theorem firstP_at {cs : List (List Look)} {p : Pr} (h : p ∈ firstP cs) : ∃ c l k, c < cs.length ∧ l < k ∧ k < (colAt cs c).length ∧ p = (pl c l 0, pl c k 0) := by
  unfold firstP topP at h
  obtain ⟨c, hc, h⟩ := List.mem_flatMap.mp h
  unfold midP at h
  obtain ⟨l, hl, h⟩ := List.mem_flatMap.mp h
  unfold innP at h
  obtain ⟨k, hk, rfl⟩ := List.mem_map.mp h
  have := List.mem_range.mp hk
  exact ⟨c, l, l + 1 + k, List.mem_range.mp hc, by omega, by omega, rfl⟩
def wld (cs : List (List Look)) (W : Nat) (g : WCol cs W) : Wld where
  fs := firstP cs
  nxt := fun p => sortP (nxt cs p)
  stp := stepP
  sa := saP cs
  V := VPr cs
  bnd := bndP cs
  n := plM cs
  dg := 2 * W + 1
  cap := (plM cs + 1) * (plM cs + 1)
  vf := fun p hp => by
    refine ⟨first_v hp, ?_⟩
    obtain ⟨c, l, k, hc, _, _, rfl⟩ := firstP_at hp
    show saC cs c ≤ szS cs c + 0
    exact saC_le g.ne c
  vn := fun p t v h => ⟨nxt_v v (sort_mem.mp h), bnd_step v (sort_mem.mp h)⟩
  bn := fun p v => bnd_le v
  deg := fun p v => by rw [sort_len]; exact nxt_wide g
  few := fun ps hn hv => by
    rw [← allPr_len]
    exact nodup_le hn fun p hp => vpr_allPr (hv p hp)
  lm := by
    have h1 := topP_len g.s cs.length g.s.len
    have h2 := g.lm
    have h3 := g.pn
    unfold firstP
    omega
end Law

end
end

section
set_option linter.all false
set_option maxRecDepth 100000
set_option maxHeartbeats 1000000
noncomputable section
namespace M
open Dm
def shortest_pick_b : SM :=
    (smSeq (smSet 1 (mComp (put1 2) [2] (wmA (mV 0)) tmYes (mBlt bLen (amCons (mV 2) amNil))))
    (smRet (mIdxD (mV 1) (mBlt bMinL (amCons (mV 1) amNil)))))
def shortest_pick : FM := mFn 1 2 shortest_pick_b
def signs_ahead_b : SM :=
    (smRet (mBlt bSum (amCons (mComp (put1 2) [2] (wmR1 (mV 1)) tmYes (mBlt bLen (amCons (mIx (mIx (mV 0) (mV 2)) (mCall M.shortest_pick (amCons (mIx (mV 0) (mV 2)) amNil))) amNil))) amNil)))
def signs_ahead : FM := mFn 2 1 signs_ahead_b
def is_sign_step_b : SM :=
    (smRet (mAnd (mCmp cNe (mIx (mV 0) (mC (.int 0))) (mIx (mV 1) (mC (.int 0)))) (mCmp cNe (mIx (mV 0) (mC (.int 1))) (mIx (mV 1) (mC (.int 1))))))
def is_sign_step : FM := mFn 2 0 is_sign_step_b
end M
namespace Law
open Dm M
theorem shortest_pick_eq {col : List Look} (h : col ≠ []) (hl : col.length ≤ 1000) : M.shortest_pick [.seq .lst (col.map lookD)] = .ok (.int (shp col), false) := by
  obtain ⟨m, h1, h2, _, _⟩ := shp_ok h
  have nl : col.length < lim := lt_lim (by omega)
  have nl2 : col.length ≤ lim := le_lim (by omega)
  have cc := comp_of (put := put1 2) (e := mBlt bLen (amCons (mV 2) amNil)) (ρ := [.fz (.seq .lst (col.map lookD)), .no, .no]) lookD (fun l => D.int l.length) .cl (fun _ => rfl) (cs := col) (fun l _ => by simp [put1, lookD])
  have e1 : col.map (fun l => D.int (l.length : Int)) = (lensI col).map .int := by unfold lensI; rw [List.map_map]; rfl
  rw [e1] at cc
  have hlen : (lensI col).length = col.length := by simp [lensI]
  have e2 : ((lensI col).map D.int).findIdx? (fun d => D.eqv d (.int m)) = some (shp col) := by
    rw [List.findIdx?_map, ← h2]
    rfl
  have e3 : ((lensI col).map D.int).all (D.lay 11) = true := by
    rw [List.all_eq_true]
    intro d hd
    obtain ⟨i, _, rfl⟩ := List.mem_map.mp hd
    simp [D.lay]
  have e4 : D.lay 11 (.int m) = true := by simp [D.lay]
  have e5 : intsOf ((lensI col).map D.int) = some (lensI col) := intsOf_is _
  obtain ⟨L, hL⟩ : ∃ L, L = (lensI col).map D.int := ⟨_, rfl⟩
  have hLl : L.length = col.length := by rw [hL, List.length_map, hlen]
  rw [← hL] at cc e2 e3 e5
  simp [shortest_pick, shortest_pick_b, noOw, cc, nl, hLl, e2, e4, e5, h1, nl2]
  rw [if_pos (List.all_eq_true.mp e3)]
  rfl
theorem signs_ahead_eq {cs : List (List Look)} {W : Nat} (g : WCol cs W) {c : Nat} (hc : c ≤ cs.length) : M.signs_ahead [colsD cs, .int c] = .ok (.int (saC cs c), false) := by
  have hl := g.s.len
  have hR : rgOk (c : Int) = true := rgOk_of (by omega) (by omega)
  have nl : c < lim := lt_lim (by omega)
  have cc := comp_of (put := put1 2) (e := mBlt bLen (amCons (mIx (mIx (mV 0) (mV 2)) (mCall M.shortest_pick (amCons (mIx (mV 0) (mV 2)) amNil))) amNil)) (ρ := [.fz (.seq .lst (cs.map colD)), .fz (.int c), .no])
    (fun k : Nat => D.int ((0 : Int) + k)) (fun k => D.int (shl (colAt cs k)).length) .cl (fun _ => rfl) (cs := List.range c) (fun k hk => by
      have hk' := List.mem_range.mp hk
      have ac := at_col (cs := cs) (c := k) (by omega)
      have hne : colAt cs k ≠ [] := g.ne _ (by unfold colAt; rw [getD_at _ (by omega)]; exact List.getElem_mem _)
      have sp := shortest_pick_eq hne (by have := g.s.col k; omega)
      obtain ⟨m, _, _, h3, _⟩ := shp_ok hne
      have al := at_look h3
      simp [put1, ac, sp, al, shl])
  have cc' : comp (put1 2) tmYes (mBlt bLen (amCons (mIx (mIx (mV 0) (mV 2)) (mCall M.shortest_pick (amCons (mIx (mV 0) (mV 2)) amNil))) amNil)) [.fz (.seq .lst (cs.map colD)), .fz (.int c), .no] (rangeL 0 c) = _ := cc
  have es : ∀ n, n ≤ cs.length → ((List.range n).map fun k => ((shl (colAt cs k)).length : Int)).sum = (saC cs n : Int) := by
    intro n
    induction n with
    | zero => intro _; rfl
    | succ n ih =>
      intro hn
      have := ih (by omega)
      rw [List.range_succ, List.map_append, List.sum_append, this]
      unfold saC
      rw [List.take_succ_eq_append_getElem (by omega), List.map_append, List.sum_append]
      simp only [List.map_cons, List.map_nil, List.sum_cons, List.sum_nil]
      unfold colAt
      rw [getD_at _ (by omega)]
      simp
  have e1 : (List.range c).map (fun k => D.int (shl (colAt cs k)).length) = ((List.range c).map fun k => ((shl (colAt cs k)).length : Int)).map .int := by rw [List.map_map]; rfl
  rw [e1] at cc'
  have e5 := intsOf_is ((List.range c).map fun k => ((shl (colAt cs k)).length : Int))
  have e6 := es c hc
  obtain ⟨L, hL⟩ : ∃ L, L = ((List.range c).map fun k => ((shl (colAt cs k)).length : Int)) := ⟨_, rfl⟩
  have hLl : L.length = c := by rw [hL]; simp
  rw [← hL] at cc' e5 e6
  obtain ⟨D', hD⟩ : ∃ D', D' = L.map D.int := ⟨_, rfl⟩
  have hDl : D'.length = c := by rw [hD, List.length_map, hLl]
  rw [← hD] at cc' e5
  unfold colsD
  simp [signs_ahead, signs_ahead_b, noOw, hR, cc', nl, e5, e6, hDl]
theorem is_sign_step_eq (p t : Pr) : M.is_sign_step [prD p, prD t] = .ok (.bl (decide (p.1 ≠ t.1 ∧ p.2 ≠ t.2)), false) := by
  have lay : ∀ x : Pl, D.lay 12 (plD x) = true := fun x => by simp [plD, D.lay]
  have eq : ∀ x y : Pl, dEqB (plD x) (plD y) = .ok (decide (x = y)) := fun x y => by
    have h1 : dEqS (plD x) (plD y) = none := rfl
    unfold dEqB
    rw [h1, lay, lay]
    have : D.eqv (plD x) (plD y) = decide (x = y) := by
      obtain ⟨a, b, c⟩ := x
      obtain ⟨a', b', c'⟩ := y
      rw [Bool.eq_iff_iff]
      simp [plD]
    rw [this]
    rfl
  have i0 : ∀ q : Pr, dIx (prD q) (.int 0) = .ok (plD q.1) := fun q => rfl
  have i1 : ∀ q : Pr, dIx (prD q) (.int 1) = .ok (plD q.2) := fun q => rfl
  simp [is_sign_step, is_sign_step_b, i0, i1, cNe, eq]
  by_cases h1 : p.1 = t.1 <;> by_cases h2 : p.2 = t.2 <;> simp [h1, h2]
end Law

end
end

section
set_option linter.all false
set_option maxRecDepth 100000
set_option maxHeartbeats 1000000
noncomputable section
namespace M
open Dm
def come_to_b : SM :=
    (smCome M.places_in M.first_pairs M.signs_ahead M.next_pairs M.is_sign_step fuel)
def come_to : FM := mFn 1 9 come_to_b
end M
namespace Law
open Dm M
theorem come_to_eq {cs : List (List Look)} {W : Nat} (g : WCol cs W) : ∃ C d, M.come_to [colsD cs] = .ok (.dit (C.map fun e => prD e.1) (C.map fun e => opD e.2), true) ∧ Come (wld cs W g) d C := by
  have hf : (wld cs W g).fs.length + (wld cs W g).dg * (wld cs W g).cap < fuel := fuel_of 64 (by have := (wld cs W g).lm; omega)
  obtain ⟨T, C, d, e1, e2, h⟩ := come_ex (w := wld cs W g) (nx := fun p => prsOf (M.next_pairs [colsD cs, prD p])) (st := fun p q => bitOf (M.is_sign_step [prD p, prD q]))
    (fun p v => by
      have := next_v g.s (p := p) v
      show prsOf (M.next_pairs [.seq .lst (cs.map colD), prD p]) = _
      rw [this]
      unfold prsOf
      simp
      rfl)
    (fun p t v ht => by
      show bitOf (M.is_sign_step [prD p, prD t]) = _
      rw [is_sign_step_eq]
      unfold bitOf
      show Res.ok (if decide (p.1 ≠ t.1 ∧ p.2 ≠ t.2) = true then 1 else 0) = Res.ok (stepP p t)
      unfold stepP
      congr 1
      by_cases z : p.1 ≠ t.1 ∧ p.2 ≠ t.2
      · rw [if_pos (decide_eq_true z), if_pos z]
      · rw [if_neg (by simpa using z), if_neg z]) (f := fuel) hf (sa' := fun i => natOf (M.signs_ahead [colsD cs, .int i]))
    (fun p hp => by
      obtain ⟨c, l, k, hc, _, _, rfl⟩ := firstP_at hp
      show natOf (M.signs_ahead [colsD cs, .int c]) = _
      rw [signs_ahead_eq g (by omega)]
      rfl)
  refine ⟨C, d, come_fn ?_, h⟩
  unfold comeF
  have hfp : prsOf (M.first_pairs [colsD cs]) = .ok (firstP cs) := by
    rw [first_pairs_eq cs g.s]
    unfold prsOf
    simp
  have hpl : natOf (M.places_in [colsD cs]) = .ok (plM cs) := by
    rw [places_in_eq, plN_M]
    rfl
  have e1' : comeFirst (fun i => natOf (M.signs_ahead [colsD cs, .int i])) (firstP cs) ⟨fun _ => none, 0⟩ = .ok T := e1
  have e2' : comeOut (fun p => prsOf (M.next_pairs [colsD cs, prD p])) (fun p q => bitOf (M.is_sign_step [prD p, prD q])) fuel (plM cs + 1) 0 [] T = .ok C := e2
  dsimp only
  rw [hfp, Res.bind_ok, e1', Res.bind_ok, hpl, Res.bind_ok, e2', Res.bind_ok]
end Law

end
end

section
set_option linter.all false
set_option maxRecDepth 100000
set_option maxHeartbeats 1000000
noncomputable section
namespace M
open Dm
def way_to_b : SM :=
    (smSeq (smSet 2 (mLst (amCons (mV 1) amNil)))
    (smSeq (smWhile (mTB (mCmp cNotN (mIxT (mV 0) (mIx (mV 2) (mNeg (mC (.int 1))))) (mC .non))) (smApp 2 (mIxT (mV 0) (mIx (mV 2) (mNeg (mC (.int 1)))))) fuel)
    (smRet (mRevL (mV 2)))))
def way_to : FM := mFn 2 1 way_to_b
end M
namespace Law
open Dm M
/-- a way: from a first pair on, each pair the one ahead of the next -/
inductive Way (C : List En) : List Pr → Pr → Prop
  | one {t : Pr} : (t, none) ∈ C → Way C [t] t
  | snoc {w : List Pr} {p t : Pr} : Way C w p → (t, some p) ∈ C → Way C (w ++ [t]) t
theorem keys_take {C : List En} {i : Nat} {p : Pr} (h : p ∈ keys (C.take i)) : ∃ j o, j < i ∧ C[j]? = some (p, o) := by
  unfold keys at h
  obtain ⟨x, hx, rfl⟩ := List.mem_map.mp h
  obtain ⟨j, hj⟩ := List.mem_iff_getElem?.mp hx
  have hlt : j < i := by
    have := (List.getElem?_eq_some_iff.mp hj).1
    rw [List.length_take] at this
    omega
  rw [List.getElem?_take, if_pos hlt] at hj
  exact ⟨j, x.2, hlt, hj⟩
theorem way_at {w : Wld} {d : Pr → Nat} {C : List En} (ch : ChainC w d C) : ∀ (n i : Nat) (e : En), i < n → C[i]? = some e → ∃ ws, Way C ws e.1 ∧ ws.length ≤ i + 1
  | 0, i, e, h, _ => absurd h (Nat.not_lt_zero _)
  | n + 1, i, e, h, he => by
    obtain ⟨t, o⟩ := e
    cases o with
    | none => exact ⟨[t], .one (List.mem_of_getElem? he), by simp⟩
    | some p =>
      obtain ⟨h1, _, _⟩ := (ch i _ he).2 p rfl
      obtain ⟨j, o', hj, hp⟩ := keys_take h1
      obtain ⟨ws, hw, hl⟩ := way_at ch n j (p, o') (by omega) hp
      exact ⟨ws ++ [t], .snoc hw (List.mem_of_getElem? he), by simp; omega⟩
theorem way_ex {w : Wld} {d : Pr → Nat} {C : List En} (h : Come w d C) {t : Pr} (ht : t ∈ keys C) : ∃ ws, Way C ws t ∧ ws.length ≤ C.length := by
  obtain ⟨e, he, rfl⟩ := List.mem_map.mp ht
  obtain ⟨i, hi⟩ := List.mem_iff_getElem?.mp he
  obtain ⟨ws, h1, h2⟩ := way_at h.ch (i + 1) i e (by omega) hi
  exact ⟨ws, h1, by have := (List.getElem?_eq_some_iff.mp hi).1; omega⟩
theorem find2_mem : ∀ {C : List En} {t : Pr} {o : Option Pr}, (keys C).Nodup → (t, o) ∈ C → find2 (keys C) (C.map fun e => opD e.2) t = some (opD o)
  | [], _, _, _, h => by cases h
  | e :: C, t, o, nd, h => by
    have nd' : ¬ e.1 ∈ keys C ∧ (keys C).Nodup := List.nodup_cons.mp nd
    show find2 (e.1 :: keys C) (opD e.2 :: C.map fun e => opD e.2) t = _
    unfold find2
    rcases List.mem_cons.mp h with rfl | h
    · rw [if_pos rfl]
    · have : ¬ e.1 = t := fun z => nd'.1 (z ▸ List.mem_map.mpr ⟨_, h, rfl⟩)
      rw [if_neg this]
      exact find2_mem nd'.2 h
theorem ixT_mem {C : List En} {t : Pr} {o : Option Pr} (nd : (keys C).Nodup) (h : (t, o) ∈ C) : ixT (.dit (C.map fun e => prD e.1) (C.map fun e => opD e.2)) (prD t) = .ok (opD o) := by
  have e : (C.map fun e => prD e.1) = (keys C).map prD := by unfold keys; rw [List.map_map]; rfl
  rw [e]
  unfold ixT
  dsimp only
  rw [asPrs_map, asPr_prD]
  dsimp only
  rw [find2_mem nd h]
theorem last_at (xs : List Dm.D) (x : Dm.D) : atI (xs ++ [x]) (-1) = some x := by
  have : ixN (xs ++ [x]).length (-1) = some xs.length := by
    unfold ixN
    simp
    omega
  unfold atI
  rw [this]
  simp
theorem way_inv {C : List En} {ws : List Pr} {t : Pr} (h : Way C ws t) : (ws = [t] ∧ (t, none) ∈ C) ∨ ∃ v p, ws = v ++ [t] ∧ Way C v p ∧ (t, some p) ∈ C := by
  cases h with
  | one h => exact .inl ⟨rfl, h⟩
  | snoc h1 h2 => exact .inr ⟨_, _, rfl, h1, h2⟩
theorem way_pos {C : List En} {ws : List Pr} {t : Pr} (h : Way C ws t) : 0 < ws.length := by
  cases h with
  | one h => simp
  | snoc h1 h2 => simp
def WInv (C : List En) (ws : List Pr) (E : Dm.D) (t : Pr) (ρ : Rho) : Prop := ∃ (V us : List Pr) (q : Pr), Way C V q ∧ V ++ us = ws ∧ ρ = [.fz E, .fz (prD t), .oo .lst ((us.reverse ++ [q]).map prD)]
theorem way_to_eq {C : List En} (nd : (keys C).Nodup) (hC : C.length < 1000000) {ws : List Pr} {t : Pr} (h : Way C ws t) (hl : ws.length ≤ C.length) : M.way_to [.dit (C.map fun e => prD e.1) (C.map fun e => opD e.2), prD t] = .ok (.seq .lst (ws.map prD), true) := by
  have l1 : 1 ≤ lim := le_lim (by decide)
  obtain ⟨E, hE⟩ : ∃ E : Dm.D, E = .dit (C.map fun e => prD e.1) (C.map fun e => opD e.2) := ⟨_, rfl⟩
  have ix : ∀ {t : Pr} {o : Option Pr}, (t, o) ∈ C → ixT E (prD t) = .ok (opD o) := fun h => by rw [hE]; exact ixT_mem nd h
  rw [← hE]
  simp only [way_to, way_to_b]
  simp [l1]
  refine qw_run (fun r => r = Res.ok (.seq .lst (ws.map prD), true)) (WInv C ws E t) (fun ρ => match ρ with
    | [_, _, .oo .lst ds] => ws.length - ds.length
    | _ => 0) (fun ρ => ρ = [.fz E, .fz (prD t), .oo .lst (ws.reverse.map prD)]) ⟨ws, [], t, h, by simp, by simp⟩ (fuel_of 64 (by simp; omega)) ?_ ?_
  · rintro ρ ⟨V, us, q, hV, rfl, rfl⟩
    obtain ⟨U, hU⟩ : ∃ U, U = us.reverse.map prD := ⟨_, rfl⟩
    have la := last_at U (prD q)
    have el : (us.reverse ++ [q]).map prD = U ++ [prD q] := by rw [List.map_append, hU]; rfl
    have eU : U.length = us.length := by rw [hU]; simp
    rw [el]
    rcases way_inv hV with ⟨rfl, h1⟩ | ⟨v, p, rfl, h1, h2⟩
    · left
      have hi := ix h1
      refine ⟨?_, by rw [hU]; simp⟩
      simp [la, hi, opD, cNotN]
    · right
      have hi := ix h2
      have hp : 0 < v.length := way_pos h1
      have hlen : us.length + 1 < lim := lt_lim (by simp at hl; omega)
      obtain ⟨P, hP⟩ : ∃ P, P = prD p := ⟨_, rfl⟩
      have hn : cNotN P .non = .ok true := by rw [hP]; rfl
      have hi' : ixT E (prD q) = .ok P := by rw [hi, hP]; rfl
      refine ⟨?_, ?_⟩
      · simp [la, hi', hn]
      · simp [la, hi', hlen, eU]
        refine ⟨⟨v, q :: us, p, h1, by simp, by rw [hP, hU]; simp⟩, by simp at hl; omega⟩
  · rintro ρ rfl
    simp
end Law

end
end

section
set_option linter.all false
set_option maxRecDepth 100000
set_option maxHeartbeats 1000000
noncomputable section
namespace M
open Dm
def told_by_b : SM :=
    (smSeq (smSet 2 (mIx (mIx (mIx (mV 1) (mC (.int 0))) (mC (.int 0))) (mC (.int 0))))
    (smSeq (smSet 3 (mComp (put1 4) [4] (wmR1 (mV 2)) tmYes (mCall M.shortest_pick (amCons (mIx (mV 0) (mV 4)) amNil))))
    (smSeq (smSet 5 (mList (amCons (mV 3) amNil)))
    (smSeq (smSet 6 (mC (.str [])))
    (smSeq (smFor (put1 4) (wmR1 (mV 2)) (smSet 6 (mB oAdd (mV 6) (mS1 fJoin (mC (.str [])) (mComp (put1 7) [7] (wmA (mIx (mIx (mV 0) (mV 4)) (mIx (mV 3) (mV 4)))) tmYes (mIx (mV 7) (mC (.int 0))))))))
    (smSeq (smFor (putT [8, 9]) (wmZip (mV 1) (mCut (mV 1) (mPart (mC (.int 1))) mNoP)) (smIf (mT (mCall M.is_sign_step (amCons (mV 8) (amCons (mV 9) amNil)))) (smSet 6 (mB oAdd (mV 6) (mCall M.shared_sign (amCons (mCall M.cell_next (amCons (mV 0) (amCons (mIx (mV 8) (mC (.int 0))) amNil))) (amCons (mCall M.cell_next (amCons (mV 0) (amCons (mIx (mV 8) (mC (.int 1))) amNil))) amNil))))) smSkip))
    (smSeq (smFor (put1 8) (wmA (mV 1)) (smSeq (smIf (tmAnd (mTB (mCmp cEq (mIx (mIx (mV 8) (mC (.int 0))) (mC (.int 0))) (mBlt bLen (amCons (mV 3) amNil)))) (mTB (mCmp cLt (mBlt bLen (amCons (mV 3) amNil)) (mBlt bLen (amCons (mV 0) amNil))))) (smApp 3 (mIx (mIx (mV 8) (mC (.int 0))) (mC (.int 1)))) smSkip)
    (smIf (tmAnd (mTB (mCmp cEq (mIx (mIx (mV 8) (mC (.int 1))) (mC (.int 0))) (mBlt bLen (amCons (mV 5) amNil)))) (mTB (mCmp cLt (mBlt bLen (amCons (mV 5) amNil)) (mBlt bLen (amCons (mV 0) amNil))))) (smApp 5 (mIx (mIx (mV 8) (mC (.int 1))) (mC (.int 1)))) smSkip)))
    (smFrz 5 (smFrz 3 (smRet (mTup (amCons (mV 6) (amCons (mV 3) (amCons (mV 5) amNil))))))))))))))
def told_by : FM := mFn 2 8 told_by_b
end M
namespace Law
open Dm M
/-- the text's middle: a shared sign for each step of signs -/
inductive MidT (cs : List (List Look)) : List (Pr × Pr) → List Nat → Prop
  | nil : MidT cs [] []
  | stay {zs : List (Pr × Pr)} {m : List Nat} {p t : Pr} : MidT cs zs m → stepP p t = 0 → MidT cs (zs ++ [(p, t)]) m
  | sign {zs : List (Pr × Pr)} {m : List Nat} {c l q c' l' q' : Nat} {z : Nat} {x y : List Nat} : MidT cs zs m → stepP (pl c l q, pl c' l' q') (pl c l (q + 1), pl c' l' (q' + 1)) = 1 → cellO cs c l q = some x → cellO cs c' l' q' = some y → z ∈ x → z ∈ y →
      MidT cs (zs ++ [((pl c l q, pl c' l' q'), (pl c l (q + 1), pl c' l' (q' + 1)))]) (m ++ [z])
def preT (cs : List (List Look)) (n : Nat) : List Nat := (List.range n).flatMap fun k => (shl (colAt cs k)).map fun t => t.headD 0
def picks0 (cs : List (List Look)) (n : Nat) : List Int := (List.range n).map fun k => ((shp (colAt cs k) : Nat) : Int)
def pckF (n : Nat) (acc : List Int) (x : Pl) : List Int := if x.1 = (acc.length : Int) ∧ acc.length < n then acc ++ [x.2.1] else acc
def picksW (cs : List (List Look)) (n : Nat) (xs : List Pl) : List Int := xs.foldl (pckF cs.length) (picks0 cs n)
theorem preT_succ (cs : List (List Look)) (n : Nat) : preT cs (n + 1) = preT cs n ++ (shl (colAt cs n)).map fun t => t.headD 0 := fm_succ _ _
theorem preT_len (cs : List (List Look)) : ∀ n, n ≤ cs.length → (preT cs n).length = saC cs n
  | 0, _ => rfl
  | n + 1, h => by
    rw [preT_succ, List.length_append, preT_len cs n (by omega), List.length_map]
    unfold saC
    rw [List.take_succ_eq_append_getElem (by omega), List.map_append, List.sum_append]
    unfold colAt
    rw [getD_at _ (by omega)]
    simp
theorem pckF_len {n : Nat} {acc : List Int} {x : Pl} (h : acc.length ≤ n) : (pckF n acc x).length ≤ n := by
  unfold pckF
  split
  · rw [List.length_append, List.length_singleton]; omega
  · exact h
theorem picks_len {n : Nat} : ∀ {xs : List Pl} {acc : List Int}, acc.length ≤ n → (xs.foldl (pckF n) acc).length ≤ n
  | [], acc, h => h
  | x :: xs, acc, h => picks_len (xs := xs) (pckF_len h)
theorem sign_share {cs : List (List Look)} {p t : Pr} (v : VPr cs p) (h : t ∈ nxt cs p) (h1 : p.1 ≠ t.1) (h2 : p.2 ≠ t.2) :
    ∃ c l q c' l' q', p = (pl c l q, pl c' l' q') ∧ t = (pl c l (q + 1), pl c' l' (q' + 1)) ∧ VP cs c l q ∧ VP cs c' l' q' ∧ shareB (cellO cs c l q) (cellO cs c' l' q') = true := by
  obtain ⟨c, l, q, c', l', q', v1, v2, rfl⟩ := v
  rw [nxt_pl] at h
  unfold nxP at h
  rcases List.mem_append.mp h with h | h
  · rcases List.mem_append.mp h with h | h
    · obtain ⟨x, _, rfl⟩ := List.mem_map.mp h
      exact absurd rfl h2
    · obtain ⟨x, _, rfl⟩ := List.mem_map.mp h
      exact absurd rfl h1
  · split at h
    · rename_i hs
      exact ⟨c, l, q, c', l', q', rfl, List.mem_singleton.mp h, v1, v2, hs⟩
    · cases h
theorem flat1s (zs : List Nat) : (zs.map fun z => [z]).flatten = zs := by
  induction zs with
  | nil => rfl
  | cons z zs ih => rw [List.map_cons, List.flatten_cons, ih]; rfl
theorem shl_cell {cs : List (List Look)} {W : Nat} (g : WCol cs W) (hne : ∀ c l, ∀ t ∈ lookAt cs c l, t ≠ []) {c : Nat} (hc : c < cs.length) : ∀ t ∈ shl (colAt cs c), t ≠ [] ∧ t.length ≤ 4 := fun t ht => by
  obtain ⟨q, hq, rfl⟩ := List.mem_iff_getElem.mp ht
  have hcol : colAt cs c ≠ [] := g.ne _ (by unfold colAt; rw [getD_at _ hc]; exact List.getElem_mem _)
  obtain ⟨m, _, _, h3, _⟩ := shp_ok hcol
  have hl : lookAt cs c (shp (colAt cs c)) = shl (colAt cs c) := rfl
  have hco : cellO cs c (shp (colAt cs c)) q = some ((shl (colAt cs c))[q]) := by
    unfold cellO
    rw [hl, if_neg (by omega), getD_at _ hq]
  exact ⟨hne c (shp (colAt cs c)) _ (List.getElem_mem hq), (g.cell _ _ _ _ hco).1⟩
theorem told_pre {cs : List (List Look)} {W : Nat} (g : WCol cs W) (hne : ∀ c l, ∀ t ∈ lookAt cs c l, t ≠ []) {c0 : Nat} (hc0 : c0 ≤ cs.length) (X : Dm.D) {β : Type} {f : Out → Res β} (Q : Res β → Prop) (s4 : Sl)
    (k : ∀ s4, Q (f (.nx [.fz (.seq .lst (cs.map colD)), .fz X, .fz (.int c0), .oo .lst ((picks0 cs c0).map .int), s4, .oo .lst ((picks0 cs c0).map .int), .fz (.str (preT cs c0)), .no, .no, .no]))) :
    Q ((turns (put1 4) (smSet 6 (mB oAdd (mV 6) (mS1 fJoin (mC (.str [])) (mComp (put1 7) [7] (wmA (mIx (mIx (mV 0) (mV 4)) (mIx (mV 3) (mV 4)))) tmYes (mIx (mV 7) (mC (.int 0))))))) (rangeL 0 c0)
      [.fz (.seq .lst (cs.map colD)), .fz X, .fz (.int c0), .oo .lst ((picks0 cs c0).map .int), s4, .oo .lst ((picks0 cs c0).map .int), .fz (.str []), .no, .no, .no]).bind f) := by
  refine t_run Q (fun i ρ => ∃ s4, ρ = [.fz (.seq .lst (cs.map colD)), .fz X, .fz (.int c0), .oo .lst ((picks0 cs c0).map .int), s4, .oo .lst ((picks0 cs c0).map .int), .fz (.str (preT cs i)), .no, .no, .no]) ⟨s4, rfl⟩ ?_ ?_
  · rintro i d ρ hd ⟨s4, rfl⟩
    obtain ⟨hi, rfl⟩ := rangeL_get hd
    have ac := at_col (cs := cs) (c := i) (by omega)
    have hcol : colAt cs i ≠ [] := g.ne _ (by unfold colAt; rw [getD_at _ (by omega)]; exact List.getElem_mem _)
    obtain ⟨m, _, _, h3, _⟩ := shp_ok hcol
    have al := at_look h3
    have ep : (shl (colAt cs i)) = (colAt cs i).getD (shp (colAt cs i)) [] := rfl
    rw [← ep] at al
    have one : atI ((picks0 cs c0).map Dm.D.int) (i : Int) = some (.int (shp (colAt cs i))) := by
      have := atI_nat (xs := (picks0 cs c0).map Dm.D.int) (i := i) (by simp [picks0]; omega)
      rw [this]
      simp [picks0]
    have cell := shl_cell g hne (c := i) (by omega)
    have hsz : (shl (colAt cs i)).length ≤ 1000 := g.s.look i (shp (colAt cs i))
    have p1 := preT_len cs i (by omega)
    have p2 := Nat.le_trans (saC_le g.ne i) (szS_le cs i)
    have p3 := g.pn
    obtain ⟨L, hL⟩ : ∃ L, L = shl (colAt cs i) := ⟨_, rfl⟩
    obtain ⟨T, hT⟩ : ∃ T, T = preT cs i := ⟨_, rfl⟩
    obtain ⟨P, hP⟩ : ∃ P, P = (picks0 cs c0).map Dm.D.int := ⟨_, rfl⟩
    rw [preT_succ]
    rw [← hL] at al cell hsz ⊢
    rw [← hT] at p1 ⊢
    rw [← hP] at one ⊢
    have cc := comp_of (put := put1 7) (e := mIx (mV 7) (mC (.int 0))) (ρ := [.fz (.seq .lst (cs.map colD)), .fz X, .fz (.int c0), .oo .lst P, .fz (.int i), .oo .lst P, .fz (.str T), .no, .no, .no])
      D.str (fun t => D.str [t.headD 0]) .cl (fun _ => rfl) (cs := L) (fun t ht => by
        obtain ⟨y, ys, rfl⟩ := List.exists_cons_of_ne_nil (cell t ht).1
        have yl : ys.length + 1 ≤ lim := le_lim (by have := (cell _ ht).2; simp at this; omega)
        have a0 : atI (y :: ys) 0 = some y := by have := atI_nat (xs := y :: ys) (i := 0) (by simp); simpa using this
        simp [put1, dIx, a0, yl])
    have e5 : L.map (fun t => D.str [t.headD 0]) = ((L.map fun t => t.headD 0).map fun z => [z]).map .str := by rw [List.map_map, List.map_map]; rfl
    rw [e5] at cc
    have so := strsOf_map ((L.map fun t => t.headD 0).map fun z => [z])
    have fl := flat1s (L.map fun t => t.headD 0)
    obtain ⟨Z, hZ⟩ : ∃ Z, Z = L.map fun t => t.headD 0 := ⟨_, rfl⟩
    have hZl : Z.length = L.length := by rw [hZ, List.length_map]
    rw [← hZ] at cc so fl ⊢
    obtain ⟨Y, hY⟩ : ∃ Y, Y = Z.map fun z => [z] := ⟨_, rfl⟩
    have hYl : Y.length = L.length := by rw [hY, List.length_map, hZl]
    rw [← hY] at cc so fl
    have k1 : Z.length ≤ lim := le_lim (by omega)
    have k2 : T.length + Z.length ≤ lim := le_lim (by omega)
    have k3 : L.length < lim := lt_lim (by omega)
    have k4 : L.length ≤ lim := le_lim (by omega)
    simp [put1, ac, one, al, noOw, cc, fJoin, so, fl, k1, k2, k3, k4, hYl, -List.length_flatten]
  · rintro ρ ⟨s4, rfl⟩
    rw [rangeL_len]
    exact k s4
theorem ix0 (q : Pr) : dIx (prD q) (.int 0) = .ok (plD q.1) := id rfl
theorem ix1 (q : Pr) : dIx (prD q) (.int 1) = .ok (plD q.2) := id rfl
theorem jx0 (x : Pl) : dIx (plD x) (.int 0) = .ok (.int x.1) := id rfl
theorem jx1 (x : Pl) : dIx (plD x) (.int 1) = .ok (.int x.2.1) := id rfl
theorem told_mid {cs : List (List Look)} {W : Nat} (g : WCol cs W) {ws : List Pr} (hv : ∀ p ∈ ws, VPr cs p) (hs : ∀ (i : Nat) (p t : Pr), ws[i]? = some p → ws[i + 1]? = some t → t ∈ nxt cs p) (hl : ws.length ≤ 1000000) (X : Dm.D) (s2 s3 s4 s5 : Sl) (T : List Nat) (hT : T.length ≤ 1000) (s7 : Sl)
    {β : Type} {f : Out → Res β} (Q : Res β → Prop)
    (k : ∀ (m : List Nat) (s8 s9 : Sl), MidT cs (ws.zip (ws.drop 1)) m → m.length ≤ ws.length → Q (f (.nx [.fz (.seq .lst (cs.map colD)), .fz X, s2, s3, s4, s5, .fz (.str (T ++ m)), s7, s8, s9]))) :
    Q ((turns (putT [8, 9]) (smIf (mT (mCall M.is_sign_step (amCons (mV 8) (amCons (mV 9) amNil)))) (smSet 6 (mB oAdd (mV 6) (mCall M.shared_sign (amCons (mCall M.cell_next (amCons (mV 0) (amCons (mIx (mV 8) (mC (.int 0))) amNil))) (amCons (mCall M.cell_next (amCons (mV 0) (amCons (mIx (mV 8) (mC (.int 1))) amNil))) amNil))))) smSkip)
      ((ws.zip (ws.drop 1)).map fun z => .seq .tup [prD z.1, prD z.2])
      [.fz (.seq .lst (cs.map colD)), .fz X, s2, s3, s4, s5, .fz (.str T), s7, .no, .no]).bind f) := by
  obtain ⟨zs, hz⟩ : ∃ zs, zs = ws.zip (ws.drop 1) := ⟨_, rfl⟩
  have hzl : zs.length ≤ ws.length := by rw [hz, List.length_zip]; omega
  rw [← hz] at k ⊢
  refine t_run Q (fun i ρ => ∃ m s8 s9, MidT cs (zs.take i) m ∧ m.length ≤ i ∧ ρ = [.fz (.seq .lst (cs.map colD)), .fz X, s2, s3, s4, s5, .fz (.str (T ++ m)), s7, s8, s9]) ⟨[], .no, .no, .nil, by simp, by simp⟩ ?_ ?_
  · rintro i d ρ hd ⟨m, s8, s9, hm, hml, rfl⟩
    rw [List.getElem?_map] at hd
    obtain ⟨⟨p, t⟩, hpt, rfl⟩ := Option.map_eq_some_iff.mp hd
    obtain ⟨hi, ep⟩ := List.getElem?_eq_some_iff.mp hpt
    have et : zs.take (i + 1) = zs.take i ++ [(p, t)] := by rw [List.take_succ_eq_append_getElem hi, ep]
    have hpt2 : ws[i]? = some p ∧ ws[i + 1]? = some t := by
      rw [hz] at hpt
      have := List.getElem?_zip_eq_some.mp hpt
      refine ⟨this.1, ?_⟩
      have h2 := this.2
      rw [List.getElem?_drop] at h2
      rwa [Nat.add_comm 1 i] at h2
    have hn := hs i p t hpt2.1 hpt2.2
    have vp := hv p (List.mem_of_getElem? hpt2.1)
    have st := is_sign_step_eq p t
    rw [et]
    by_cases hst : p.1 ≠ t.1 ∧ p.2 ≠ t.2
    · have hst1 : stepP p t = 1 := if_pos hst
      rw [decide_eq_true hst] at st
      obtain ⟨c, l, q, c', l', q', rfl, rfl, v1, v2, sh⟩ := sign_share vp hn hst.1 hst.2
      have cn1 : M.cell_next [.seq .lst (cs.map colD), plD (pl c l q)] = _ := cell_next_eq cs c l q v1
      have cn2 : M.cell_next [.seq .lst (cs.map colD), plD (pl c' l' q')] = _ := cell_next_eq cs c' l' q' v2
      obtain ⟨d, e, h⟩ := shared_sign_ex (cellO cs c l q) (cellO cs c' l' q')
      rcases h with ⟨_, z, rfl, ⟨x, hx, hzx⟩, y, hy, hzy⟩ | ⟨h, _⟩
      · have hlen : T.length + m.length + 1 ≤ lim := le_lim (by omega)
        have hlen2 : T.length + (m.length + 1) ≤ lim := le_lim (by omega)
        have i0 := ix0 (pl c l q, pl c' l' q')
        have i1 := ix1 (pl c l q, pl c' l' q')
        obtain ⟨P, hP⟩ : ∃ P, P = prD (pl c l q, pl c' l' q') := ⟨_, rfl⟩
        obtain ⟨P', hP'⟩ : ∃ P', P' = prD (pl c l (q + 1), pl c' l' (q' + 1)) := ⟨_, rfl⟩
        obtain ⟨X1, hX1⟩ : ∃ X1, X1 = plD (pl c l q) := ⟨_, rfl⟩
        obtain ⟨X2, hX2⟩ : ∃ X2, X2 = plD (pl c' l' q') := ⟨_, rfl⟩
        obtain ⟨c1, hc1⟩ : ∃ c1, c1 = cellD (cellO cs c l q) := ⟨_, rfl⟩
        obtain ⟨c2, hc2⟩ : ∃ c2, c2 = cellD (cellO cs c' l' q') := ⟨_, rfl⟩
        dsimp only
        rw [← hX1, ← hc1] at cn1
        rw [← hX2, ← hc2] at cn2
        rw [← hc1, ← hc2] at e
        simp only [] at i0 i1
        rw [← hP, ← hX1] at i0
        rw [← hP, ← hX2] at i1
        rw [← hP, ← hP'] at st ⊢
        simp [putT, putAll, st, i0, i1, cn1, cn2, e, hlen, hlen2]
        exact ⟨.sign hm hst1 hx hy hzx hzy, by omega⟩
      · rw [h] at sh
        cases sh
    · have hst0 : stepP p t = 0 := if_neg hst
      rw [decide_eq_false hst] at st
      obtain ⟨P, hP⟩ : ∃ P, P = prD p := ⟨_, rfl⟩
      obtain ⟨P', hP'⟩ : ∃ P', P' = prD t := ⟨_, rfl⟩
      dsimp only
      rw [← hP, ← hP'] at st ⊢
      simp [putT, putAll, st]
      exact ⟨.stay hm hst0, by omega⟩
  · rintro ρ ⟨m, s8, s9, hm, hml, rfl⟩
    rw [List.length_map, List.take_length] at hm
    rw [List.length_map] at hml
    exact k m s8 s9 hm (by omega)
theorem told_pick {cs : List (List Look)} {ws : List Pr} (hn : cs.length ≤ 1000) (X : Dm.D) (s2 s4 s6 s7 s8 s9 : Sl) (P0 Q0 : List Int) (hP : P0.length ≤ cs.length) (hQ : Q0.length ≤ cs.length)
    {β : Type} {f : Out → Res β} (Q : Res β → Prop)
    (k : ∀ (s8 : Sl), Q (f (.nx [.fz (.seq .lst (cs.map colD)), .fz X, s2, .oo .lst (((ws.map Prod.fst).foldl (pckF cs.length) P0).map .int), s4, .oo .lst (((ws.map Prod.snd).foldl (pckF cs.length) Q0).map .int), s6, s7, s8, s9]))) :
    Q ((turns (put1 8) (smSeq (smIf (tmAnd (mTB (mCmp cEq (mIx (mIx (mV 8) (mC (.int 0))) (mC (.int 0))) (mBlt bLen (amCons (mV 3) amNil)))) (mTB (mCmp cLt (mBlt bLen (amCons (mV 3) amNil)) (mBlt bLen (amCons (mV 0) amNil))))) (smApp 3 (mIx (mIx (mV 8) (mC (.int 0))) (mC (.int 1)))) smSkip)
    (smIf (tmAnd (mTB (mCmp cEq (mIx (mIx (mV 8) (mC (.int 1))) (mC (.int 0))) (mBlt bLen (amCons (mV 5) amNil)))) (mTB (mCmp cLt (mBlt bLen (amCons (mV 5) amNil)) (mBlt bLen (amCons (mV 0) amNil))))) (smApp 5 (mIx (mIx (mV 8) (mC (.int 1))) (mC (.int 1)))) smSkip)) (ws.map prD)
      [.fz (.seq .lst (cs.map colD)), .fz X, s2, .oo .lst (P0.map .int), s4, .oo .lst (Q0.map .int), s6, s7, s8, s9]).bind f) := by
  refine t_run Q (fun i ρ => ∃ s8, ρ = [.fz (.seq .lst (cs.map colD)), .fz X, s2, .oo .lst ((((ws.take i).map Prod.fst).foldl (pckF cs.length) P0).map .int), s4, .oo .lst ((((ws.take i).map Prod.snd).foldl (pckF cs.length) Q0).map .int), s6, s7, s8, s9]) ⟨s8, by simp⟩ ?_ ?_
  · rintro i d ρ hd ⟨s8, rfl⟩
    rw [List.getElem?_map] at hd
    obtain ⟨p, hp, rfl⟩ := Option.map_eq_some_iff.mp hd
    obtain ⟨hi, ep⟩ := List.getElem?_eq_some_iff.mp hp
    have et : ws.take (i + 1) = ws.take i ++ [p] := by rw [List.take_succ_eq_append_getElem hi, ep]
    rw [et, List.map_append, List.map_append, List.foldl_append, List.foldl_append]
    have lA := picks_len (n := cs.length) (xs := (ws.take i).map Prod.fst) hP
    have lB := picks_len (n := cs.length) (xs := (ws.take i).map Prod.snd) hQ
    obtain ⟨A, hA⟩ : ∃ A, A = ((ws.take i).map Prod.fst).foldl (pckF cs.length) P0 := ⟨_, rfl⟩
    obtain ⟨B, hB⟩ : ∃ B, B = ((ws.take i).map Prod.snd).foldl (pckF cs.length) Q0 := ⟨_, rfl⟩
    rw [← hA] at lA ⊢
    rw [← hB] at lB ⊢
    have kA : A.length < lim := lt_lim (by omega)
    have kB : B.length < lim := lt_lim (by omega)
    have eA : ((List.map Prod.fst [p]).foldl (pckF cs.length) A).map Dm.D.int = if p.1.1 = (A.length : Int) ∧ A.length < cs.length then A.map Dm.D.int ++ [.int p.1.2.1] else A.map Dm.D.int := by
      show (pckF cs.length A p.1).map Dm.D.int = _
      unfold pckF
      split <;> simp
    have eB : ((List.map Prod.snd [p]).foldl (pckF cs.length) B).map Dm.D.int = if p.2.1 = (B.length : Int) ∧ B.length < cs.length then B.map Dm.D.int ++ [.int p.2.2.1] else B.map Dm.D.int := by
      show (pckF cs.length B p.2).map Dm.D.int = _
      unfold pckF
      split <;> simp
    rw [eA, eB]
    have i0 := ix0 p
    have i1 := ix1 p
    have j00 := jx0 p.1
    have j01 := jx1 p.1
    have j10 := jx0 p.2
    have j11 := jx1 p.2
    obtain ⟨P, hPP⟩ : ∃ P, P = prD p := ⟨_, rfl⟩
    obtain ⟨X1, hX1⟩ : ∃ X1, X1 = plD p.1 := ⟨_, rfl⟩
    obtain ⟨X2, hX2⟩ : ∃ X2, X2 = plD p.2 := ⟨_, rfl⟩
    rw [← hPP, ← hX1] at i0
    rw [← hPP, ← hX2] at i1
    rw [← hX1] at j00 j01
    rw [← hX2] at j10 j11
    rw [← hPP]
    obtain ⟨A', hA'⟩ : ∃ A', A' = A.map Dm.D.int := ⟨_, rfl⟩
    obtain ⟨B', hB'⟩ : ∃ B', B' = B.map Dm.D.int := ⟨_, rfl⟩
    have lA' : A'.length = A.length := by rw [hA', List.length_map]
    have lB' : B'.length = B.length := by rw [hB', List.length_map]
    rw [← hA', ← hB']
    by_cases a1 : p.1.1 = (A.length : Int) <;> by_cases a2 : A.length < cs.length <;> by_cases b1 : p.2.1 = (B.length : Int) <;> by_cases b2 : B.length < cs.length <;>
      simp [put1, i0, i1, j00, j01, j10, j11, lA', lB', a1, a2, b1, b2, kA, kB]
  · rintro ρ ⟨s8, rfl⟩
    rw [List.length_map, List.take_length]
    exact k s8
theorem told_by_eq {cs : List (List Look)} {W : Nat} (g : WCol cs W) (hne : ∀ c l, ∀ t ∈ lookAt cs c l, t ≠ []) {ws : List Pr} {c0 a b : Nat} (h0 : ws[0]? = some (pl c0 a 0, pl c0 b 0)) (hc0 : c0 ≤ cs.length) (hv : ∀ p ∈ ws, VPr cs p)
    (hs : ∀ (i : Nat) (p t : Pr), ws[i]? = some p → ws[i + 1]? = some t → t ∈ nxt cs p) (hl : ws.length ≤ 1000000) :
    ∃ m, MidT cs (ws.zip (ws.drop 1)) m ∧ m.length ≤ ws.length ∧ M.told_by [colsD cs, .seq .lst (ws.map prD)] = .ok (.seq .tup [.str (preT cs c0 ++ m), .seq .lst ((picksW cs c0 (ws.map Prod.fst)).map .int), .seq .lst ((picksW cs c0 (ws.map Prod.snd)).map .int)], false) := by
  have hcl := g.s.len
  have hR : rgOk (c0 : Int) = true := rgOk_of (by omega) (by omega)
  have l3 : 3 ≤ lim := le_lim (by decide)
  have nl : c0 < lim := lt_lim (by omega)
  have nl2 : c0 ≤ lim := le_lim (by omega)
  have a0 : atI (ws.map prD) 0 = some (prD (pl c0 a 0, pl c0 b 0)) := by
    have hlt := (List.getElem?_eq_some_iff.mp h0).1
    have := atI_nat (xs := ws.map prD) (i := 0) (by simpa using hlt)
    have e : ((0 : Nat) : Int) = 0 := rfl
    rw [e] at this
    rw [this, List.getElem_map, (List.getElem?_eq_some_iff.mp h0).2]
  have i0 := ix0 (pl c0 a 0, pl c0 b 0)
  have j0 := jx0 (pl c0 a 0)
  have d0 : dIx (.seq .lst (ws.map prD)) (.int 0) = .ok (prD (pl c0 a 0, pl c0 b 0)) := by
    show (match atI (ws.map prD) 0 with | some d => Res.ok d | none => .bad) = _
    rw [a0]
  have cc := comp_of (put := put1 4) (e := mCall M.shortest_pick (amCons (mIx (mV 0) (mV 4)) amNil)) (ρ := [.fz (.seq .lst (cs.map colD)), .fz (.seq .lst (ws.map prD)), .fz (.int c0), .no, .no, .no, .no, .no, .no, .no])
    (fun k : Nat => D.int ((0 : Int) + k)) (fun k => D.int (shp (colAt cs k))) .cl (fun _ => rfl) (cs := List.range c0) (fun k hk => by
      have hk' := List.mem_range.mp hk
      have ac := at_col (cs := cs) (c := k) (by omega)
      have hcol : colAt cs k ≠ [] := g.ne _ (by unfold colAt; rw [getD_at _ (by omega)]; exact List.getElem_mem _)
      have sp := shortest_pick_eq hcol (by have := g.s.col k; omega)
      simp [put1, ac, sp])
  have cc' : comp (put1 4) tmYes (mCall M.shortest_pick (amCons (mIx (mV 0) (mV 4)) amNil)) [.fz (.seq .lst (cs.map colD)), .fz (.seq .lst (ws.map prD)), .fz (.int c0), .no, .no, .no, .no, .no, .no, .no] (rangeL 0 c0) = _ := cc
  have e1 : (List.range c0).map (fun k => D.int (shp (colAt cs k))) = (picks0 cs c0).map .int := by unfold picks0; rw [List.map_map]; rfl
  rw [e1] at cc'
  have pl0 : (picks0 cs c0).length = c0 := by simp [picks0]
  suffices key : ∀ R : Res (D × Bool) → Prop, (∀ m, MidT cs (ws.zip (ws.drop 1)) m → m.length ≤ ws.length → R (.ok (.seq .tup [.str (preT cs c0 ++ m), .seq .lst ((picksW cs c0 (ws.map Prod.fst)).map .int), .seq .lst ((picksW cs c0 (ws.map Prod.snd)).map .int)], false))) → R (M.told_by [colsD cs, .seq .lst (ws.map prD)]) from
    key (fun r => ∃ m, MidT cs (ws.zip (ws.drop 1)) m ∧ m.length ≤ ws.length ∧ r = .ok (.seq .tup [.str (preT cs c0 ++ m), .seq .lst ((picksW cs c0 (ws.map Prod.fst)).map .int), .seq .lst ((picksW cs c0 (ws.map Prod.snd)).map .int)], false)) fun m h1 h2 => ⟨m, h1, h2, rfl⟩
  intro R hRR
  have p1 := preT_len cs c0 hc0
  have p2 := Nat.le_trans (saC_le g.ne c0) (szS_le cs c0)
  have p3 := g.pn
  have cut : cutL (ws.map prD) (some 1) none = (ws.drop 1).map prD := by
    unfold cutL sIx
    simp
    by_cases h : 1 ≤ ws.length
    · rw [Nat.min_eq_left h, List.drop_one]
      exact List.take_of_length_le (by simp)
    · have : ws = [] := List.eq_nil_of_length_eq_zero (by omega)
      rw [this]
      simp
  have zz : zipD (ws.map prD) ((ws.drop 1).map prD) = (ws.zip (ws.drop 1)).map fun z => .seq .tup [prD z.1, prD z.2] := by
    unfold zipD
    rw [List.zip_map, List.map_map]
    rfl
  have zz2 : zipD (ws.map prD) (ws.map prD).tail = (ws.zip (ws.drop 1)).map fun z => .seq .tup [prD z.1, prD z.2] := by
    rw [← zz, List.map_drop, List.drop_one]
  obtain ⟨P, hP⟩ : ∃ P, P = prD (pl c0 a 0, pl c0 b 0) := ⟨_, rfl⟩
  rw [← hP] at i0 d0
  simp only [told_by, told_by_b, colsD]
  have k1 : ((picks0 cs c0).map Dm.D.int).length ≤ lim := by rw [List.length_map, pl0]; exact nl2
  obtain ⟨P0, hP0⟩ : ∃ P0, P0 = (picks0 cs c0).map Dm.D.int := ⟨_, rfl⟩
  have hP0l : P0.length = c0 := by rw [hP0, List.length_map, pl0]
  rw [← hP0] at cc' k1
  simp [d0, i0, j0, noOw, hR, cc', nl, nl2, hP0l]
  rw [hP0]
  refine told_pre g hne hc0 (.seq .lst (ws.map prD)) (fun r => R r.fin) _ fun s4 => ?_
  simp [cut, wmZip, slot2, -List.map_drop]
  rw [zz2]
  refine told_mid g hv hs hl (.seq .lst (ws.map prD)) _ _ _ _ (preT cs c0) (by omega) _ (fun r => R r.fin) fun m s8 s9 hm hml => ?_
  simp
  refine told_pick (by omega) (.seq .lst (ws.map prD)) _ _ _ _ _ _ (picks0 cs c0) (picks0 cs c0) (by omega) (by omega) (fun r => R r.fin) fun s8 => ?_
  have := hRR m hm hml
  simp [frz, l3]
  exact this
end Law

end
end

section
set_option linter.all false
set_option maxRecDepth 100000
set_option maxHeartbeats 1000000
noncomputable section
namespace Law
open Dm M
theorem ltPl_iff (x y : Pl) : ltPl x y = true ↔ x.1 < y.1 ∨ (x.1 = y.1 ∧ (x.2.1 < y.2.1 ∨ (x.2.1 = y.2.1 ∧ x.2.2 < y.2.2))) := by
  obtain ⟨a, b, c⟩ := x
  obtain ⟨a', b', c'⟩ := y
  unfold ltPl
  dsimp only
  split
  · split
    · rw [decide_eq_true_eq]; omega
    · rw [decide_eq_true_eq]; omega
  · rw [decide_eq_true_eq]; omega
theorem ltPl_tri (x y : Pl) : ltPl x y = true ∨ x = y ∨ ltPl y x = true := by
  rw [ltPl_iff, ltPl_iff]
  obtain ⟨a, b, c⟩ := x
  obtain ⟨a', b', c'⟩ := y
  simp only [Prod.mk.injEq]
  omega
theorem ltPl_trans {x y z : Pl} (h : ltPl x y = true) (k : ltPl y z = true) : ltPl x z = true := by
  rw [ltPl_iff] at *
  omega
theorem ltPl_irr {x : Pl} : ¬ ltPl x x = true := by
  rw [ltPl_iff]
  omega
theorem ltP_iff (p q : Pr) : ltP p q = true ↔ ltPl p.1 q.1 = true ∨ (p.1 = q.1 ∧ ltPl p.2 q.2 = true) := by
  unfold ltP
  split
  · rename_i e
    constructor
    · exact fun h => .inr ⟨e, h⟩
    · rintro (h | ⟨_, h⟩)
      · rw [e] at h; exact absurd h ltPl_irr
      · exact h
  · rename_i e
    constructor
    · exact .inl
    · rintro (h | ⟨h, _⟩)
      · exact h
      · exact absurd h e
theorem ltP_tri (p q : Pr) : ltP p q = true ∨ p = q ∨ ltP q p = true := by
  rw [ltP_iff, ltP_iff]
  rcases ltPl_tri p.1 q.1 with h | h | h
  · exact .inl (.inl h)
  · rcases ltPl_tri p.2 q.2 with k | k | k
    · exact .inl (.inr ⟨h, k⟩)
    · exact .inr (.inl (Prod.ext h k))
    · exact .inr (.inr (.inr ⟨h.symm, k⟩))
  · exact .inr (.inr (.inl h))
theorem ltP_trans {p q r : Pr} (h : ltP p q = true) (k : ltP q r = true) : ltP p r = true := by
  rw [ltP_iff] at *
  rcases h with h | ⟨h, h'⟩ <;> rcases k with k | ⟨k, k'⟩
  · exact .inl (ltPl_trans h k)
  · exact .inl (k ▸ h)
  · exact .inl (h ▸ k)
  · exact .inr ⟨h.trans k, ltPl_trans h' k'⟩
theorem ltP_irr {p : Pr} : ¬ ltP p p = true := by
  rw [ltP_iff]
  rintro (h | ⟨_, h⟩) <;> exact ltPl_irr h
theorem leP_iff (p q : Pr) : leP p q = true ↔ p = q ∨ ltP p q = true := by
  unfold leP
  rw [Bool.not_eq_true', Bool.eq_false_iff]
  constructor
  · intro h
    rcases ltP_tri p q with k | k | k
    · exact .inr k
    · exact .inl k
    · exact absurd k h
  · rintro (rfl | h) k
    · exact ltP_irr k
    · exact ltP_irr (ltP_trans h k)
theorem leP_trans (p q r : Pr) (h : leP p q = true) (k : leP q r = true) : leP p r = true := by
  rw [leP_iff] at *
  rcases h with rfl | h
  · exact k
  · rcases k with rfl | k
    · exact .inr h
    · exact .inr (ltP_trans h k)
theorem leP_total (p q : Pr) : (leP p q || leP q p) = true := by
  rw [Bool.or_eq_true, leP_iff, leP_iff]
  rcases ltP_tri p q with h | h | h
  · exact .inl (.inr h)
  · exact .inl (.inl h)
  · exact .inr (.inr h)
theorem leP_anti {p q : Pr} (h : leP p q = true) (k : leP q p = true) : p = q := by
  rw [leP_iff] at h k
  rcases h with h | h
  · exact h
  · rcases k with k | k
    · exact k.symm
    · exact absurd (ltP_trans h k) ltP_irr
theorem sorted_one : ∀ (a b : List Pr), a.Pairwise (fun x y => leP x y = true) → b.Pairwise (fun x y => leP x y = true) → a.Nodup → b.Nodup → (∀ x, x ∈ a ↔ x ∈ b) → a = b
  | [], [], _, _, _, _, _ => rfl
  | [], y :: b, _, _, _, _, h => by
    have := (h y).mpr List.mem_cons_self
    cases this
  | x :: a, [], _, _, _, _, h => by
    have := (h x).mp List.mem_cons_self
    cases this
  | x :: a, y :: b, ha, hb, na, nb, h => by
    rw [List.pairwise_cons] at ha hb
    rw [List.nodup_cons] at na nb
    have exy : x = y := by
      rcases List.mem_cons.mp ((h x).mp List.mem_cons_self) with e | e
      · exact e
      · rcases List.mem_cons.mp ((h y).mpr List.mem_cons_self) with e2 | e2
        · exact e2.symm
        · exact leP_anti (ha.1 y e2) (hb.1 x e)
    subst exy
    rw [sorted_one a b ha.2 hb.2 na.2 nb.2 fun z => ⟨fun hz => by
      rcases List.mem_cons.mp ((h z).mp (List.mem_cons_of_mem _ hz)) with e | e
      · subst e
        exact absurd hz na.1
      · exact e, fun hz => by
      rcases List.mem_cons.mp ((h z).mpr (List.mem_cons_of_mem _ hz)) with e | e
      · subst e
        exact absurd hz nb.1
      · exact e⟩]
theorem sortP_sorted (xs : List Pr) : (sortP xs).Pairwise (fun x y => leP x y = true) := by
  unfold sortP
  exact List.pairwise_mergeSort leP_trans leP_total xs
theorem sortP_nodup {xs : List Pr} (h : xs.Nodup) : (sortP xs).Nodup := by
  unfold sortP
  exact (List.mergeSort_perm xs leP).nodup_iff.mpr h
theorem sortP_same {xs ys : List Pr} (hx : xs.Nodup) (hy : ys.Nodup) (h : ∀ z, z ∈ xs ↔ z ∈ ys) : sortP xs = sortP ys :=
  sorted_one _ _ (sortP_sorted xs) (sortP_sorted ys) (sortP_nodup hx) (sortP_nodup hy) fun z => by rw [sort_mem, sort_mem]; exact h z
end Law

end
end

section
set_option linter.all false
set_option maxRecDepth 100000
set_option maxHeartbeats 1000000
noncomputable section
namespace Law
open Dm M
/-- a whole way of pairs that are come to -/
structure WayOk (cs : List (List Look)) (d : Pr → Nat) (ws : List Pr) (t : Pr) (c0 a b : Nat) : Prop where
  hd : ws[0]? = some (pl c0 a 0, pl c0 b 0)
  hc : c0 < cs.length
  ab : a < b
  bl : b < (colAt cs c0).length
  d0 : d (pl c0 a 0, pl c0 b 0) = saC cs c0
  v : ∀ p ∈ ws, VPr cs p
  nx : ∀ (i : Nat) (p t : Pr), ws[i]? = some p → ws[i + 1]? = some t → t ∈ nxt cs p ∧ d t = d p + stepP p t
  la : ws[ws.length - 1]? = some t
theorem ent_ch {cs : List (List Look)} {W : Nat} {g : WCol cs W} {d : Pr → Nat} {C : List En} (h : Come (wld cs W g) d C) {t : Pr} {o : Option Pr} (he : (t, o) ∈ C) :
    (o = none → t ∈ firstP cs ∧ d t = saP cs t) ∧ ∀ p, o = some p → p ∈ keys C ∧ t ∈ nxt cs p ∧ d t = d p + stepP p t := by
  obtain ⟨i, hi⟩ := List.mem_iff_getElem?.mp he
  obtain ⟨h1, h2⟩ := h.ch i _ hi
  refine ⟨h1, fun p hp => ?_⟩
  obtain ⟨k1, k2, k3⟩ := h2 p hp
  refine ⟨?_, sort_mem.mp k2, k3⟩
  obtain ⟨j, o', hj, hp'⟩ := keys_take k1
  exact List.mem_map.mpr ⟨_, List.mem_of_getElem? hp', rfl⟩
theorem way_ok {cs : List (List Look)} {W : Nat} {g : WCol cs W} {d : Pr → Nat} {C : List En} (h : Come (wld cs W g) d C) {ws : List Pr} {t : Pr} (hw : Way C ws t) : ∃ c0 a b, WayOk cs d ws t c0 a b := by
  induction hw with
  | @one t he =>
    obtain ⟨h1, h2⟩ := (ent_ch h he).1 rfl
    obtain ⟨c, l, k, hc, hlk, hk, rfl⟩ := firstP_at h1
    refine ⟨c, l, k, rfl, hc, hlk, hk, h2, fun p hp => ?_, fun i p t h3 h4 => ?_, rfl⟩
    · rw [List.mem_singleton.mp hp]
      exact first_v h1
    · rw [List.getElem?_eq_none (by simp)] at h4
      cases h4
  | @snoc w p t hw he ih =>
    obtain ⟨c0, a, b, k⟩ := ih
    obtain ⟨h1, h2, h3⟩ := (ent_ch h he).2 p rfl
    have hpos := way_pos hw
    have hpv : VPr cs p := h.v p h1
    refine ⟨c0, a, b, ?_, k.hc, k.ab, k.bl, k.d0, fun q hq => ?_, fun i q r h4 h5 => ?_, ?_⟩
    · rw [List.getElem?_append_left hpos]
      exact k.hd
    · rcases List.mem_append.mp hq with hq | hq
      · exact k.v q hq
      · rw [List.mem_singleton.mp hq]
        exact nxt_v hpv h2
    · by_cases hi : i + 1 < w.length
      · rw [List.getElem?_append_left (by omega)] at h4
        rw [List.getElem?_append_left hi] at h5
        exact k.nx i q r h4 h5
      · have hlt := (List.getElem?_eq_some_iff.mp h5).1
        rw [List.length_append, List.length_singleton] at hlt
        have ei : i + 1 = w.length := by omega
        rw [ei, List.getElem?_append_right (Nat.le_refl _), Nat.sub_self] at h5
        cases h5
        rw [List.getElem?_append_left (by omega)] at h4
        have e2 : i = w.length - 1 := by omega
        have la := k.la
        rw [← e2, h4] at la
        cases la
        exact ⟨h2, h3⟩
    · rw [List.length_append, List.length_singleton, Nat.add_sub_cancel, List.getElem?_append_right (Nat.le_refl _), Nat.sub_self]
      rfl
theorem come_min {cs : List (List Look)} {W : Nat} {g : WCol cs W} {d : Pr → Nat} {C : List En} (h : Come (wld cs W g) d C) {S : Pr → Prop} (h1 : ∀ p ∈ firstP cs, S p) (h2 : ∀ p t, S p → t ∈ nxt cs p → S t) : ∀ p ∈ keys C, S p := fun p hp => by
  obtain ⟨ws, hw, hlen⟩ := way_ex h hp
  clear hp hlen
  induction hw with
  | one he => exact h1 _ ((ent_ch h he).1 rfl).1
  | snoc hw he ih => exact h2 _ _ ih ((ent_ch h he).2 _ rfl).2.1
theorem come_cap {cs : List (List Look)} {W : Nat} {g : WCol cs W} {d : Pr → Nat} {C : List En} (h : Come (wld cs W g) d C) : C.length ≤ 300000 := by
  have h1 := (wld cs W g).few (keys C) h.nd h.v
  have h2 : (wld cs W g).cap = (plM cs + 1) * (plM cs + 1) := rfl
  have h3 := g.pn
  have h4 : (plM cs + 1) * (plM cs + 1) ≤ 501 * 501 := Nat.mul_le_mul (by omega) (by omega)
  unfold keys at h1
  rw [List.length_map] at h1
  omega
end Law

end
end

section
set_option linter.all false
set_option maxRecDepth 100000
set_option maxHeartbeats 1000000
noncomputable section
namespace M
open Dm
def judged_b : SM :=
    (smSeq (smSet 1 (mCall M.places_in (amCons (mV 0) amNil)))
    (smSeq (smIf (mTB (mCmp cGt (mV 1) (mC (.int 500)))) smNever smSkip)
    (smSeq (smSet 2 (mCall M.come_to (amCons (mV 0) amNil)))
    (smFrz 2 (smSeq (smSet 3 (mTup (amCons (mBlt bLen (amCons (mV 0) amNil)) (amCons (mC (.int 0)) (amCons (mC (.int 0)) amNil)))))
    (smSeq (smIf (mTB (mCmp notInT (mTup (amCons (mV 3) (amCons (mV 3) amNil))) (mV 2))) (smRet (mTup (amCons (mC (.str [111, 110, 101])) (amCons (mSortT (mV 2)) amNil)))) smSkip)
    (smSeq (smUnp [4, 5, 6] (mCall M.told_by (amCons (mV 0) (amCons (mCall M.way_to (amCons (mV 2) (amCons (mTup (amCons (mV 3) (amCons (mV 3) amNil))) amNil))) amNil))))
    (smRet (mTup (amCons (mC (.str [116, 119, 111])) (amCons (mV 4) (amCons (mV 5) (amCons (mV 6) amNil)))))))))))))
def judged : FM := mFn 1 6 judged_b
end M
namespace Law
open Dm M
def oneD (ps : List Pr) : Dm.D := .seq .tup [.str [111, 110, 101], .seq .lst (ps.map prD)]
def twoD (t : List Nat) (x y : List Int) : Dm.D := .seq .tup [.str [116, 119, 111], .str t, .seq .lst (x.map .int), .seq .lst (y.map .int)]
theorem judged_eq {cs : List (List Look)} {W : Nat} (g : WCol cs W) (hne : ∀ c l, ∀ t ∈ lookAt cs c l, t ≠ []) : ∃ C d, Come (wld cs W g) d C ∧
    ((¬ endP cs ∈ keys C ∧ M.judged [colsD cs] = .ok (oneD (sortP (keys C)), false)) ∨
     (endP cs ∈ keys C ∧ ∃ ws c0 a b m, WayOk cs d ws (endP cs) c0 a b ∧ MidT cs (ws.zip (ws.drop 1)) m ∧ M.judged [colsD cs] = .ok (twoD (preT cs c0 ++ m) (picksW cs c0 (ws.map Prod.fst)) (picksW cs c0 (ws.map Prod.snd)), false))) := by
  have l2 : 2 ≤ lim := le_lim (by decide)
  have l3 : 3 ≤ lim := le_lim (by decide)
  have l4 : 4 ≤ lim := le_lim (by decide)
  obtain ⟨C, d, e1, h⟩ := come_to_eq g
  have hcap := come_cap h
  have kl : (keys C).length ≤ lim := le_lim (by unfold keys; rw [List.length_map]; omega)
  have pe := places_in_eq cs
  rw [plN_M] at pe
  have hpn := g.pn
  have hno : ¬ (500 : Int) < (plM cs : Int) := by omega
  refine ⟨C, d, h, ?_⟩
  have eK : (C.map fun e => prD e.1) = (keys C).map prD := by unfold keys; rw [List.map_map]; rfl
  have e2 : prD (endP cs) = .seq .tup [.seq .tup [.int cs.length, .int 0, .int 0], .seq .tup [.int cs.length, .int 0, .int 0]] := rfl
  have ine := in_eq (endP cs) (keys C) (C.map fun e => opD e.2)
  unfold colsD at pe e1 ⊢
  by_cases he : endP cs ∈ keys C
  · right
    refine ⟨he, ?_⟩
    obtain ⟨ws, hw, hl⟩ := way_ex h he
    obtain ⟨c0, a, b, wo⟩ := way_ok h hw
    have e3 := way_to_eq h.nd (by omega) hw hl
    obtain ⟨m, hm, hml, e4⟩ := told_by_eq g hne wo.hd (Nat.le_of_lt wo.hc) wo.v (fun i p t h1 h2 => (wo.nx i p t h1 h2).1) (by omega)
    refine ⟨ws, c0, a, b, m, wo, hm, ?_⟩
    rw [eK] at e1 e3
    rw [e2] at ine e3
    unfold colsD at e4
    obtain ⟨K, hK⟩ : ∃ K, K = (keys C).map prD := ⟨_, rfl⟩
    obtain ⟨A, hA⟩ : ∃ A, A = C.map fun e => opD e.2 := ⟨_, rfl⟩
    rw [← hK, ← hA] at e1 e3 ine
    rw [decide_eq_true he] at ine
    have hsc : (Dm.D.dit K A).sc = false := rfl
    simp [judged, judged_b, pe, hno, e1, hsc, frz, l3, l2, notInT, ine, e3, e4, l4, twoD]
  · left
    refine ⟨he, ?_⟩
    rw [eK] at e1
    rw [e2] at ine
    have so := sortPs_some (keys C)
    rw [if_pos kl] at so
    have as := asPrs_map (keys C)
    obtain ⟨K, hK⟩ : ∃ K, K = (keys C).map prD := ⟨_, rfl⟩
    obtain ⟨A, hA⟩ : ∃ A, A = C.map fun e => opD e.2 := ⟨_, rfl⟩
    rw [← hK] at as
    rw [← hK, ← hA] at e1 ine
    rw [decide_eq_false he] at ine
    have hsc : (Dm.D.dit K A).sc = false := rfl
    simp [judged, judged_b, pe, hno, e1, hsc, frz, l3, l2, notInT, ine, as, so, oneD, kl]
end Law

end
end

section
set_option linter.all false
set_option maxRecDepth 100000
set_option maxHeartbeats 1000000
noncomputable section
namespace M
open Dm
def is_place_b : SM :=
    (smSeq (smIf (tmOr (tmNot (mT (mIs "tuple" (mV 1)))) (mTB (mCmp cNe (mBlt bLen (amCons (mV 1) amNil)) (mC (.int 3))))) (smRet (mC (.bl false))) smSkip)
    (smSeq (smFor (put1 2) (wmA (mV 1)) (smIf (tmNot (mT (mCall M.is_whole (amCons (mV 2) amNil)))) (smRet (mC (.bl false))) smSkip))
    (smSeq (smUnp [3, 4, 5] (mV 1))
    (smSeq (smIf (mTB (mCmp cEq (mV 3) (mBlt bLen (amCons (mV 0) amNil)))) (smRet (mAnd (mCmp cEq (mV 4) (mC (.int 0))) (mCmp cEq (mV 5) (mC (.int 0))))) smSkip)
    (smSeq (smIf (tmOr (mTB (mCmp cLt (mV 3) (mC (.int 0)))) (tmOr (mTB (mCmp cGt (mV 3) (mBlt bLen (amCons (mV 0) amNil)))) (tmOr (mTB (mCmp cLt (mV 4) (mC (.int 0)))) (mTB (mCmp cGe (mV 4) (mBlt bLen (amCons (mIx (mV 0) (mV 3)) amNil))))))) (smRet (mC (.bl false))) smSkip)
    (smRet (mChain cLe cLe (mC (.int 0)) (mV 5) (mBlt bLen (amCons (mIx (mIx (mV 0) (mV 3)) (mV 4)) amNil)))))))))
def is_place : FM := mFn 2 4 is_place_b
def is_pair_b : SM :=
    (smSeq (smIf (tmOr (tmNot (mT (mIs "tuple" (mV 1)))) (mTB (mCmp cNe (mBlt bLen (amCons (mV 1) amNil)) (mC (.int 2))))) (smRet (mC (.bl false))) smSkip)
    (smRet (mAnd (mCall M.is_place (amCons (mV 0) (amCons (mIx (mV 1) (mC (.int 0))) amNil))) (mCall M.is_place (amCons (mV 0) (amCons (mIx (mV 1) (mC (.int 1))) amNil))))))
def is_pair : FM := mFn 2 0 is_pair_b
def is_shut_b : SM :=
    (smSeq (smIf (tmNot (mT (mIs "list" (mV 1)))) (smRet (mC (.bl false))) smSkip)
    (smSeq (smSet 2 mDt0)
    (smSeq (smFor (put1 3) (wmA (mV 1)) (smSeq (smIf (tmNot (mT (mCall M.is_pair (amCons (mV 0) (amCons (mV 3) amNil))))) (smRet (mC (.bl false))) smSkip)
    (smPutT 2 (mV 3) (mC (.bl true)))))
    (smSeq (smSet 4 (mTup (amCons (mBlt bLen (amCons (mV 0) amNil)) (amCons (mC (.int 0)) (amCons (mC (.int 0)) amNil)))))
    (smSeq (smIf (mTB (mCmp inT (mTup (amCons (mV 4) (amCons (mV 4) amNil))) (mV 2))) (smRet (mC (.bl false))) smSkip)
    (smSeq (smFor (put1 3) (wmA (mCall M.first_pairs (amCons (mV 0) amNil))) (smIf (mTB (mCmp notInT (mV 3) (mV 2))) (smRet (mC (.bl false))) smSkip))
    (smSeq (smFor (put1 3) (wmK (mV 2)) (smFor (put1 5) (wmA (mCall M.next_pairs (amCons (mV 0) (amCons (mV 3) amNil)))) (smIf (mTB (mCmp notInT (mV 5) (mV 2))) (smRet (mC (.bl false))) smSkip)))
    (smRet (mC (.bl true))))))))))
def is_shut : FM := mFn 2 4 is_shut_b
end M
namespace Law
open Dm M
/-! what is a pair -/
theorem iswhole_int (i : Int) : M.is_whole [.int i] = .ok (.bl true, false) := by simp [is_whole, is_whole_b]
theorem place_v {cs : List (List Look)} {c l q : Nat} (v : VP cs c l q) : M.is_place [.seq .lst (cs.map colD), plD (pl c l q)] = .ok (.bl true, false) := by
  have w := iswhole_int
  simp only [is_place, is_place_b, plD]
  rcases v with ⟨rfl, rfl, rfl⟩ | ⟨h1, h2, h3⟩
  · simp [turns, put1, w]
  · have ac := at_col h1
    have al := at_look h2
    have hi : ¬ (c : Int) = (cs.length : Int) := by omega
    have a1 : ¬ (c : Int) < 0 := by omega
    have a2 : ¬ (cs.length : Int) < (c : Int) := by omega
    have a3 : ¬ (l : Int) < 0 := by omega
    have hl2 : ¬ ((colAt cs c).length : Int) ≤ (l : Int) := by omega
    unfold lookAt at h3
    obtain ⟨L, hL⟩ : ∃ L, L = (colAt cs c).getD l [] := ⟨_, rfl⟩
    rw [← hL] at al h3
    have a4 : (0 : Int) ≤ (q : Int) := by omega
    have a5 : (q : Int) ≤ (L.length : Int) := by omega
    have b1 : ¬ (colAt cs c).length ≤ l := by omega
    simp [turns, put1, w, hi, a1, a2, a3, ac, al, b1]
    omega
theorem pair_v {cs : List (List Look)} {p : Pr} (v : VPr cs p) : M.is_pair [.seq .lst (cs.map colD), prD p] = .ok (.bl true, false) := by
  obtain ⟨c, l, q, c', l', q', v1, v2, rfl⟩ := v
  have p1 := place_v v1
  have p2 := place_v v2
  have hp : prD (pl c l q, pl c' l' q') = .seq .tup [plD (pl c l q), plD (pl c' l' q')] := rfl
  rw [hp]
  simp [is_pair, is_pair_b, p1, p2, at20, at21]
theorem shut_eq (cs : List (List Look)) (s : SmC cs) (ps : List Pr) (hv : ∀ p ∈ ps, VPr cs p) (hl : ps.length < 900000) : M.is_shut [.seq .lst (cs.map colD), .seq .lst (ps.map prD)] = .ok (.bl (shutB cs ps), false) := by
  have l3 : 3 ≤ lim := le_lim (by decide)
  have l2 : 2 ≤ lim := le_lim (by decide)
  have fe : M.first_pairs [.seq .lst (cs.map colD)] = _ := first_pairs_eq cs s
  simp only [is_shut, is_shut_b]
  simp
  refine q_run (fun r => r = .ok (.bl (shutB cs ps), false)) (fun i ρ => ∃ K a, KOf (ps.take i) K ∧ ρ = [.fz (.seq .lst (cs.map colD)), .fz (.seq .lst (ps.map prD)), .oo (.dit (K.map prD)) (trues K.length), a, .no, .no]) ⟨[], .no, ⟨List.nodup_nil, by simp⟩, rfl⟩ ?_ ?_
  · rintro i d ρ hd ⟨K, a, hK, rfl⟩
    rw [List.getElem?_map] at hd
    obtain ⟨p, hp, rfl⟩ := Option.map_eq_some_iff.mp hd
    obtain ⟨hi, ep⟩ := List.getElem?_eq_some_iff.mp hp
    have pv := pair_v (hv p (List.mem_of_getElem? hp))
    obtain ⟨K', e, hK'⟩ := kof_put (p := p) hK (by rw [List.length_take]; omega)
    have et : ps.take (i + 1) = ps.take i ++ [p] := by rw [List.take_succ_eq_append_getElem hi, ep]
    rw [et]
    simp [put1, pv, e, -asPrs_map, -putPr_some]
    exact ⟨K', hK', by simp⟩
  · rintro ρ ⟨K, a, hK, rfl⟩
    rw [List.length_map, List.take_length] at hK
    rw [kof_shut hK]
    have hKl := kof_len hK
    have ine := in_eq (endP cs) K (trues K.length)
    have hend : prD (endP cs) = .seq .tup [.seq .tup [.int cs.length, .int 0, .int 0], .seq .tup [.int cs.length, .int 0, .int 0]] := rfl
    rw [hend] at ine
    by_cases he : endP cs ∈ K
    · simp [l3, l2, ine, he]
    · simp [l3, l2, ine, he, fe]
      refine q_or (fun r => r = .ok (.bl (((firstP cs).all fun p => decide (p ∈ K)) && K.all fun p => (nxt cs p).all fun t => decide (t ∈ K)), false))
        (fun i ρ => AllIn (firstP cs) i (fun p => decide (p ∈ K)) ∧ ∃ a, ρ = [.fz (.seq .lst (cs.map colD)), .fz (.seq .lst (ps.map prD)), .oo (.dit (K.map prD)) (trues K.length), a, .fz (.seq .tup [.int cs.length, .int 0, .int 0]), .no])
        (fun o => o = .rt (.bl false) false ∧ ((firstP cs).all fun p => decide (p ∈ K)) = false) ⟨allIn0 _ _, a, rfl⟩ ?_ ?_ ?_
      · rintro i d ρ hd ⟨hall, a, rfl⟩
        rw [List.getElem?_map] at hd
        obtain ⟨p, hp, rfl⟩ := Option.map_eq_some_iff.mp hd
        have inp := in_eq p K (trues K.length)
        by_cases hm : p ∈ K
        · left
          simp only [put1, Res.bind_ok, List.set_cons_succ, List.set_cons_zero]
          simp [notInT, inp, hm]
          exact hall.succ hp (decide_eq_true hm)
        · right
          exact ⟨.rt (.bl false) false, by simp [put1, notInT, inp, hm], fun _ => rfl, rfl, all_not (List.mem_of_getElem? hp) (decide_eq_false hm)⟩
      · rintro ρ ⟨hall, a, rfl⟩
        rw [hall.all (by simp), Bool.true_and]
        simp [frz]
        refine q_or (fun r => r = .ok (.bl (K.all fun p => (nxt cs p).all fun t => decide (t ∈ K)), false))
          (fun i ρ => AllIn K i (fun p => (nxt cs p).all fun t => decide (t ∈ K)) ∧ ∃ a b, ρ = [.fz (.seq .lst (cs.map colD)), .fz (.seq .lst (ps.map prD)), .fz (.dit (K.map prD) (trues K.length)), a, .fz (.seq .tup [.int cs.length, .int 0, .int 0]), b])
          (fun o => o = .rt (.bl false) false ∧ (K.all fun p => (nxt cs p).all fun t => decide (t ∈ K)) = false) ⟨allIn0 _ _, a, .no, rfl⟩ ?_ ?_ ?_
        · rintro i d ρ hd ⟨hall2, a, b, rfl⟩
          rw [List.getElem?_map] at hd
          obtain ⟨p, hp, rfl⟩ := Option.map_eq_some_iff.mp hd
          have hpv := hv p ((hK.2 p).mp (List.mem_of_getElem? hp))
          have nv := next_v s hpv
          have loop : (∃ b', turns (put1 5) (smIf (mTB (mCmp notInT (mV 5) (mV 2))) (smRet (mC (.bl false))) smSkip) ((sortP (nxt cs p)).map prD) [.fz (.seq .lst (cs.map colD)), .fz (.seq .lst (ps.map prD)), .fz (.dit (K.map prD) (trues K.length)), .fz (prD p), .fz (.seq .tup [.int cs.length, .int 0, .int 0]), b] = .ok (.nx [.fz (.seq .lst (cs.map colD)), .fz (.seq .lst (ps.map prD)), .fz (.dit (K.map prD) (trues K.length)), .fz (prD p), .fz (.seq .tup [.int cs.length, .int 0, .int 0]), b']) ∧ ((nxt cs p).all fun t => decide (t ∈ K)) = true) ∨
              (turns (put1 5) (smIf (mTB (mCmp notInT (mV 5) (mV 2))) (smRet (mC (.bl false))) smSkip) ((sortP (nxt cs p)).map prD) [.fz (.seq .lst (cs.map colD)), .fz (.seq .lst (ps.map prD)), .fz (.dit (K.map prD) (trues K.length)), .fz (prD p), .fz (.seq .tup [.int cs.length, .int 0, .int 0]), b] = .ok (.rt (.bl false) false) ∧ ((nxt cs p).all fun t => decide (t ∈ K)) = false) := by
            rcases turns_or (put := put1 5) (b := smIf (mTB (mCmp notInT (mV 5) (mV 2))) (smRet (mC (.bl false))) smSkip) (fun i ρ => AllIn (sortP (nxt cs p)) i (fun t => decide (t ∈ K)) ∧ ∃ b', ρ = [.fz (.seq .lst (cs.map colD)), .fz (.seq .lst (ps.map prD)), .fz (.dit (K.map prD) (trues K.length)), .fz (prD p), .fz (.seq .tup [.int cs.length, .int 0, .int 0]), b'])
              (fun o => o = .rt (.bl false) false ∧ ((nxt cs p).all fun t => decide (t ∈ K)) = false) (xs := (sortP (nxt cs p)).map prD) (ρ := [.fz (.seq .lst (cs.map colD)), .fz (.seq .lst (ps.map prD)), .fz (.dit (K.map prD) (trues K.length)), .fz (prD p), .fz (.seq .tup [.int cs.length, .int 0, .int 0]), b]) 0 ⟨allIn0 _ _, b, rfl⟩ (fun i d ρ hd hpp => by
                rw [Nat.zero_add] at hpp ⊢
                obtain ⟨hall3, b', rfl⟩ := hpp
                rw [List.getElem?_map] at hd
                obtain ⟨t, ht, rfl⟩ := Option.map_eq_some_iff.mp hd
                have int := in_eq t K (trues K.length)
                by_cases hm : t ∈ K
                · left
                  simp only [put1, Res.bind_ok, List.set_cons_succ, List.set_cons_zero]
                  simp [notInT, int, hm]
                  exact hall3.succ ht (decide_eq_true hm)
                · right
                  exact ⟨.rt (.bl false) false, by simp [put1, notInT, int, hm], fun _ => rfl, rfl, all_not (sort_mem.mp (List.mem_of_getElem? ht)) (decide_eq_false hm)⟩) with ⟨ρ', e, hall3, b', rfl⟩ | ⟨r, e, rfl, h⟩
            · left
              refine ⟨b', e, ?_⟩
              have := hall3.all (by simp)
              rw [List.all_eq_true] at this ⊢
              exact fun z hz => this z (sort_mem.mpr hz)
            · right
              exact ⟨e, h⟩
          rcases loop with ⟨b', e, h⟩ | ⟨e, h⟩
          · left
            have hs := hall2.succ hp h
            simp only [put1, Res.bind_ok, List.set_cons_succ, List.set_cons_zero]
            simp [nv, e]
            exact hs
          · right
            refine ⟨.rt (.bl false) false, ?_, fun _ => rfl, rfl, all_not (List.mem_of_getElem? hp) h⟩
            simp only [put1, Res.bind_ok, List.set_cons_succ, List.set_cons_zero]
            simp [nv, e]
        · rintro ρ ⟨hall2, a, b, rfl⟩
          rw [hall2.all (by simp)]
          simp
        · rintro o ⟨rfl, h⟩
          rw [h]
          simp
      · rintro o ⟨rfl, h⟩
        rw [h]
        simp
end Law

end
end

section
set_option linter.all false
set_option maxRecDepth 100000
set_option maxHeartbeats 1000000
noncomputable section
namespace M
open Dm
def _law_come_b : SM :=
    (smSeq (smSet 1 mDt0)
    (smSeq (smSet 2 (mCall M._law_first (amCons (mV 0) amNil)))
    (smSeq (smWhile (mTB (mCmp cNe (mV 2) (mLst amNil))) (smSeq (smPop 3 2)
    (smIf (mTB (mCmp notInT (mV 3) (mV 1))) (smSeq (smPutT 1 (mV 3) (mC (.bl true)))
    (smExt 2 (mCall M._law_next (amCons (mV 0) (amCons (mV 3) amNil))))) smSkip)) fuel)
    (smRet (mSortT (mV 1))))))
def _law_come : FM := mFn 1 3 _law_come_b
end M
namespace Law
open Dm M
/-- all that is come to, by the law's own steps -/
structure Closure (cs : List (List Look)) (K : List Pr) : Prop where
  nd : K.Nodup
  v : ∀ p ∈ K, VPr cs p
  fi : ∀ p ∈ firstP cs, p ∈ K
  nx : ∀ p ∈ K, ∀ t ∈ nxt cs p, t ∈ K
  min : ∀ S : Pr → Prop, (∀ p ∈ firstP cs, S p) → (∀ p t, S p → t ∈ nxt cs p → S t) → ∀ p ∈ K, S p
theorem Closure.same {cs : List (List Look)} {K L : List Pr} (h : Closure cs K) (k : Closure cs L) : ∀ z, z ∈ K ↔ z ∈ L := fun z =>
  ⟨fun hz => h.min (· ∈ L) k.fi (fun p t hp ht => k.nx p hp t ht) z hz, fun hz => k.min (· ∈ K) h.fi (fun p t hp ht => h.nx p hp t ht) z hz⟩
theorem Closure.sort {cs : List (List Look)} {K L : List Pr} (h : Closure cs K) (k : Closure cs L) : sortP K = sortP L := sortP_same h.nd k.nd (h.same k)
theorem come_closure {cs : List (List Look)} {W : Nat} {g : WCol cs W} {d : Pr → Nat} {C : List En} (h : Come (wld cs W g) d C) : Closure cs (keys C) :=
  ⟨h.nd, h.v, fun p hp => (h.fi p hp).1, fun p hp t ht => (h.nx p hp t (sort_mem.mpr ht)).1, fun S h1 h2 => come_min h h1 h2⟩
def lcP (cs : List (List Look)) (ρ : Rho) : Prop := ∃ (hs rs : List Pr) (s3 : Sl), ρ = [.fz (.seq .lst (cs.map colD)), .oo (.dit (hs.map prD)) (trues hs.length), .oo .lst (rs.map prD), s3] ∧ hs.Nodup ∧ (∀ p ∈ hs, VPr cs p) ∧ (∀ p ∈ rs, VPr cs p) ∧
  (∀ p ∈ firstP cs, p ∈ hs ∨ p ∈ rs) ∧ (∀ p ∈ hs, ∀ t ∈ nxt cs p, t ∈ hs ∨ t ∈ rs) ∧ (∀ S : Pr → Prop, (∀ p ∈ firstP cs, S p) → (∀ p t, S p → t ∈ nxt cs p → S t) → ∀ p, p ∈ hs ∨ p ∈ rs → S p)
def lcL (cs : List (List Look)) (W : Nat) (ρ : Rho) : Prop := lcP cs ρ ∧ match ρ with
  | [_, .oo (.dit ks) _, .oo .lst rs, _] => rs.length ≤ 160000 + ks.length * (2 * W + 1)
  | _ => False
def lcM (cs : List (List Look)) (W : Nat) (ρ : Rho) : Nat := match ρ with
  | [_, .oo (.dit ks) _, .oo .lst rs, _] => ((plM cs + 1) * (plM cs + 1) - ks.length) * (2 * W + 2) + rs.length
  | _ => 0
def lcR (cs : List (List Look)) (ρ : Rho) : Prop := ∃ (hs : List Pr) (s3 : Sl), ρ = [.fz (.seq .lst (cs.map colD)), .oo (.dit (hs.map prD)) (trues hs.length), .oo .lst [], s3] ∧ Closure cs hs
theorem lcome_eq {cs : List (List Look)} {W : Nat} (g : WCol cs W) : ∃ K : List Pr, M._law_come [colsD cs] = .ok (.seq .lst ((sortP K).map prD), true) ∧ Closure cs K := by
  have s := g.s
  have hg := g.cell
  have fe : M._law_first [.seq .lst (cs.map colD)] = _ := lfirst_eq cs s
  have fl := topP_len s cs.length s.len
  have fl2 : (firstP cs).length ≤ 160000 := fl
  have few : ∀ {hs : List Pr}, hs.Nodup → (∀ p ∈ hs, VPr cs p) → hs.length ≤ (plM cs + 1) * (plM cs + 1) := fun hn hv => by
    rw [← allPr_len]
    exact nodup_le hn fun p hp => vpr_allPr (hv p hp)
  have hlm := g.lm
  have hw1 := g.w1
  have hN : (plM cs + 1) * (plM cs + 1) ≤ 501 * 501 := Nat.mul_le_mul (by have := g.pn; omega) (by have := g.pn; omega)
  have hNp : 0 < (plM cs + 1) * (plM cs + 1) := Nat.mul_pos (Nat.succ_pos _) (Nat.succ_pos _)
  have hW : 2 * W + 1 ≤ 7000000 := Nat.le_trans (Nat.le_mul_of_pos_right _ hNp) hlm
  suffices key : ∀ R : Res (D × Bool) → Prop, (∀ K : List Pr, Closure cs K → R (.ok (.seq .lst ((sortP K).map prD), true))) → R (M._law_come [colsD cs]) from
    key (fun r => ∃ K : List Pr, r = .ok (.seq .lst ((sortP K).map prD), true) ∧ Closure cs K) fun K h => ⟨K, rfl, h⟩
  intro R hRR
  simp only [_law_come, _law_come_b, colsD]
  simp [fe]
  obtain ⟨N, hNN⟩ : ∃ N, N = (plM cs + 1) * (plM cs + 1) := ⟨_, rfl⟩
  rw [← hNN] at hN hlm few
  have mb : N * (2 * W + 2) ≤ 14000001 := by
    have e0 : 2 * W + 2 = (2 * W + 1) + 1 := rfl
    have e1 : N * (2 * W + 2) = (2 * W + 1) * N + N := by rw [e0, Nat.mul_add, Nat.mul_one, Nat.mul_comm]
    have : 1 * N ≤ (2 * W + 1) * N := Nat.mul_le_mul_right _ (by omega)
    omega
  refine qw_run R (lcL cs W) (lcM cs W) (lcR cs)
    ⟨⟨[], firstP cs, .no, rfl, List.nodup_nil, by simp, fun p hp => first_v hp, fun p hp => .inr hp, by simp, fun S h1 h2 p hp => by
      rcases hp with hp | hp
      · cases hp
      · exact h1 p hp⟩, by simp; omega⟩ (fuel_of 64 (by unfold lcM; rw [← hNN]; simp; omega)) ?_ ?_
  · rintro ρ ⟨⟨hs, rs, s3, rfl, hn, hv1, hv2, hf, hx, hmin⟩, hle⟩
    have hle' : rs.length ≤ 160000 + hs.length * (2 * W + 1) := by simpa using hle
    have hh := few hn hv1
    have hmul : hs.length * (2 * W + 1) ≤ (2 * W + 1) * N := by
      rw [Nat.mul_comm]
      exact Nat.mul_le_mul_left _ hh
    have h0 : D.lay 12 (.seq .lst []) = true := by simp [D.lay]
    rcases List.eq_nil_or_concat rs with rfl | ⟨rs', p, e⟩
    · left
      refine ⟨by simp [cNe, h0], hs, s3, by simp, hn, hv1, fun p hp => (hf p hp).resolve_right (by simp), fun p hp t ht => (hx p hp t ht).resolve_right (by simp), fun S h1 h2 p hp => hmin S h1 h2 p (.inl hp)⟩
    · right
      rw [List.concat_eq_append] at e
      subst e
      have hvp := hv2 p (by simp)
      have hl1 := lay_prs (rs' ++ [p])
      have hE : D.eqvs ((rs' ++ [p]).map prD) [] = false := by cases rs' <;> simp
      refine ⟨?_, ?_⟩
      · simp [cNe, hl1, h0, hE, -List.map_append]
      · have lx : ((rs' ++ [p]).map prD)[((rs' ++ [p]).map prD).length - 1]? = some (prD p) := by simp
        have ld : ((rs' ++ [p]).map prD).dropLast = rs'.map prD := by simp
        have hr' : rs'.length + 1 ≤ 160000 + hs.length * (2 * W + 1) := by simpa using hle'
        have ine := in_eq p hs (trues hs.length)
        have m0 : lcM cs W [.fz (.seq .lst (cs.map colD)), .oo (.dit (hs.map prD)) (trues hs.length), .oo .lst ((rs' ++ [p]).map prD), s3] = (N - hs.length) * (2 * W + 2) + (rs'.length + 1) := by simp [lcM, ← hNN]
        rw [m0]
        by_cases hm : p ∈ hs
        · simp only [e_smSeq, e_smPop, List.getElem?_cons_succ, List.getElem?_cons_zero, lx, ld]
          simp [notInT, ine, hm]
          refine ⟨⟨⟨hs, rs', _, rfl, hn, hv1, fun q hq => hv2 q (by simp [hq]), fun q hq => ?_, fun q hq t ht => ?_, fun S h1 h2 q hq => hmin S h1 h2 q (hq.imp id fun z => by simp [z])⟩, by simp; omega⟩, by simp [lcM, ← hNN]⟩
          · rcases hf q hq with z | z
            · exact .inl z
            · rcases List.mem_append.mp z with z | z
              · exact .inr z
              · rw [List.mem_singleton.mp z]; exact .inl hm
          · rcases hx q hq t ht with z | z
            · exact .inl z
            · rcases List.mem_append.mp z with z | z
              · exact .inr z
              · rw [List.mem_singleton.mp z]; exact .inl hm
        · have ln := lnext_v s hg hvp
          have pn := put_new hs p hm (by omega)
          have hn' : (hs ++ [p]).Nodup := by
            rw [List.nodup_append]
            exact ⟨hn, by simp, by
              intro x hxx y hy e
              simp at hy
              subst hy e
              exact hm hxx⟩
          have hv' : ∀ z ∈ hs ++ [p], VPr cs z := fun z hz => by
            rcases List.mem_append.mp hz with h | h
            · exact hv1 z h
            · rw [List.mem_singleton.mp h]; exact hvp
          have hh' := few hn' hv'
          rw [List.length_append, List.length_singleton] at hh'
          obtain ⟨L, hL⟩ : ∃ L, L = sortP (nxt cs p) := ⟨_, rfl⟩
          have hLm : ∀ z, z ∈ L ↔ z ∈ nxt cs p := fun z => by rw [hL]; exact sort_mem
          have hLl : L.length ≤ 2 * W + 1 := by
            rw [hL, sort_len]
            exact nxt_wide g
          have hLv : ∀ z ∈ L, VPr cs z := fun z hz => nxt_v hvp ((hLm z).mp hz)
          rw [← hL] at ln
          have k1 : rs'.length + L.length ≤ lim := le_lim (by
            generalize hs.length * (2 * W + 1) = Z at *
            generalize (2 * W + 1) * N = Y at *
            omega)
          simp only [e_smSeq, e_smPop, List.getElem?_cons_succ, List.getElem?_cons_zero, lx, ld]
          obtain ⟨K, hK⟩ : ∃ K, K = (hs ++ [p]).map prD := ⟨_, rfl⟩
          obtain ⟨T, hT⟩ : ∃ T, T = trues (hs ++ [p]).length := ⟨_, rfl⟩
          rw [← hK, ← hT] at pn
          simp [notInT, ine, hm, pn, prD_sc, smExt, ln, k1, -asPrs_map, -putPr_some]
          have e3 : (hs.length + 1) * (2 * W + 1) = hs.length * (2 * W + 1) + (2 * W + 1) := by rw [Nat.add_mul, Nat.one_mul]
          have e4 : (N - hs.length) * (2 * W + 2) = (N - (hs.length + 1)) * (2 * W + 2) + (2 * W + 2) := by
            have : N - hs.length = (N - (hs.length + 1)) + 1 := by omega
            rw [this, Nat.add_mul, Nat.one_mul]
          refine ⟨⟨⟨hs ++ [p], rs' ++ L, .fz (prD p), by rw [hK, hT]; simp, hn', hv', fun z hz => ?_, fun q hq => ?_, fun q hq t ht => ?_, fun S h1 h2 q hq => ?_⟩, ?_⟩, ?_⟩
          · rcases List.mem_append.mp hz with h | h
            · exact hv2 z (by simp [h])
            · exact hLv z h
          · rcases hf q hq with z | z
            · exact .inl (List.mem_append_left _ z)
            · rcases List.mem_append.mp z with z | z
              · exact .inr (List.mem_append_left _ z)
              · rw [List.mem_singleton.mp z]; exact .inl (by simp)
          · rcases List.mem_append.mp hq with hq | hq
            · rcases hx q hq t ht with z | z
              · exact .inl (List.mem_append_left _ z)
              · rcases List.mem_append.mp z with z | z
                · exact .inr (List.mem_append_left _ z)
                · rw [List.mem_singleton.mp z]; exact .inl (by simp)
            · rw [List.mem_singleton.mp hq] at ht
              exact .inr (List.mem_append_right _ ((hLm t).mpr ht))
          · have hSp : S p := hmin S h1 h2 p (.inr (by simp))
            rcases hq with hq | hq
            · rcases List.mem_append.mp hq with hq | hq
              · exact hmin S h1 h2 q (.inl hq)
              · rw [List.mem_singleton.mp hq]; exact hSp
            · rcases List.mem_append.mp hq with hq | hq
              · exact hmin S h1 h2 q (.inr (by simp [hq]))
              · exact h2 p q hSp ((hLm q).mp hq)
          · rw [hK]
            simp
            omega
          · rw [hK]
            simp [lcM, ← hNN]
            omega
  · rintro ρ ⟨hs, s3, rfl, hc⟩
    have hh := few hc.nd hc.v
    have k2 : hs.length ≤ lim := le_lim (by omega)
    have := hRR hs hc
    simp [k2]
    exact this
end Law

end
end

section
set_option linter.all false
set_option maxRecDepth 100000
set_option maxHeartbeats 1000000
noncomputable section
namespace Law
open Dm M
theorem getD_mem {α : Type} {xs : List α} {i : Nat} {d : α} : xs.getD i d ∈ xs ∨ xs.getD i d = d := by
  by_cases h : i < xs.length
  · left
    rw [getD_at _ h]
    exact List.getElem_mem h
  · right
    rw [List.getD_eq_getElem?_getD, List.getElem?_eq_none (by omega)]
    rfl
theorem look_good {most : Nat} {cs : List (List Look)} (g : GoodC most cs) (c l : Nat) : (lookAt cs c l).length ≤ most ∧ ∀ t ∈ lookAt cs c l, GoodT t := by
  unfold lookAt
  rcases getD_mem (xs := colAt cs c) (i := l) (d := []) with h | h
  · have hc : colAt cs c ∈ cs := by
      rcases getD_mem (xs := cs) (i := c) (d := []) with k | k
      · exact k
      · have : colAt cs c = [] := k
        rw [this] at h
        cases h
    exact (g.col _ hc).2.2 _ h
  · rw [h]
    simp
theorem cell_good {most : Nat} {cs : List (List Look)} (g : GoodC most cs) (c l q : Nat) (t : List Nat) (h : cellO cs c l q = some t) : t.length ≤ 4 ∧ ∀ y ∈ t, y < 127 := by
  unfold cellO at h
  split at h
  · cases h
  · cases h
    rcases getD_mem (xs := lookAt cs c l) (i := q) (d := []) with k | k
    · obtain ⟨_, h1, h2⟩ := (look_good g c l).2 _ k
      exact ⟨h1, fun y hy => (h2 y hy).2⟩
    · rw [k]
      simp
theorem sum_le {α : Type} {f : α → Nat} {b : Nat} : ∀ {xs : List α}, (∀ x ∈ xs, f x ≤ b) → (xs.map f).sum ≤ xs.length * b
  | [], _ => by simp
  | x :: xs, h => by
    have h1 := h x List.mem_cons_self
    have h2 := sum_le (f := f) (b := b) (xs := xs) fun y hy => h y (List.mem_cons_of_mem _ hy)
    simp only [List.map_cons, List.sum_cons, List.length_cons]
    rw [Nat.add_mul]
    omega
theorem GoodC.plM_le {most : Nat} {cs : List (List Look)} (g : GoodC most cs) : plM cs ≤ 4 * (4 * (most + 1)) := by
  unfold plM
  have h1 : ∀ col ∈ cs, (col.map fun l => l.length + 1).sum ≤ 4 * (most + 1) := fun col hc => by
    obtain ⟨_, h2, h3⟩ := g.col col hc
    have := sum_le (f := fun l : Look => l.length + 1) (b := most + 1) (xs := col) fun l hl => by have := (h3 l hl).1; omega
    exact Nat.le_trans this (Nat.mul_le_mul_right _ h2)
  exact Nat.le_trans (sum_le h1) (Nat.mul_le_mul_right _ g.len)
theorem GoodC.wcol {most : Nat} {cs : List (List Look)} (g : GoodC most cs) (hm : most ≤ 6) : WCol cs 4 where
  s := g.sm (by omega)
  ne := fun col hc => (g.col col hc).1
  w1 := by omega
  wide := fun c => by
    rcases getD_mem (xs := cs) (i := c) (d := []) with k | k
    · exact (g.col _ k).2.1
    · have : colAt cs c = [] := k
      rw [this]
      simp
  pn := by have := g.plM_le; omega
  cell := cell_good g
  lm := by
    have h := g.plM_le
    have : (plM cs + 1) * (plM cs + 1) ≤ 113 * 113 := Nat.mul_le_mul (by omega) (by omega)
    omega
theorem GoodC.ne_t {most : Nat} {cs : List (List Look)} (g : GoodC most cs) : ∀ c l, ∀ t ∈ lookAt cs c l, t ≠ [] := fun c l t h => ((look_good g c l).2 t h).1
theorem eqv_pl (x y : Pl) : D.eqv (plD x) (plD y) = decide (x = y) := by
  obtain ⟨a, b, c⟩ := x
  obtain ⟨a', b', c'⟩ := y
  rw [Bool.eq_iff_iff]
  simp [plD]
theorem eqv_pr (p q : Pr) : D.eqv (prD p) (prD q) = decide (p = q) := by
  have : D.eqv (prD p) (prD q) = (D.eqv (plD p.1) (plD q.1) && D.eqv (plD p.2) (plD q.2)) := by simp [prD]
  rw [this, eqv_pl, eqv_pl, Bool.eq_iff_iff]
  obtain ⟨a, b⟩ := p
  obtain ⟨a', b'⟩ := q
  simp
theorem inB_pr (p : Pr) (ps : List Pr) : inB (prD p) (ps.map prD) = decide (p ∈ ps) := by
  rw [Bool.eq_iff_iff, decide_eq_true_eq]
  unfold inB
  rw [List.any_eq_true]
  constructor
  · rintro ⟨d, hd, h⟩
    obtain ⟨q, hq, rfl⟩ := List.mem_map.mp hd
    rw [eqv_pr] at h
    rw [← of_decide_eq_true h]
    exact hq
  · intro h
    exact ⟨prD p, List.mem_map.mpr ⟨p, h, rfl⟩, by rw [eqv_pr]; simp⟩
theorem cIn_pr (p : Pr) (ps : List Pr) : cIn (prD p) (.seq .lst (ps.map prD)) = .ok (decide (p ∈ ps)) := by
  rw [cIn_lst (lay_pr 9 p) (fun y hy => by
    obtain ⟨q, _, rfl⟩ := List.mem_map.mp hy
    exact lay_pr 9 q), inB_pr]
theorem dEqB_pr (p q : Pr) : dEqB (prD p) (prD q) = .ok (decide (p = q)) := by
  have h1 : dEqS (prD p) (prD q) = none := rfl
  have h2 := lay_pr 10 p
  have h3 := lay_pr 10 q
  unfold dEqB
  rw [h1]
  simp only [h2, h3, eqv_pr]
  rfl
theorem cNe_pr (p q : Pr) : cNe (prD p) (prD q) = .ok (!decide (p = q)) := by
  have h1 : dEqS (prD p) (prD q) = none := rfl
  have h2 := lay_pr 10 p
  have h3 := lay_pr 10 q
  unfold cNe dEqB
  rw [h1]
  simp only [h2, h3, eqv_pr]
  rfl
theorem end_nfirst {cs : List (List Look)} : ¬ endP cs ∈ firstP cs := fun h => by
  obtain ⟨c, l, k, hc, _, _, e⟩ := firstP_at h
  have : ((cs.length : Nat) : Int) = (c : Int) := congrArg (fun p : Pr => p.1.1) e
  omega
/-- what the closure is, told by is_shut -/
theorem shut_yes {cs : List (List Look)} {K : List Pr} (h : Closure cs K) (he : ¬ endP cs ∈ K) {ps : List Pr} (hp : ∀ z, z ∈ ps ↔ z ∈ K) : shutB cs ps = true := by
  unfold shutB
  rw [Bool.and_eq_true, Bool.and_eq_true, List.all_eq_true, List.all_eq_true]
  refine ⟨⟨?_, fun p hf => decide_eq_true ((hp p).mpr (h.fi p hf))⟩, fun p hpp => List.all_eq_true.mpr fun t ht => decide_eq_true ((hp t).mpr (h.nx p ((hp p).mp hpp) t ht))⟩
  rw [decide_eq_false (fun z => he ((hp _).mp z))]
  rfl
theorem shut_end {cs : List (List Look)} {ps : List Pr} (he : endP cs ∈ ps) : shutB cs ps = false := by
  unfold shutB
  rw [decide_eq_true he]
  rfl
theorem shut_less {cs : List (List Look)} {K : List Pr} (h : Closure cs K) (he : endP cs ∈ K) {ps : List Pr} (hp : ¬ endP cs ∈ ps) : shutB cs ps = false := by
  rw [Bool.eq_false_iff]
  intro hs
  unfold shutB at hs
  rw [Bool.and_eq_true, Bool.and_eq_true, List.all_eq_true, List.all_eq_true] at hs
  obtain ⟨⟨_, h1⟩, h2⟩ := hs
  exact hp (h.min (· ∈ ps) (fun p hf => of_decide_eq_true (h1 p hf)) (fun p t hp ht => of_decide_eq_true (List.all_eq_true.mp (h2 p hp) t ht)) _ he)
end Law

end
end

section
set_option linter.all false
set_option maxRecDepth 100000
namespace M
noncomputable section
open Dm
def law_b : SM :=
    (smSeq (smSet 1 (mCall M._law_columns (amCons (mV 0) (amCons (mC (.int 4)) amNil))))
    (smFrz 1 (smSeq (smSet 2 (mTup (amCons (mBlt bLen (amCons (mV 1) amNil)) (amCons (mC (.int 0)) (amCons (mC (.int 0)) amNil)))))
    (smSeq (smSet 3 (mCall M._law_come (amCons (mV 1) amNil)))
    (smFrz 3 (smSeq (smSet 4 (mCall M.judged (amCons (mCall M._law_copy (amCons (mV 1) amNil)) amNil)))
    (smSeq (smIf (mTB (mCmp cNotIn (mTup (amCons (mV 2) (amCons (mV 2) amNil))) (mV 3))) (smRet (mAnd (mCmp cEq (mV 4) (mTup (amCons (mC (.str [111, 110, 101])) (amCons (mV 3) amNil)))) (mCmp cIsB (mCall M.is_shut (amCons (mCall M._law_copy (amCons (mV 1) amNil)) (amCons (mIx (mV 4) (mC (.int 1))) amNil))) (mC (.bl true))))) smSkip)
    (smSeq (smSet 5 (mComp (put1 6) [6] (wmA (mV 3)) (mTB (mCmp cNe (mV 6) (mTup (amCons (mV 2) (amCons (mV 2) amNil))))) (mV 6)))
    (smRet (mAnd (mCmp cEq (mIx (mV 4) (mC (.int 0))) (mC (.str [116, 119, 111]))) (mAnd (mCmp cIsB (mCall M.is_shut (amCons (mV 1) (amCons (mV 3) amNil))) (mC (.bl false))) (mCmp cIsB (mCall M.is_shut (amCons (mV 1) (amCons (mV 5) amNil))) (mC (.bl false))))))))))))))
def law : FM := mFn 1 6 law_b
end
end M
end

section
set_option linter.all false
set_option maxRecDepth 100000
set_option maxHeartbeats 1000000
noncomputable section
-- use: goodw
-- frz: judged:came law:_law_columns_here law:_law_pairs
-- frzr: told_by:one told_by:other
-- not: pads
-- pairs
-- stub: judged
namespace Law
open Dm M
theorem true_law : ∀ ns : List Int, ns.length ≤ 63 → M.law [.seq .rol (ns.map .int)] = .ok (.bl true, false) := fun ns hn => by
  obtain ⟨cs, ec, gc⟩ := columns_ex ns 4 (by omega)
  have g := gc.wcol (by omega)
  have hr : ∀ c ∈ cs, c.length ≤ 1000 ∧ ∀ l ∈ c, l.length ≤ 1000 := fun c hc => by
    obtain ⟨_, h1, h2⟩ := gc.col c hc
    exact ⟨by omega, fun l hl => by have := (h2 l hl).1; omega⟩
  have cp := copy_eq cs g.s hr
  obtain ⟨K, ek, hK⟩ := lcome_eq g
  obtain ⟨C, d, hC, hj⟩ := judged_eq g gc.ne_t
  have hc := come_closure hC
  have es : sortP (keys C) = sortP K := hc.sort hK
  have l2 : 2 ≤ lim := le_lim (by decide)
  have l3 : 3 ≤ lim := le_lim (by decide)
  have hend : prD (endP cs) = .seq .tup [.seq .tup [.int cs.length, .int 0, .int 0], .seq .tup [.int cs.length, .int 0, .int 0]] := rfl
  have kl : K.length ≤ 300000 := by
    have := nodup_le hK.nd fun z hz => (hc.same hK z).mpr hz
    have h2 := come_cap hC
    unfold keys at this
    rw [List.length_map] at this
    omega
  have ci := cIn_pr (endP cs) (sortP K)
  rw [hend] at ci
  have vs : ∀ p ∈ sortP K, VPr cs p := fun p hp => hK.v p (sort_mem.mp hp)
  have hcols : colsD cs = .seq .lst (cs.map colD) := rfl
  rw [hcols] at ec cp ek hj
  have ec' : M._law_columns [.seq .rol (ns.map .int), .int 4] = .ok (.seq .lst (cs.map colD), true) := ec
  by_cases he : endP cs ∈ K
  · have he' : endP cs ∈ sortP K := sort_mem.mpr he
    rw [decide_eq_true he'] at ci
    rcases hj with ⟨h, _⟩ | ⟨_, ws, c0, a, b, m, _, _, ej⟩
    · exact absurd ((hc.same hK _).mpr he) h
    · have s1 := shut_eq cs g.s (sortP K) vs (by rw [sort_len]; omega)
      rw [shut_end he'] at s1
      obtain ⟨L, hL⟩ : ∃ L, L = (sortP K).filter fun p => !decide (p = endP cs) := ⟨_, rfl⟩
      have hLm : ∀ z, z ∈ L → z ∈ sortP K := fun z hz => by rw [hL] at hz; exact (List.mem_filter.mp hz).1
      have hLe : ¬ endP cs ∈ L := fun z => by
        rw [hL] at z
        have := (List.mem_filter.mp z).2
        simp at this
      have hLl : L.length ≤ K.length := by
        rw [hL, ← sort_len K]
        exact List.length_filter_le _ _
      have s2 := shut_eq cs g.s L (fun p hp => vs p (hLm p hp)) (by omega)
      rw [shut_less hK he hLe] at s2
      have nl : (sortP K).length < lim := lt_lim (by rw [sort_len]; omega)
      have nl2 : L.length < lim := lt_lim (by omega)
      have cc := comp_sel (put := put1 6) (t := mTB (mCmp cNe (mV 6) (mTup (amCons (mV 2) (amCons (mV 2) amNil))))) (e := mV 6)
        (ρ := [.fz (.seq .rol (ns.map .int)), .fz (.seq .lst (cs.map colD)), .fz (.seq .tup [.int cs.length, .int 0, .int 0]), .fz (.seq .lst ((sortP K).map prD)), .fz (twoD (preT cs c0 ++ m) (picksW cs c0 (ws.map Prod.fst)) (picksW cs c0 (ws.map Prod.snd))), .no, .no])
        prD prD (fun p => !decide (p = endP cs)) .cl (fun _ => rfl) (cs := sortP K) (fun p hp => by
          have := dEqB_pr p (endP cs)
          rw [hend] at this
          simp [put1, l2, this])
      rw [← hL] at cc
      obtain ⟨P, hP⟩ : ∃ P, P = (sortP K).map prD := ⟨_, rfl⟩
      have hPl : P.length = (sortP K).length := by rw [hP, List.length_map]
      obtain ⟨Q, hQ⟩ : ∃ Q, Q = L.map prD := ⟨_, rfl⟩
      have hQl : Q.length = L.length := by rw [hQ, List.length_map]
      rw [← hP] at ci ek s1 cc
      rw [← hQ] at s2 cc
      obtain ⟨T, hT⟩ : ∃ T : List Dm.D, T = [.str (preT cs c0 ++ m), .seq .lst ((picksW cs c0 (ws.map Prod.fst)).map .int), .seq .lst ((picksW cs c0 (ws.map Prod.snd)).map .int)] := ⟨_, rfl⟩
      have ht : twoD (preT cs c0 ++ m) (picksW cs c0 (ws.map Prod.fst)) (picksW cs c0 (ws.map Prod.snd)) = .seq .tup (.str [116, 119, 111] :: T) := by rw [hT]; rfl
      rw [ht] at cc ej
      have a0 : atI (Dm.D.str [116, 119, 111] :: T) 0 = some (.str [116, 119, 111]) := by rw [hT]; rfl
      simp [law, law_b, ec', frz, l3, l2, ek, cp, ej, ci, noOw, cc, s1, s2, a0, nl, nl2, hPl, hQl, cNotIn, cIsB, -List.map_map]
  · have he' : ¬ endP cs ∈ sortP K := fun z => he (sort_mem.mp z)
    rw [decide_eq_false he'] at ci
    rcases hj with ⟨h, ej⟩ | ⟨h, _⟩
    · rw [es] at ej
      have s1 := shut_eq cs g.s (sortP K) vs (by rw [sort_len]; omega)
      rw [shut_yes hK he (fun z => sort_mem)] at s1
      have eqq := same_of (d := oneD (sortP K)) (by
        have := lay_prs (sortP K)
        unfold oneD
        simp [D.lay]
        intros
        exact lay_pr 8 _)
      unfold oneD at eqq ej
      obtain ⟨P, hP⟩ : ∃ P, P = (sortP K).map prD := ⟨_, rfl⟩
      rw [← hP] at ci ek s1 eqq ej
      simp [law, law_b, ec', frz, l3, l2, ek, cp, ej, ci, s1, eqq, cNotIn, cIsB, at21]
    · exact absurd ((hc.same hK _).mp h) he
end Law
end
end

section
set_option Elab.async false
set_option linter.all false
set_option maxRecDepth 100000
set_option maxHeartbeats 4000000
/-! Dm: plain data, slots, and what they stand for in the abstract heap. -/
namespace Dm
open PySem PySem.Spec L2

theorem sIx_eq (n d : Nat) (o : Option Int) : sIx n d o = HT.sIx n d o := by cases o <;> rfl
theorem cutL_eq (xs : List V) (lo hi : Option Int) : cutL xs lo hi = cutV xs lo hi := by
  unfold cutL cutV
  rw [sIx_eq, sIx_eq]
theorem atI_eq {α : Type} (xs : List α) (i : Int) : Dm.atI xs i = L2.atI xs i := rfl
theorem lim_le : lim ≤ sizeLine := by rw [sizeLine_eq, lim_def]; exact Nat.le_refl _
theorem lim_eq : sizeLine = lim := by rw [sizeLine_eq, lim_def]
def keyD : Key → D
  | .inl i => .int i
  | .inr s => .str s.cps.toList

/-! keys that are tuples of whole numbers, and of such tuples -/
mutual
def hsD : D → Int
  | .int i => hashInt i
  | .seq _ xs => reduceHash (Builtin.Tuple.tupleHashOf (hsDs xs))
  | _ => 0
def hsDs : List D → List Int
  | [] => []
  | d :: ds => hsD d :: hsDs ds
end
/-- at a: a dict, by the hashes and addresses of its keys, and its values -/
def DNo (a : Addr) (o : Obj) (es : List (Int × Addr × V)) : Prop := (a == sysModules) = false ∧ es.length ≤ sizeLine ∧ o.ExactDict ∧ ∃ (us : List Value) (arr : Array DictEntry) (ep : Nat), Vals (es.map (·.2.2)) us ∧ o.data = .dict arr ep ∧ arr.toList = (es.zip us).map fun z => (⟨z.1.1, .ref z.1.2.1, z.2⟩ : DictEntry)
def dN (a : Addr) (o : Obj) (es : List (Int × Addr × V)) : HO := .ext fun h => h.get? a = some o ∧ DNo a o es
def entZ (ks : List D) (ka : List Addr) (vs : List V) : List (Int × Addr × V) := (ks.map hsD).zip (ka.zip vs)
structure DitOk (ks : List D) (ka : List Addr) (vs : List V) : Prop where
  ka : ka.length = ks.length
  vs : vs.length = ks.length
  nd : ks.Nodup
  tk : ∀ k ∈ ks, k.tkey = true

mutual
inductive Rep (K : PySem.W.Frag) (mg : Str → Option Value) (G : Hp) : D → V → Prop
  | non : Rep K mg G .non .non
  | bl (b : Bool) : Rep K mg G (.bl b) (.bl b)
  | int (i : Int) : Rep K mg G (.int i) (.int i)
  | str (s : List Nat) : Rep K mg G (.str s) (.str ⟨s.toArray⟩)
  | lst {a : Addr} {ds : List D} {vs : List V} : G a = some (.lst vs) → Reps K mg G ds vs → Rep K mg G (.seq .lst ds) (.ref a)
  | rol {a : Addr} {ds : List D} {vs : List V} : SqL K G a vs → Reps K mg G ds vs → Rep K mg G (.seq .rol ds) (.ref a)
  | tup {a : Addr} {ds : List D} {vs : List V} : SqT K G a vs → Reps K mg G ds vs → Rep K mg G (.seq .tup ds) (.ref a)
  | obj {C : String} {c a dx : Addr} {ns : List String} {ds : List D} {vs : List V} : mg (C : Str) = some (.ref c) → G a = some (.ins c dx ((ns.map Str.ofString).zip vs)) → vs.length = ns.length → Reps K mg G ds vs → Rep K mg G (.obj C ns ds) (.ref a)
  | dic {a : Addr} {kk : List Key} {ds : List D} {vs : List V} : G a = some (.dK (kk.zip vs)) → vs.length = kk.length → Reps K mg G ds vs → Rep K mg G (.dic (kk.map keyD) ds) (.ref a)
  | dit {a : Addr} {o : Obj} {ks ds : List D} {ka : List Addr} {vs : List V} : G a = some (dN a o (entZ ks ka vs)) → DitOk ks ka vs → Reps K mg G ks (ka.map V.ref) → Reps K mg G ds vs → Rep K mg G (.dit ks ds) (.ref a)
inductive Reps (K : PySem.W.Frag) (mg : Str → Option Value) (G : Hp) : List D → List V → Prop
  | nil : Reps K mg G [] []
  | cons {d : D} {v : V} {ds : List D} {vs : List V} : Rep K mg G d v → Reps K mg G ds vs → Reps K mg G (d :: ds) (v :: vs)
end

theorem same_tup {K : PySem.W.Frag} {H H' : Hp} {a : Addr} {xs : List V} (e : Same H H') (h : SqT K H a xs) : SqT K H' a xs := by
  rcases h with (h | ⟨o, h⟩) | h
  · exact .inl (.inl (e _ _ h))
  · exact .inl (.inr ⟨o, e _ _ h⟩)
  · exact .inr h

section
variable {K : PySem.W.Frag} {mg : Str → Option Value} {G G' : Hp}
mutual
theorem Rep.mono (e : Same G G') : ∀ {d : D} {v : V}, Rep K mg G d v → Rep K mg G' d v
  | _, _, .non => .non
  | _, _, .bl b => .bl b
  | _, _, .int b => .int b
  | _, _, .str b => .str b
  | _, _, .lst h r => .lst (e _ _ h) (Reps.mono e r)
  | _, _, .rol h r => .rol (e.seq h) (Reps.mono e r)
  | _, _, .tup h r => .tup (same_tup e h) (Reps.mono e r)
  | _, _, .obj m h l r => .obj m (e _ _ h) l (Reps.mono e r)
  | _, _, .dic h l r => .dic (e _ _ h) l (Reps.mono e r)
  | _, _, .dit h l k r => .dit (e _ _ h) l (Reps.mono e k) (Reps.mono e r)
theorem Reps.mono (e : Same G G') : ∀ {ds : List D} {vs : List V}, Reps K mg G ds vs → Reps K mg G' ds vs
  | _, _, .nil => .nil
  | _, _, .cons r t => .cons (Rep.mono e r) (Reps.mono e t)
end
theorem Reps.length : ∀ {ds : List D} {vs : List V}, Reps K mg G ds vs → ds.length = vs.length
  | _, _, .nil => rfl
  | _, _, .cons _ t => by rw [List.length_cons, List.length_cons, t.length]
theorem Reps.get : ∀ {ds : List D} {vs : List V} {i : Nat} {d : D}, Reps K mg G ds vs → ds[i]? = some d → ∃ v, vs[i]? = some v ∧ Rep K mg G d v
  | _, _, _, _, .nil, e => by simp at e
  | _, _, 0, _, .cons r _, e => by simp at e; subst e; exact ⟨_, rfl, r⟩
  | _, _, i + 1, d, .cons _ t, e => by
    obtain ⟨v, h1, h2⟩ := Reps.get (i := i) (d := d) t (by simpa using e)
    exact ⟨v, by simpa using h1, h2⟩
theorem Reps.get' : ∀ {ds : List D} {vs : List V} {i : Nat} {v : V}, Reps K mg G ds vs → vs[i]? = some v → ∃ d, ds[i]? = some d ∧ Rep K mg G d v
  | _, _, _, _, .nil, e => by simp at e
  | _, _, 0, _, .cons r _, e => by simp at e; subst e; exact ⟨_, rfl, r⟩
  | _, _, i + 1, d, .cons _ t, e => by
    obtain ⟨v, h1, h2⟩ := Reps.get' (i := i) (v := d) t (by simpa using e)
    exact ⟨v, by simpa using h1, h2⟩
theorem Reps.app : ∀ {ds es : List D} {vs ws : List V}, Reps K mg G ds vs → Reps K mg G es ws → Reps K mg G (ds ++ es) (vs ++ ws)
  | _, _, _, _, .nil, s => s
  | _, _, _, _, .cons r t, s => .cons r (t.app s)
theorem Reps.take : ∀ {ds : List D} {vs : List V} (n : Nat), Reps K mg G ds vs → Reps K mg G (ds.take n) (vs.take n)
  | _, _, 0, _ => .nil
  | _, _, _ + 1, .nil => .nil
  | _, _, n + 1, .cons r t => .cons r (t.take n)
theorem Reps.drop : ∀ {ds : List D} {vs : List V} (n : Nat), Reps K mg G ds vs → Reps K mg G (ds.drop n) (vs.drop n)
  | _, _, 0, r => r
  | _, _, _ + 1, .nil => .nil
  | _, _, n + 1, .cons _ t => t.drop n
theorem Reps.set {d : D} {v : V} (q : Rep K mg G d v) : ∀ {ds : List D} {vs : List V} (n : Nat), Reps K mg G ds vs → Reps K mg G (ds.set n d) (vs.set n v)
  | _, _, _, .nil => .nil
  | _, _, 0, .cons r t => .cons q t
  | _, _, n + 1, .cons r t => .cons r (t.set q n)
theorem Reps.rep (xs : List D) (vs : List V) (r : Reps K mg G xs vs) : ∀ k : Nat, Reps K mg G (List.replicate k xs).flatten (List.replicate k vs).flatten
  | 0 => .nil
  | k + 1 => by
    rw [List.replicate_succ, List.replicate_succ, List.flatten_cons, List.flatten_cons]
    exact r.app (Reps.rep xs vs r k)
theorem Reps.rev {ds : List D} {vs : List V} (r : Reps K mg G ds vs) : Reps K mg G ds.reverse vs.reverse := by
  induction r using Reps.rec (motive_1 := fun _ _ _ => True) with
  | non => trivial
  | bl => trivial
  | int => trivial
  | str => trivial
  | lst => trivial
  | rol => trivial
  | tup => trivial
  | obj => trivial
  | dic => trivial
  | dit => trivial
  | nil => exact .nil
  | cons r t _ ih =>
    rw [List.reverse_cons, List.reverse_cons]
    exact ih.app (.cons r .nil)
end

theorem Rep.sc {K : PySem.W.Frag} {mg : Str → Option Value} {G G' : Hp} {d : D} {v : V} (r : Rep K mg G d v) (h : d.sc = true) : Rep K mg G' d v := by
  cases r <;> first | exact .non | exact .bl _ | exact .int _ | exact .str _ | exact absurd h (by simp [D.sc])

/-- how a thing of one's own stands in the heap -/
def HOK (mg : Str → Option Value) (a : Addr) : OwK → List V → HO → Prop
  | .lst, vs, o => o = .lst vs
  | .dic ks, vs, o => ∃ kk : List Key, ks = kk.map keyD ∧ vs.length = kk.length ∧ o = .dK (kk.zip vs) ∧ kk.Nodup
  | .ins C ns, vs, o => ∃ c dx : Addr, mg (C : Str) = some (.ref c) ∧ vs.length = ns.length ∧ o = .ins c dx ((ns.map Str.ofString).zip vs)
  | .dit ks, vs, o => ∃ (ob : Obj) (ka : List Addr) (ws : List V), vs = ka.map V.ref ++ ws ∧ DitOk ks ka ws ∧ o = dN a ob (entZ ks ka ws)
/-- all that a thing of one's own bears -/
def OwK.all : OwK → List D → List D
  | .dit ks, ds => ks ++ ds
  | _, ds => ds
theorem Reps.split {K : PySem.W.Frag} {mg : Str → Option Value} {G : Hp} : ∀ {ks ds : List D} {us vs : List V}, ks.length = us.length → Reps K mg G (ks ++ ds) (us ++ vs) → Reps K mg G ks us ∧ Reps K mg G ds vs
  | [], _, [], _, _, r => ⟨.nil, r⟩
  | [], _, _ :: _, _, h, _ => by simp at h
  | _ :: _, _, [], _, h, _ => by simp at h
  | k :: ks, ds, u :: us, vs, h, r => by
    cases r with
    | cons r1 r2 =>
      obtain ⟨a, b⟩ := Reps.split (by simpa using h) r2
      exact ⟨.cons r1 a, b⟩
theorem HOK.rep {K : PySem.W.Frag} {mg : Str → Option Value} {G : Hp} {k : OwK} {ds : List D} {vs : List V} {o : HO} {a : Addr} (h : HOK mg a k vs o) (e : G a = some o) (r : Reps K mg G (k.all ds) vs) : Rep K mg G (k.asD ds) (.ref a) := by
  cases k with
  | lst =>
    cases h
    exact .lst e r
  | dic ks =>
    obtain ⟨kk, rfl, hl, rfl, _⟩ := h
    exact .dic e hl r
  | ins C ns =>
    obtain ⟨c, dx, hm, hl, rfl⟩ := h
    exact .obj hm e hl r
  | dit ks =>
    obtain ⟨ob, ka, ws, rfl, dk, rfl⟩ := h
    obtain ⟨r1, r2⟩ := Reps.split (by rw [List.length_map, dk.ka]) r
    exact .dit e dk r1 r2
theorem OwK.sc {k : OwK} {ds : List D} : (k.asD ds).sc = false := by cases k <;> rfl

/-! ### the area -/
/-- what a def (or a loop's turn) starts from: G what it may hand on, H all that stands, X what is written besides -/
structure Bs where
  G : Hp
  H : Hp
  X : Addr → Prop
def Bs.add (B : Bs) (a : Addr) : Bs := ⟨B.G, B.H, fun x => x = a ∨ B.X x⟩
def Own (ρ : Rho) (σ : St) (a : Addr) : Prop := ∃ (i : Nat) (k : OwK) (ds : List D), ρ[i]? = some (.oo k ds) ∧ σ[i]? = some (some (.ref a))
open Classical in
noncomputable def ar (B : Bs) (ρ : Rho) (σ : St) (H : Hp) : Hp := fun a => if B.X a ∨ Own ρ σ a then none else if B.H a = none then H a else B.G a
section
variable {B : Bs} {ρ ρ' : Rho} {σ σ' : St} {H H' : Hp} {a : Addr} {o : HO}
theorem ar_mono (e : Same H H') : Same (ar B ρ σ H) (ar B ρ σ H') := fun a o h => by
  unfold ar at h ⊢
  split at h
  · cases h
  · rename_i hx
    rw [if_neg hx]
    split at h
    · rename_i hn
      rw [if_pos hn]
      exact e _ _ h
    · rename_i hn
      rw [if_neg hn]
      exact h
theorem ar_sub (g : Same B.G B.H) (e : Same B.H H) : Same (ar B ρ σ H) H := fun a o h => by
  unfold ar at h
  split at h
  · cases h
  · split at h
    · exact h
    · exact e _ _ (g _ _ h)
theorem ar_own (h : ∀ a, Own ρ' σ' a → Own ρ σ a) : Same (ar B ρ σ H) (ar B ρ' σ' H) := fun a o e => by
  unfold ar at e ⊢
  split at e
  · cases e
  · rename_i hx
    rw [if_neg (fun z => hx (z.imp id (h a)))]
    exact e
/-- a write at an address that is out of the area -/
theorem ar_upd {o' : HO} (h : B.X a ∨ Own ρ σ a) : ar B ρ σ (upd H a o') = ar B ρ σ H := by
  funext b
  unfold ar
  by_cases hb : B.X b ∨ Own ρ σ b
  · rw [if_pos hb, if_pos hb]
  · rw [if_neg hb, if_neg hb]
    have : b ≠ a := fun z => hb (z ▸ h)
    rw [upd_ne this]
theorem ar_add : Same (ar (B.add a) ρ σ H) (ar B ρ σ H) := fun b o e => by
  unfold ar at e ⊢
  split at e
  · cases e
  · rename_i hx
    have hx' : ¬ (B.X b ∨ Own ρ σ b) := fun z => hx (z.imp (fun q => .inr q) id)
    rw [if_neg hx']
    exact e
theorem ar_add_ne : ∀ {b : Addr}, b ≠ a → ar B ρ σ H b = ar (B.add a) ρ σ H b := fun {b} hb => by
  by_cases hx : B.X b ∨ Own ρ σ b
  · have h2 : (B.add a).X b ∨ Own ρ σ b := hx.imp (fun z => .inr z) id
    unfold ar
    rw [if_pos hx, if_pos h2]
  · have h2 : ¬ ((B.add a).X b ∨ Own ρ σ b) := fun z => hx (z.imp (fun q => q.resolve_left hb) id)
    unfold ar
    rw [if_neg hx, if_neg h2]
    rfl
/-- all that stood in the area stands, where a new address is laid aside -/
theorem ar_new (hB : B.H a = none) (hn : H a = none) (e : Same H H') : Same (ar B ρ σ H) (ar (B.add a) ρ σ H') := fun b o h => by
  have hb : b ≠ a := fun z => by
    subst z
    unfold ar at h
    rw [hB, hn] at h
    simp at h
  rw [← ar_add_ne hb]
  exact ar_mono e _ _ h
end

/-- the slots stand for what the frame holds -/
abbrev ExE := Option (Nat × String × Addr)
structure SR (K : PySem.W.Frag) (mg : Str → Option Value) (E : ExE) (B : Bs) (ρ : Rho) (σ : St) (H : Hp) : Prop where
  len : ρ.length = σ.length
  fz : ∀ (i : Nat) (d : D), ρ[i]? = some (.fz d) → ∃ v : V, σ[i]? = some (some v) ∧ Rep K mg (ar B ρ σ H) d v
  ow : ∀ (i : Nat) (k : OwK) (ds : List D), ρ[i]? = some (.oo k ds) → ∃ (a : Addr) (o : HO) (vs : List V), σ[i]? = some (some (.ref a)) ∧ H a = some o ∧ HOK mg a k vs o ∧ Reps K mg (ar B ρ σ H) (k.all ds) vs
  dj : ∀ (i j : Nat) (a : Addr) (k l : OwK) (ds es : List D), ρ[i]? = some (.oo k ds) → ρ[j]? = some (.oo l es) → σ[i]? = some (some (.ref a)) → σ[j]? = some (some (.ref a)) → i = j
  ex : ∀ (i : Nat) (C : String), ρ[i]? = some (.ex C) → ∃ a : Addr, E = some (i, C, a) ∧ σ[i]? = some (some (.ref a))
  gh : Same B.G B.H
  bh : Same B.H H
  new : ∀ a, B.X a ∨ Own ρ σ a → B.H a = none
  xo : ∀ a, B.X a → ¬ Own ρ σ a
  xt : ∀ a, B.X a → ∃ o, H a = some o
section
variable {K : PySem.W.Frag} {mg : Str → Option Value} {E : ExE} {B : Bs} {ρ ρ' : Rho} {σ σ' : St} {H H' : Hp}
theorem SR.mono (S : SR K mg E B ρ σ H) (e : Same H H') : SR K mg E B ρ σ H' where
  len := S.len
  fz := fun i d h => let ⟨v, h1, h2⟩ := S.fz i d h; ⟨v, h1, h2.mono (ar_mono e)⟩
  ow := fun i k ds h => let ⟨a, o, vs, h1, h2, hk, h3⟩ := S.ow i k ds h; ⟨a, o, vs, h1, e _ _ h2, hk, h3.mono (ar_mono e)⟩
  dj := S.dj
  ex := S.ex
  gh := S.gh
  bh := S.bh.trans e
  new := S.new
  xo := S.xo
  xt := fun a h => let ⟨o, q⟩ := S.xt a h; ⟨o, e _ _ q⟩
theorem SR.sub (S : SR K mg E B ρ σ H) : Same (ar B ρ σ H) H := ar_sub S.gh S.bh
theorem SR.there (S : SR K mg E B ρ σ H) {a : Addr} (h : Own ρ σ a) : ∃ o, H a = some o := by
  obtain ⟨i, k, ds, h1, h2⟩ := h
  obtain ⟨b, o, vs, e1, e2, _⟩ := S.ow i k ds h1
  rw [h2] at e1
  cases e1
  exact ⟨o, e2⟩
/-- a slot's list -/
theorem SR.owl (S : SR K mg E B ρ σ H) (i : Nat) (ds : List D) (h : ρ[i]? = some (.ow ds)) : ∃ (a : Addr) (vs : List V), σ[i]? = some (some (.ref a)) ∧ H a = some (.lst vs) ∧ Reps K mg (ar B ρ σ H) ds vs := by
  obtain ⟨a, o, vs, h1, h2, hk, h3⟩ := S.ow i .lst ds h
  cases hk
  exact ⟨a, vs, h1, h2, h3⟩
theorem SR.newB (S : SR K mg E B ρ σ H) {a : Addr} (h : H a = none) : B.H a = none := S.bh.free h
/-- a new address may be laid aside -/
theorem SR.add (S : SR K mg E B ρ σ H) {a : Addr} {o : HO} (h : H a = none) (e : Same H H') (ha : H' a = some o) : SR K mg E (B.add a) ρ σ H' where
  len := S.len
  fz := fun i d h' => let ⟨v, h1, h2⟩ := S.fz i d h'; ⟨v, h1, h2.mono (ar_new (S.newB h) h e)⟩
  ow := fun i k ds h' => let ⟨b, o, vs, h1, h2, hk, h3⟩ := S.ow i k ds h'; ⟨b, o, vs, h1, e _ _ h2, hk, h3.mono (ar_new (S.newB h) h e)⟩
  dj := S.dj
  ex := S.ex
  gh := S.gh
  bh := S.bh.trans e
  new := fun b hb => by
    rcases hb with (rfl | hb) | hb
    · exact S.newB h
    · exact S.new b (.inl hb)
    · exact S.new b (.inr hb)
  xo := fun b hb ho => by
    rcases hb with rfl | hb
    · obtain ⟨vs, e⟩ := S.there ho
      rw [h] at e; cases e
    · exact S.xo b hb ho
  xt := fun b hb => by
    rcases hb with rfl | hb
    · exact ⟨_, ha⟩
    · obtain ⟨o, q⟩ := S.xt b hb
      exact ⟨o, e _ _ q⟩
end
end Dm
end

section
set_option Elab.async false
set_option linter.all false
set_option maxRecDepth 100000
set_option maxHeartbeats 4000000
/-! Dm: the judgement of an expression, and the rules of operators. -/
namespace Dm
open PySem PySem.Spec L2

def clsV (mg : Str → Option Value) (C : String) : Value := (mg (C : Str)).getD .none
def RT (K : PySem.W.Frag) (mg : Str → Option Value) (B : Bs) (ρ : Rho) (σ : St) (H H' : Hp) (d : D) : Tg → V → Prop
  | .cl, v => Rep K mg (ar B ρ σ H') d v
  | .own i, v => ∃ k ds, ρ[i]? = some (.oo k ds) ∧ d = k.asD ds ∧ σ[i]? = some (some v)
  | .fr, v => ∃ (a : Addr) (o : HO) (k : OwK) (ds : List D) (vs : List V), d = k.asD ds ∧ v = .ref a ∧ H a = none ∧ H' a = some o ∧ HOK mg a k vs o ∧ Reps K mg (ar (B.add a) ρ σ H') (k.all ds) vs
def GM (K : PySem.W.Frag) (mg : Str → Option Value) (W : WX) (B : Bs) (ρ : Rho) (σ : St) (H : Hp) (r : Res Val) (Q : VK) : Prop :=
  match r with
  | .ok (d, t) => ∀ v H', Same H H' → RT K mg B ρ σ H H' d t v → Q v H'
  | .ex C => ∀ H', Same H H' → W (clsV mg C) none σ H'
  | .bad => False
def tE (K : PySem.W.Frag) (mg : Str → Option Value) (E : ExE) (W : WX) (m : EM) : TE := fun σ H Q => ∃ B ρ, SR K mg E B ρ σ H ∧ GM K mg W B ρ σ H (m ρ) Q
abbrev PM (X : Cx) (E : ExE) (W : WX) (e : Expr) (m : EM) : Prop := PE X e (tE X.K X.mg E W m)

theorem PE.imp {X : Cx} {e : Expr} {t t' : TE} (h : PE X e t) (k : ∀ σ H Q, t' σ H Q → t σ H Q) : PE X e t' := ⟨fun pins s σ H Q I h' => h.run pins s σ H Q I (k σ H Q h')⟩
theorem PT.imp {X : Cx} {e : Expr} {t t' : TT} (h : PT X e t) (k : ∀ σ H Q, t' σ H Q → t σ H Q) : PT X e t' := ⟨fun pins s σ H Q I h' => h.run pins s σ H Q I (k σ H Q h')⟩
theorem PW.imp {X : Cx} {e : Expr} {t t' : TT} (h : PW X e t) (k : ∀ σ H Q, t' σ H Q → t σ H Q) : PW X e t' := ⟨fun w pins s σ H Q I h' => h.run w pins s σ H Q I (k σ H Q h')⟩
theorem PA.imp {X : Cx} {e : List Expr} {t t' : TA} (h : PA X e t) (k : ∀ σ H Q, t' σ H Q → t σ H Q) : PA X e t' := ⟨fun w pins s σ H Q I h' => h.run w pins s σ H Q I (k σ H Q h')⟩
theorem PS.imp {X : Cx} {e : Stmt} {t t' : TS} (h : PS X e t) (k : ∀ D σ H, t' D σ H → t D σ H) : PS X e t' := ⟨fun pins s σ H D I h' => h.run pins s σ H D I (k D σ H h')⟩
theorem PSs.imp {X : Cx} {e : List Stmt} {t t' : TS} (h : PSs X e t) (k : ∀ D σ H, t' D σ H → t D σ H) : PSs X e t' := ⟨fun pins s σ H D I h' => h.run pins s σ H D I (k D σ H h')⟩
theorem PI.imp {X : Cx} {tg e : Expr} {t t' : TI} (h : PI X tg e t) (k : ∀ σ H Q, t' σ H Q → t σ H Q) : PI X tg e t' := ⟨fun pins s σ H Q I h' => h.run pins s σ H Q I (k σ H Q h')⟩

theorem Same.upd {H : Hp} {p : Addr} {o : HO} (h : H p = none) : Same H (upd H p o) := fun b x e => by
  rw [upd_ne (ne_of_none e h)]
  exact e

section
variable {K : PySem.W.Frag} {mg : Str → Option Value} {E : ExE} {W : WX} {B : Bs} {ρ : Rho} {σ : St} {H H1 H2 : Hp} {d : D} {t : Tg} {v : V} {Q : VK}
theorem RT.mono (r : RT K mg B ρ σ H H1 d t v) (e : Same H1 H2) : RT K mg B ρ σ H H2 d t v := by
  cases t with
  | cl => exact Rep.mono (ar_mono e) r
  | own i => exact r
  | fr =>
    obtain ⟨a, o, k, ds, vs, h1, h2, h3, h4, hk, h5⟩ := r
    exact ⟨a, o, k, ds, vs, h1, h2, h3, e _ _ h4, hk, h5.mono (ar_mono e)⟩
theorem GM.mono {r : Res Val} (h : GM K mg W B ρ σ H r Q) (e : Same H H1) : GM K mg W B ρ σ H1 r Q := by
  cases r with
  | ok x =>
    obtain ⟨d, t⟩ := x
    intro v H' e' rt
    refine h v H' (e.trans e') ?_
    cases t with
    | cl => exact rt
    | own i => exact rt
    | fr =>
      obtain ⟨a, o, k, ds, vs, h1, h2, h3, h4, hk, h5⟩ := rt
      exact ⟨a, o, k, ds, vs, h1, h2, e.free h3, h4, hk, h5⟩
  | ex C => exact fun H' e' => h H' (e.trans e')
  | bad => exact h
theorem GM.imp {r : Res Val} {Q' : VK} (h : GM K mg W B ρ σ H r Q) (k : ∀ v H', Q v H' → Q' v H') : GM K mg W B ρ σ H r Q' := by
  cases r with
  | ok x => exact fun v H' e rt => k _ _ (h v H' e rt)
  | ex C => exact h
  | bad => exact h
theorem RT.rep (S : SR K mg E B ρ σ H1) (r : RT K mg B ρ σ H H1 d t v) : Rep K mg H1 d v := by
  cases t with
  | cl => exact Rep.mono S.sub r
  | own i =>
    obtain ⟨k, ds, h1, rfl, h3⟩ := r
    obtain ⟨a, o, vs, e1, e2, hk, e3⟩ := S.ow i k ds h1
    rw [h3] at e1
    cases e1
    exact hk.rep e2 (e3.mono S.sub)
  | fr =>
    obtain ⟨a, o, k, ds, vs, rfl, rfl, h3, h4, hk, h5⟩ := r
    exact hk.rep h4 ((h5.mono ar_add).mono S.sub)
/-- what is laid next leaves it -/
theorem GM.run {m : EM} (S : SR K mg E B ρ σ H) (h : GM K mg W B ρ σ H (m ρ) Q) : tE K mg E W m σ H Q := ⟨B, ρ, S, h⟩
theorem GM.bind {m : EM} {f : Val → Res Val} {R : VK} (S : SR K mg E B ρ σ H) (h : GM K mg W B ρ σ H ((m ρ).bind f) Q)
    (k : ∀ (d : D) (t : Tg) (v : V) (H1 : Hp), RT K mg B ρ σ H H1 d t v → Same H H1 → SR K mg E B ρ σ H1 → GM K mg W B ρ σ H1 (f (d, t)) Q → R v H1) : tE K mg E W m σ H R := by
  refine ⟨B, ρ, S, ?_⟩
  cases e : m ρ with
  | ok x =>
    obtain ⟨d, t⟩ := x
    rw [e] at h
    exact fun v H' s r => k d t v H' r s (S.mono s) (GM.mono h s)
  | ex C =>
    rw [e] at h
    exact h
  | bad =>
    rw [e] at h
    exact h
/-- a plain result -/
theorem GM.pure {d : D} (h : GM K mg W B ρ σ H (.ok (d, .cl)) Q) (r : Rep K mg (ar B ρ σ H) d v) : Q v H := h v H (Same.refl H) r
theorem GM.sc {d : D} (h : GM K mg W B ρ σ H (.ok (d, .cl)) Q) (r : Rep K mg (fun _ => none) d v) : Q v H :=
  h.pure (r.mono fun _ _ z => by cases z)
/-- a new list -/
theorem GM.fresh {ds : List D} {vs : List V} {p : Addr} (S : SR K mg E B ρ σ H) (h : GM K mg W B ρ σ H (.ok (.seq .lst ds, .fr)) Q) (r : Reps K mg (ar B ρ σ H) ds vs) (hp : H p = none) : Q (.ref p) (upd H p (.lst vs)) := by
  refine h (.ref p) _ (Same.upd hp) ⟨p, _, .lst, ds, vs, rfl, rfl, hp, upd_same, rfl, ?_⟩
  exact r.mono (ar_new (S.newB hp) hp (Same.upd hp))
theorem ar_at (S : SR K mg E B ρ σ H) {p : Addr} {o : HO} (hp : H p = none) : ar B ρ σ (upd H p o) p = some o := by
  have hB := S.newB hp
  have hx : ¬ (B.X p ∨ Own ρ σ p) := fun z => by
    rcases z with z | z
    · obtain ⟨o, e⟩ := S.xt p z
      rw [hp] at e; cases e
    · obtain ⟨vs, e⟩ := S.there z
      rw [hp] at e; cases e
  unfold ar
  rw [if_neg hx, if_pos hB, upd_same]
end
end Dm
end

section
set_option Elab.async false
set_option linter.all false
set_option maxRecDepth 100000
set_option maxHeartbeats 4000000
/-! Dm: the rules of expressions. -/
namespace Dm
open PySem PySem.Spec L2 TL

/-- what a value is read as -/
inductive RP (K : PySem.W.Frag) (mg : Str → Option Value) (B : Bs) (ρ : Rho) (σ : St) (H : Hp) : D → V → Prop
  | non : RP K mg B ρ σ H .non .non
  | bl (b : Bool) : RP K mg B ρ σ H (.bl b) (.bl b)
  | int (i : Int) : RP K mg B ρ σ H (.int i) (.int i)
  | str (s : List Nat) : RP K mg B ρ σ H (.str s) (.str ⟨s.toArray⟩)
  | lst {a : Addr} {ds : List D} {vs : List V} : H a = some (.lst vs) → Reps K mg (ar B ρ σ H) ds vs → RP K mg B ρ σ H (.seq .lst ds) (.ref a)
  | rol {a : Addr} {ds : List D} {vs : List V} : SqL K H a vs → Reps K mg (ar B ρ σ H) ds vs → RP K mg B ρ σ H (.seq .rol ds) (.ref a)
  | tup {a : Addr} {ds : List D} {vs : List V} : SqT K (ar B ρ σ H) a vs → Reps K mg (ar B ρ σ H) ds vs → RP K mg B ρ σ H (.seq .tup ds) (.ref a)
  | obj {C : String} {c a dx : Addr} {ns : List String} {ds : List D} {vs : List V} : mg (C : Str) = some (.ref c) → H a = some (.ins c dx ((ns.map Str.ofString).zip vs)) → vs.length = ns.length → Reps K mg (ar B ρ σ H) ds vs → RP K mg B ρ σ H (.obj C ns ds) (.ref a)
  | dic {a : Addr} {kk : List Key} {ds : List D} {vs : List V} : H a = some (.dK (kk.zip vs)) → vs.length = kk.length → Reps K mg (ar B ρ σ H) ds vs → RP K mg B ρ σ H (.dic (kk.map keyD) ds) (.ref a)
  | dit {a : Addr} {o : Obj} {ks ds : List D} {ka : List Addr} {vs : List V} : H a = some (dN a o (entZ ks ka vs)) → DitOk ks ka vs → Reps K mg (ar B ρ σ H) ks (ka.map V.ref) → Reps K mg (ar B ρ σ H) ds vs → RP K mg B ρ σ H (.dit ks ds) (.ref a)
section
variable {K : PySem.W.Frag} {mg : Str → Option Value} {E : ExE} {W : WX} {B : Bs} {ρ : Rho} {σ : St} {H H1 H2 : Hp} {d : D} {t : Tg} {v : V} {Q : VK}
theorem Rep.rp (S : SR K mg E B ρ σ H) (r : Rep K mg (ar B ρ σ H) d v) : RP K mg B ρ σ H d v := by
  cases r with
  | non => exact .non
  | bl b => exact .bl b
  | int b => exact .int b
  | str b => exact .str b
  | lst h r => exact .lst (S.sub _ _ h) r
  | rol h r => exact .rol (S.sub.seq h) r
  | tup h r => exact .tup h r
  | obj a b c d => exact .obj a (S.sub _ _ b) c d
  | dic a b c => exact .dic (S.sub _ _ a) b c
  | dit a b c d => exact .dit (S.sub _ _ a) b c d
theorem HOK.rp {k : OwK} {ds : List D} {vs : List V} {o : HO} {a : Addr} (h : HOK mg a k vs o) (e : H a = some o) (r : Reps K mg (ar B ρ σ H) (k.all ds) vs) : RP K mg B ρ σ H (k.asD ds) (.ref a) := by
  cases k with
  | lst =>
    cases h
    exact .lst e r
  | dic ks =>
    obtain ⟨kk, rfl, hl, rfl, _⟩ := h
    exact .dic e hl r
  | ins C ns =>
    obtain ⟨c, dx, hm, hl, rfl⟩ := h
    exact .obj hm e hl r
  | dit ks =>
    obtain ⟨ob, ka, ws, rfl, dk, rfl⟩ := h
    obtain ⟨r1, r2⟩ := Reps.split (by rw [List.length_map, dk.ka]) r
    exact .dit e dk r1 r2
theorem RT.rp (S : SR K mg E B ρ σ H1) (r : RT K mg B ρ σ H H1 d t v) : RP K mg B ρ σ H1 d v := by
  cases t with
  | cl => exact Rep.rp S r
  | own i =>
    obtain ⟨k, ds, h1, rfl, h3⟩ := r
    obtain ⟨a, o, vs, e1, e2, hk, e3⟩ := S.ow i k ds h1
    rw [h3] at e1
    cases e1
    exact hk.rp e2 e3
  | fr =>
    obtain ⟨a, o, k, ds, vs, rfl, rfl, h3, h4, hk, h5⟩ := r
    exact hk.rp h4 (h5.mono ar_add)
theorem RP.mono (r : RP K mg B ρ σ H d v) (e : Same H H1) : RP K mg B ρ σ H1 d v := by
  cases r with
  | non => exact .non
  | bl b => exact .bl b
  | int b => exact .int b
  | str b => exact .str b
  | lst h r => exact .lst (e _ _ h) (r.mono (ar_mono e))
  | rol h r => exact .rol (e.seq h) (r.mono (ar_mono e))
  | tup h r => exact .tup (same_tup (ar_mono e) h) (r.mono (ar_mono e))
  | obj a b c d => exact .obj a (e _ _ b) c (d.mono (ar_mono e))
  | dic a b c => exact .dic (e _ _ a) b (c.mono (ar_mono e))
  | dit a b c d => exact .dit (e _ _ a) b (c.mono (ar_mono e)) (d.mono (ar_mono e))
/-- its data may be read anywhere -/
theorem RP.rep (S : SR K mg E B ρ σ H) (r : RP K mg B ρ σ H d v) : Rep K mg H d v := by
  cases r with
  | non => exact .non
  | bl b => exact .bl b
  | int b => exact .int b
  | str b => exact .str b
  | lst h r => exact .lst h (r.mono S.sub)
  | rol h r => exact .rol h (r.mono S.sub)
  | tup h r => exact .tup (same_tup S.sub h) (r.mono S.sub)
  | obj a b c d => exact .obj a b c (d.mono S.sub)
  | dic a b c => exact .dic a b (c.mono S.sub)
  | dit a b c d => exact .dit a b (c.mono S.sub) (d.mono S.sub)
end

/-! ### constants and names -/
section
variable {X : Cx} {E : ExE} {W : WX} {pos : Pos}
theorem pm_int {i j} : PM X E W (.Constant (.int i) j pos) (mC (.int i)) := PE.imp pe_int fun σ H Q ⟨B, ρ, S, h⟩ => GM.sc (d := .int i) h (.int i)
theorem pm_bl {i j} : PM X E W (.Constant (.bool i) j pos) (mC (.bl i)) := PE.imp pe_bl fun σ H Q ⟨B, ρ, S, h⟩ => GM.sc (d := .bl i) h (.bl i)
theorem pm_non {j} : PM X E W (.Constant .none j pos) (mC .non) := PE.imp pe_non fun σ H Q ⟨B, ρ, S, h⟩ => GM.sc (d := .non) h .non
theorem pm_str {x : Str} {s : List Nat} {j} (hs : x = ⟨s.toArray⟩) : PM X E W (.Constant (.str x) j pos) (mC (.str s)) := PE.imp pe_str fun σ H Q ⟨B, ρ, S, h⟩ => by
  subst hs
  exact GM.sc (d := .str s) h (.str s)
theorem pm_var (i : Nat) {x : Str} (hN : X.N[i]? = some x := by rfl) (hv : Vis X.env.scope x := by first | exact Or.inl rfl | exact Or.inr (Or.inl rfl) | exact Or.inr (Or.inr rfl)) (hd : (x == ("__debug__" : Str)) = false := by decide)
    (hcd : (x == ("__classdict__" : Str)) = false := by decide) : PM X E W (.Name x pos) (mV i) := PE.imp (pe_var hN hv hd hcd) fun σ H Q ⟨B, ρ, S, h⟩ => by
  unfold mV at h
  split at h
  · rename_i d e
    obtain ⟨v, e1, r⟩ := S.fz i d e
    exact ⟨v, e1, GM.pure h r⟩
  · rename_i k ds e
    obtain ⟨a, o, vs, e1, e2, hk, e3⟩ := S.ow i k ds e
    exact ⟨.ref a, e1, h _ H (Same.refl H) ⟨k, ds, e, rfl, e1⟩⟩
  · exact False.elim h
/-- a constant of the module -/
theorem pm_glob {x : Str} {v : V} {d : D} {u : Value} (hg : Gl X x) (hm : X.mg x = some u) (r : RelV v u) (hr : Rep X.K X.mg (fun _ => none) d v) (hd : (x == ("__debug__" : Str)) = false := by decide) : PM X E W (.Name x pos) (mC d) :=
  PE.imp (pe_glob hg hm r hd) fun σ H Q ⟨B, ρ, S, h⟩ => GM.sc (d := d) h hr

/-! ### two operands -/
def OpM (X : Cx) (E : ExE) (W : WX) (r : R2) (f : Op2) : Prop := ∀ (B : Bs) (ρ : Rho) (σ : St) (H : Hp) (x y : D) (vx vy : V) (Q : VK),
  SR X.K X.mg E B ρ σ H → RP X.K X.mg B ρ σ H x vx → RP X.K X.mg B ρ σ H y vy → GM X.K X.mg W B ρ σ H (f x y) Q → r vx vy H Q
variable {a b c : Expr} {ma mb mc : EM}
theorem pm_bin {op : Operator} {r : R2} {f : Op2} (ho : OpR X (binaryOp op) r) (hf : OpM X E W r f) (ha : PM X E W a ma) (hb : PM X E W b mb) : PM X E W (.BinOp a op b pos) (mB f ma mb) :=
  PE.imp (pe_op ho ha hb) fun σ H Q ⟨B, ρ, S, h⟩ =>
    GM.bind S h fun x tx vx H1 rx e1 S1 h1 => GM.bind S1 h1 fun y ty vy H2 ry e2 S2 h2 => hf B ρ σ H2 x y vx vy Q S2 ((rx.rp S1).mono e2) (ry.rp S2) h2

/-! ints and texts -/
theorem op_mulS : OpR X (binaryOp .Mult) (fun x y H Q => ∃ i k, x = .str i ∧ y = .int k ∧ i.length * k.toNat ≤ sizeLine ∧ -(2 ^ 63 : Int) ≤ k ∧ k < 2 ^ 63 ∧ Q (.str (Txt.mul i k)) H) := by
  intro pins s σ H x y v u Q I rx ry h
  obtain ⟨i, k, rfl, rfl, h1, h2, h3, q⟩ := h
  obtain ⟨t, rfl⟩ := rx
  obtain ⟨t', rfl⟩ := ry
  rw [sizeLine_eq] at h1
  refine PySem.SB.mul ⟨?_, ?_, ?_⟩ fun t' k' => ⟨.str _, H, I.tok _, ⟨_, rfl⟩, q⟩
  · rw [Bool.or_eq_false_iff]
    exact ⟨decide_eq_false (by omega), decide_eq_false (by omega)⟩
  · intro h4 _ h5
    have h6 := Int.lt_ediv_add_one_mul_self (2 ^ 63 - 1) (show 0 < k by omega)
    have h7 := Int.mul_le_mul_of_nonneg_right (show (2 ^ 63 - 1) / k + 1 ≤ (i.length : Int) by omega) (show 0 ≤ k by omega)
    have h8 : ((i.length * k.toNat : Nat) : Int) = (i.length : Int) * k := by rw [Int.natCast_mul, Int.toNat_of_nonneg (by omega)]
    omega
  · intro h4 _
    show decide (_ > sizeLine) = false
    rw [sizeLine_eq]
    exact decide_eq_false (by omega)
theorem op_fdivX : OpR X (binaryOp .FloorDiv) (rI (fun _ j => j ≠ 0 ∧ j.natAbs.log2 < 9000) fun i j => .int (i.fdiv j)) := opI fun i j _ _ _ _ _ hc q =>
  PyProof.Rows.floordiv_int hc.1 q (.inl (PyProof.noPylong_of_log2 hc.2))
theorem str_app (s t : List Nat) : (⟨s.toArray⟩ : Str) ++ ⟨t.toArray⟩ = ⟨(s ++ t).toArray⟩ := ext_tl (by rw [tl_append])
theorem str_len (s : List Nat) : (⟨s.toArray⟩ : Str).length = s.length := rfl
theorem foldl_app (xs : Array Nat) : ∀ (k : Nat) (acc : Array Nat), ((List.replicate k xs).foldl (· ++ ·) acc).toList = acc.toList ++ (List.replicate k xs.toList).flatten
  | 0, acc => by simp
  | k + 1, acc => by
    rw [List.replicate_succ, List.foldl_cons, foldl_app xs k, List.replicate_succ, List.flatten_cons, Array.toList_append, List.append_assoc]
theorem mul_str (s : List Nat) (k : Int) : Txt.mul ⟨s.toArray⟩ k = ⟨((List.replicate k.toNat s).flatten).toArray⟩ := by
  apply ext_tl
  unfold Txt.mul
  by_cases h1 : k < 1
  · rw [if_pos h1, show k.toNat = 0 by omega]
    rfl
  · rw [if_neg h1]
    split
    · rename_i h2
      rw [Bool.or_eq_true] at h2
      rcases h2 with h2 | h2
      · rw [show k = 1 from by simpa using h2]
        simp [tl]
      · have : s = [] := by
          have := beq_iff_eq.mp h2
          rw [str_len] at this
          exact List.length_eq_zero_iff.mp this
        subst this
        simp [tl]
    · show (List.foldl (fun x1 x2 => x1 ++ x2) #[] (List.replicate k.toNat s.toArray)).toList = _
      rw [foldl_app]
      simp [tl]
theorem om_add : OpM X E W (fun x y H Q => ((rI0 fun i j => .int (i + j)) x y H Q ∨ (∃ i j, x = .str i ∧ y = .str j ∧ i.length + j.length ≤ sizeLine ∧ Q (.str (i ++ j)) H)) ∨ (rCat x y H Q ∨ rCatA X.K x y H Q)) oAdd := by
  intro B ρ σ H x y vx vy Q S rx ry h
  cases rx <;> cases ry <;> first | exact False.elim h | skip
  case int.int i j => exact .inl (.inl ⟨i, j, rfl, rfl, GM.sc (d := .int _) h (.int _)⟩)
  case str.str s t =>
    replace h : GM X.K X.mg W B ρ σ H (if s.length + t.length ≤ lim then sOk (.str (s ++ t)) else .bad) Q := h
    split at h
    · rename_i hl
      refine .inl (.inr ⟨_, _, rfl, rfl, Nat.le_trans hl lim_le, ?_⟩)
      rw [str_app]
      exact GM.sc (d := .str (s ++ t)) h (.str _)
    · exact False.elim h
  case lst.lst a xs vs hv rv b ys ws hw rw' =>
    replace h : GM X.K X.mg W B ρ σ H (if xs.length + ys.length ≤ lim then .ok (.seq .lst (xs ++ ys), .fr) else .bad) Q := h
    split at h
    · rename_i hl
      refine .inr (.inl ⟨a, b, vs, ws, rfl, rfl, hv, hw, ?_, fun p hp => GM.fresh S h (rv.app rw') hp⟩)
      rw [← rv.length, ← rw'.length]
      exact Nat.le_trans hl lim_le
    · exact False.elim h
  case tup.tup a xs vs hv rv b ys ws hw rw' =>
    replace h : GM X.K X.mg W B ρ σ H (if xs.length + ys.length ≤ lim then sOk (.seq .tup (xs ++ ys)) else .bad) Q := h
    split at h
    · rename_i hl
      refine .inr (.inr ⟨a, b, vs, ws, rfl, rfl, same_tup S.sub hv, same_tup S.sub hw, ?_, fun e => ?_, fun e1 e2 => ?_, fun e1 e2 p hp => ?_⟩)
      · rw [← rv.length, ← rw'.length]
        exact Nat.le_trans hl lim_le
      · subst e
        have hx : xs = [] := List.length_eq_zero_iff.mp (by rw [rv.length]; rfl)
        subst hx
        exact h (.ref b) H (Same.refl H) (Rep.tup hw rw')
      · subst e2
        have hx : ys = [] := List.length_eq_zero_iff.mp (by rw [rw'.length]; rfl)
        subst hx
        rw [List.append_nil] at h
        exact h (.ref a) H (Same.refl H) (Rep.tup hv rv)
      · exact h (.ref p) _ (Same.upd hp) (Rep.tup (.of (ar_at S hp)) ((rv.app rw').mono (ar_mono (Same.upd hp))))
    · exact False.elim h
theorem om_sub : OpM X E W (rI0 fun i j => .int (i - j)) oSub := by
  intro B ρ σ H x y vx vy Q S rx ry h
  cases rx <;> cases ry <;> first | exact False.elim h | skip
  case int.int i j => exact ⟨i, j, rfl, rfl, GM.sc (d := .int _) h (.int _)⟩
theorem om_mul : OpM X E W (fun x y H Q => (((rI CMul fun i j => .int (i * j)) x y H Q ∨ (rI CMulW fun i j => .int (i * j)) x y H Q) ∨ ∃ i k, x = .str i ∧ y = .int k ∧ i.length * k.toNat ≤ sizeLine ∧ -(2 ^ 63 : Int) ≤ k ∧ k < 2 ^ 63 ∧ Q (.str (Txt.mul i k)) H) ∨ rRep x y H Q) oMul := by
  intro B ρ σ H x y vx vy Q S rx ry h
  cases rx <;> cases ry <;> first | exact False.elim h | skip
  case int.int i j =>
    replace h : GM X.K X.mg W B ρ σ H (if mulOk i j then sOk (.int (i * j)) else .bad) Q := h
    split at h
    · rename_i hm
      have q := GM.sc (d := .int (i * j)) h (.int _)
      rw [mulOk_def] at hm
      simp only [Bool.or_eq_true, decide_eq_true_eq, lg2] at hm
      rcases hm with (hm | hm) | hm
      · exact .inl (.inl (.inl ⟨i, j, rfl, rfl, .inl (by omega), q⟩))
      · exact .inl (.inl (.inl ⟨i, j, rfl, rfl, .inr (by omega), q⟩))
      · exact .inl (.inl (.inr ⟨i, j, rfl, rfl, hm, q⟩))
    · exact False.elim h
  case str.int s k =>
    replace h : GM X.K X.mg W B ρ σ H (if decide (s.length * k.toNat ≤ lim) && decide (-9223372036854775808 ≤ k) && decide (k < 9223372036854775808) then sOk (.str (List.replicate k.toNat s).flatten) else .bad) Q := h
    split at h
    · rename_i hm
      simp only [Bool.and_eq_true, decide_eq_true_eq] at hm
      refine .inl (.inr ⟨_, k, rfl, rfl, by rw [lim_eq]; exact hm.1.1, by omega, by omega, ?_⟩)
      rw [mul_str]
      exact GM.sc (d := .str _) h (.str _)
    · exact False.elim h
  case lst.int a xs vs hv rv k =>
    replace h : GM X.K X.mg W B ρ σ H (if decide (-9223372036854775808 ≤ k) && decide (k < 9223372036854775808) && decide (xs.length * k.toNat ≤ lim) then .ok (.seq .lst (List.replicate k.toNat xs).flatten, .fr) else .bad) Q := h
    split at h
    · rename_i hm
      simp only [Bool.and_eq_true, decide_eq_true_eq] at hm
      refine .inr ⟨a, k, vs, rfl, rfl, hv, by omega, by omega, ?_, fun p hp => GM.fresh S h (Reps.rep _ _ rv _) hp⟩
      rw [← rv.length]
      exact Nat.le_trans hm.2 lim_le
    · exact False.elim h
theorem om_fdiv : OpM X E W (fun x y H Q => (rI CDivW fun i j => .int (i / j)) x y H Q ∨ (rI (fun _ j => j ≠ 0 ∧ j.natAbs.log2 < 9000) fun i j => .int (i.fdiv j)) x y H Q) oFdiv := by
  intro B ρ σ H x y vx vy Q S rx ry h
  cases rx <;> cases ry <;> first | exact False.elim h | skip
  case int.int i j =>
    replace h : GM X.K X.mg W B ρ σ H (if decide (j ≠ 0) && lg j 9000 then sOk (.int (fdivI i j)) else .bad) Q := h
    split at h
    · rename_i hm
      simp only [Bool.and_eq_true, decide_eq_true_eq, lg_def] at hm
      have q := GM.sc (d := .int _) h (.int _)
      unfold fdivI at q
      split at q
      · rename_i hj
        exact .inl ⟨i, j, rfl, rfl, ⟨hj, hm.2⟩, q⟩
      · exact .inr ⟨i, j, rfl, rfl, hm, q⟩
    · exact False.elim h
theorem om_mod : OpM X E W (fun x y H Q => (rI (fun _ j => 0 < j) fun i j => .int (i % j)) x y H Q ∨ (rI (fun _ j => j ≠ 0) fun i j => .int (i.fmod j)) x y H Q) oMod := by
  intro B ρ σ H x y vx vy Q S rx ry h
  cases rx <;> cases ry <;> first | exact False.elim h | skip
  case int.int i j =>
    replace h : GM X.K X.mg W B ρ σ H (if decide (j ≠ 0) then sOk (.int (fmodI i j)) else .bad) Q := h
    split at h
    · rename_i hm
      simp only [decide_eq_true_eq] at hm
      have q := GM.sc (d := .int _) h (.int _)
      unfold fmodI at q
      split at q
      · rename_i hj
        exact .inl ⟨i, j, rfl, rfl, hj, q⟩
      · exact .inr ⟨i, j, rfl, rfl, hm, q⟩
    · exact False.elim h
theorem om_pow : OpM X E W (rI CPow fun i j => .int (i ^ j.toNat)) oPow := by
  intro B ρ σ H x y vx vy Q S rx ry h
  cases rx <;> cases ry <;> first | exact False.elim h | skip
  case int.int i j =>
    replace h : GM X.K X.mg W B ρ σ H (if decide (0 ≤ j) && decide (j ≤ 1000000) && decide (i.natAbs < 18446744073709551616) then sOk (.int (i ^ j.toNat)) else .bad) Q := h
    split at h
    · rename_i hm
      simp only [Bool.and_eq_true, decide_eq_true_eq] at hm
      exact ⟨i, j, rfl, rfl, ⟨hm.1.1, hm.1.2, hm.2⟩, GM.sc (d := .int _) h (.int _)⟩
    · exact False.elim h
theorem om_shr : OpM X E W (rI (fun _ j => 0 ≤ j) fun i j => .int (i / 2 ^ j.toNat)) oShr := by
  intro B ρ σ H x y vx vy Q S rx ry h
  cases rx <;> cases ry <;> first | exact False.elim h | skip
  case int.int i j =>
    replace h : GM X.K X.mg W B ρ σ H (if decide (0 ≤ j) then sOk (.int (i / 2 ^ j.toNat)) else .bad) Q := h
    split at h
    · rename_i hm
      exact ⟨i, j, rfl, rfl, of_decide_eq_true hm, GM.sc (d := .int _) h (.int _)⟩
    · exact False.elim h
theorem pm_add (ha : PM X E W a ma) (hb : PM X E W b mb) : PM X E W (.BinOp a .Add b pos) (mB oAdd ma mb) := pm_bin (OpR.or (OpR.or op_add op_add_str) (OpR.or op_cat op_catA)) om_add ha hb
theorem pm_sub (ha : PM X E W a ma) (hb : PM X E W b mb) : PM X E W (.BinOp a .Sub b pos) (mB oSub ma mb) := pm_bin op_sub om_sub ha hb
theorem pm_mul (ha : PM X E W a ma) (hb : PM X E W b mb) : PM X E W (.BinOp a .Mult b pos) (mB oMul ma mb) := pm_bin (OpR.or (OpR.or (OpR.or op_mul op_mulW) op_mulS) op_rep) om_mul ha hb
theorem pm_fdiv (ha : PM X E W a ma) (hb : PM X E W b mb) : PM X E W (.BinOp a .FloorDiv b pos) (mB oFdiv ma mb) := pm_bin (OpR.or op_fdivW op_fdivX) om_fdiv ha hb
theorem pm_mod (ha : PM X E W a ma) (hb : PM X E W b mb) : PM X E W (.BinOp a .Mod b pos) (mB oMod ma mb) := pm_bin (OpR.or op_mod op_modN) om_mod ha hb
theorem pm_pow (ha : PM X E W a ma) (hb : PM X E W b mb) : PM X E W (.BinOp a .Pow b pos) (mB oPow ma mb) := pm_bin op_pow om_pow ha hb
theorem pm_shr (ha : PM X E W a ma) (hb : PM X E W b mb) : PM X E W (.BinOp a .RShift b pos) (mB oShr ma mb) := pm_bin op_shr om_shr ha hb
theorem pm_neg (ha : PM X E W a ma) : PM X E W (.UnaryOp .USub a pos) (mNeg ma) :=
  PE.imp (pe_un un_neg ha) fun σ H Q ⟨B, ρ, S, h⟩ => GM.bind S h fun x tx vx H1 rx e1 S1 h1 => by
    have rp := rx.rp S1
    cases rp <;> first | exact False.elim h1 | skip
    case int i => exact ⟨i, rfl, GM.sc (d := .int (-i)) h1 (.int _)⟩
end
end Dm
end

section
set_option Elab.async false
set_option linter.all false
set_option maxRecDepth 100000
set_option maxHeartbeats 4000000
/-! Dm: comparisons, tests, places, displays, calls. -/
namespace Dm
open PySem PySem.Spec L2 TL

mutual
def toP : D → PyData
  | .non => .none
  | .bl b => .bool b
  | .int i => .int i
  | .str s => .str ⟨s.toArray⟩
  | .seq .tup xs => .tuple (toPs xs)
  | .seq _ xs => .list (toPs xs)
  | .obj _ _ _ => .dict []
  | .dic _ _ => .dict []
  | .dit _ _ => .dict []
def toPs : List D → List PyData
  | [] => []
  | d :: ds => toP d :: toPs ds
end
theorem lay_dp : ∀ (n : Nat) (d : D), D.lay n d = true → (PyData.canLay0 (toP d) = true ∧ (toP d).depth ≤ n) := by
  intro n
  induction n with
  | zero =>
    intro d h
    cases d with
    | str s => exact ⟨by
        show (s.toArray.all (· < 0x110000)) = true
        have : s.all (fun x => decide (x < 1114112)) = true := h
        simpa using this, Nat.le_refl _⟩
    | seq k xs => exact absurd h (by simp [D.lay])
    | obj => exact absurd h (by simp [D.lay])
    | dic => exact absurd h (by simp [D.lay])
    | dit => exact absurd h (by simp [D.lay])
    | _ => exact ⟨rfl, Nat.le_refl _⟩
  | succ n ih =>
    intro d h
    cases d with
    | str s => exact ⟨by
        show (s.toArray.all (· < 0x110000)) = true
        have : s.all (fun x => decide (x < 1114112)) = true := h
        simpa using this, Nat.zero_le _⟩
    | seq k xs =>
      have h' : xs.all (D.lay n) = true := h
      have key : ∀ ys : List D, ys.all (D.lay n) = true → PyData.canLayAll0 (toPs ys) = true ∧ PyData.depthAll (toPs ys) ≤ n := by
        intro ys
        induction ys with
        | nil => exact fun _ => ⟨rfl, Nat.zero_le _⟩
        | cons y ys ihy =>
          intro hy
          rw [List.all_cons, Bool.and_eq_true] at hy
          obtain ⟨a1, a2⟩ := ih y hy.1
          obtain ⟨b1, b2⟩ := ihy hy.2
          refine ⟨?_, ?_⟩
          · show (PyData.canLay0 (toP y) && PyData.canLayAll0 (toPs ys)) = true
            rw [a1, b1]; rfl
          · show max (toP y).depth (PyData.depthAll (toPs ys)) ≤ n
            exact Nat.max_le.mpr ⟨a2, b2⟩
      obtain ⟨k1, k2⟩ := key xs h'
      cases k <;> exact ⟨k1, Nat.succ_le_succ k2⟩
    | obj => exact absurd h (by simp [D.lay])
    | dic => exact absurd h (by simp [D.lay])
    | dit => exact absurd h (by simp [D.lay])
    | _ => exact ⟨rfl, Nat.zero_le _⟩
theorem lay_shaped {n : Nat} {d : D} (h : D.lay n d = true) (hn : n ≤ 64) : SeqAt.shaped (toP d) = true := by
  obtain ⟨a, b⟩ := lay_dp n d h
  unfold SeqAt.shaped
  rw [a, decide_eq_true (Nat.le_trans b hn)]
  rfl
section
variable {K : PySem.W.Frag} {mg : Str → Option Value} {H : Hp}
theorem rep_dp : ∀ (n : Nat) (d : D) (v : V), D.lay n d = true → Rep K mg H d v → Dp K H v (toP d) := by
  intro n
  induction n with
  | zero =>
    intro d v h r
    cases r <;> first | exact .non | exact .bl _ | exact .int _ | exact .str _ | exact absurd h (by simp [D.lay])
  | succ n ih =>
    have key : ∀ (ds : List D) (vs : List V), ds.all (D.lay n) = true → Reps K mg H ds vs → DpAll K H vs (toPs ds) := by
      intro ds
      induction ds with
      | nil =>
        intro vs _ r
        cases r
        exact .nil
      | cons d ds ihd =>
        intro vs h r
        cases r with
        | cons r1 r2 =>
          rw [List.all_cons, Bool.and_eq_true] at h
          exact .cons (ih d _ h.1 r1) (ihd _ h.2 r2)
    intro d v h r
    cases r with
    | non => exact .non
    | bl b => exact .bl b
    | int i => exact .int i
    | str s => exact .str _
    | lst a r => exact .lst (.of a) (key _ _ h r)
    | rol a r => exact .lst a (key _ _ h r)
    | tup a r => exact .tup a (key _ _ h r)
    | obj => exact absurd h (by simp [D.lay])
    | dic => exact absurd h (by simp [D.lay])
    | dit => exact absurd h (by simp [D.lay])
end
theorem eqv_toP : ∀ (n : Nat) (x y : D), D.lay n x = true → D.lay n y = true → PyData.eqv (toP x) (toP y) = D.eqv x y := by
  intro n
  induction n with
  | zero =>
    intro x y hx hy
    cases x <;> cases y <;> first | (simp [D.lay] at hx; done) | (simp [D.lay] at hy; done) | skip
    case str.str s t =>
      simp only [toP, PyData.eqv, D.eqv]
      rw [Bool.eq_iff_iff]
      simp
    all_goals simp only [toP, PyData.eqv, D.eqv]
  | succ n ih =>
    have key : ∀ (xs ys : List D), xs.all (D.lay n) = true → ys.all (D.lay n) = true → PyData.eqvAll (toPs xs) (toPs ys) = D.eqvs xs ys := by
      intro xs
      induction xs with
      | nil => intro ys _ _; cases ys <;> simp only [toPs, PyData.eqvAll, D.eqvs]
      | cons x xs ihx =>
        intro ys hx hy
        cases ys with
        | nil => simp only [toPs, PyData.eqvAll, D.eqvs]
        | cons y ys =>
          rw [List.all_cons, Bool.and_eq_true] at hx hy
          simp only [toPs, PyData.eqvAll, D.eqvs]
          rw [ih x y hx.1 hy.1, ihx ys hx.2 hy.2]
    intro x y hx hy
    cases x with
    | obj => simp [D.lay] at hx
    | dic => simp [D.lay] at hx
    | dit => simp [D.lay] at hx
    | seq k xs =>
      cases y with
      | obj => simp [D.lay] at hy
      | dic => simp [D.lay] at hy
      | dit => simp [D.lay] at hy
      | seq l ys =>
        have e := key xs ys hx hy
        cases k <;> cases l <;> simp only [toP, PyData.eqv, D.eqv, e] <;> rfl
      | _ => cases k <;> simp only [toP, PyData.eqv, D.eqv]
    | str s =>
      cases y with
      | obj => simp [D.lay] at hy
      | dic => simp [D.lay] at hy
      | dit => simp [D.lay] at hy
      | seq l ys => cases l <;> simp only [toP, PyData.eqv, D.eqv]
      | str t =>
        simp only [toP, PyData.eqv, D.eqv]
        rw [Bool.eq_iff_iff]
        simp
      | _ => simp only [toP, PyData.eqv, D.eqv]
    | _ =>
      cases y with
      | obj => simp [D.lay] at hy
      | dic => simp [D.lay] at hy
      | dit => simp [D.lay] at hy
      | seq l ys => cases l <;> simp only [toP, PyData.eqv, D.eqv]
      | _ => simp only [toP, PyData.eqv, D.eqv]

section
variable {X : Cx} {E : ExE} {W : WX} {pos : Pos} {a b c : Expr} {ma mb mc : EM}
def CmpM (X : Cx) (E : ExE) (W : WX) (r : R2) (f : D → D → Res Bool) : Prop := ∀ (B : Bs) (ρ : Rho) (σ : St) (H : Hp) (x y : D) (vx vy : V) (Q : VK),
  SR X.K X.mg E B ρ σ H → RP X.K X.mg B ρ σ H x vx → RP X.K X.mg B ρ σ H y vy → (∀ k, f x y = .ok k → Q (.bl k) H) → (∃ k, f x y = .ok k) → r vx vy H Q
/-- f never raises -/
def Mild (f : D → D → Res Bool) : Prop := ∀ x y C, f x y ≠ .ex C
theorem pm_cmp {op : CmpOp} {r : R2} {f : D → D → Res Bool} (ho : OpR X (compareOp op) r) (hf : CmpM X E W r f) (hm : Mild f) (ha : PM X E W a ma) (hb : PM X E W b mb) (hb' : behindInMarks op b = false) :
    PM X E W (.Compare a [op] [b] pos) (mCmp f ma mb) :=
  PE.imp (pe_cmpR ho ha hb hb') fun σ H Q ⟨B, ρ, S, h⟩ =>
    GM.bind S h fun x tx vx H1 rx e1 S1 h1 => GM.bind S1 h1 fun y ty vy H2 ry e2 S2 h2 => by
      refine hf B ρ σ H2 x y vx vy Q S2 ((rx.rp S1).mono e2) (ry.rp S2) (fun k e => ?_) ?_
      · rw [e] at h2
        exact GM.sc (d := .bl k) h2 (.bl k)
      · cases e : f x y with
        | ok k => exact ⟨k, rfl⟩
        | ex C => exact absurd e (hm x y C)
        | bad =>
          rw [e] at h2
          exact False.elim h2
theorem mild_ok {f : D → D → Res Bool} {x y : D} {g : Bool → Res Val} {B : Bs} {ρ : Rho} {σ : St} {H : Hp} {Q : VK} (hm : Mild f) (h : GM X.K X.mg W B ρ σ H ((f x y).bind g) Q) : ∃ k, f x y = .ok k := by
  cases e : f x y with
  | ok k => exact ⟨k, rfl⟩
  | ex C => exact absurd e (hm x y C)
  | bad =>
    rw [e] at h
    exact False.elim h
theorem pm_chain {op op' : CmpOp} {r r' : R2} {f f' : D → D → Res Bool} (ho : OpR X (compareOp op) r) (ho' : OpR X (compareOp op') r') (hf : CmpM X E W r f) (hf' : CmpM X E W r' f') (hm : Mild f) (hm' : Mild f')
    (ha : PM X E W a ma) (hb : PM X E W b mb) (hc : PM X E W c mc) (hl : lastMarks [op, op'] [b, c] = false := by with_unfolding_all rfl) :
    PM X E W (.Compare a [op, op'] [b, c] pos) (mChain f f' ma mb mc) :=
  PE.imp (pe_chain ho ho' ha hb hc hl) fun σ H Q ⟨B, ρ, S, h⟩ =>
    GM.bind S h fun x tx vx H1 rx e1 S1 h1 => GM.bind S1 h1 fun y ty vy H2 ry e2 S2 h2 => by
      refine hf B ρ σ H2 x y vx vy _ S2 ((rx.rp S1).mono e2) (ry.rp S2) (fun k e => ⟨k, rfl, ?_⟩) (mild_ok hm h2)
      rw [e] at h2
      cases k with
      | false => exact GM.sc (d := .bl false) h2 (.bl false)
      | true =>
        refine GM.bind S2 h2 fun z tz vz H3 rz e3 S3 h3 => ?_
        refine hf' B ρ σ H3 y z vy vz Q S3 ((ry.rp S2).mono e3) (rz.rp S3) (fun l e => ?_) (mild_ok hm' h3)
        rw [e] at h3
        exact GM.sc (d := .bl l) h3 (.bl l)

/-! the single comparisons -/
theorem mild_lt : Mild cLt := fun x y C => by cases x <;> cases y <;> simp [cLt]
theorem mild_le : Mild cLe := fun x y C => by cases x <;> cases y <;> simp [cLe]
theorem mild_gt : Mild cGt := fun x y C => by cases x <;> cases y <;> simp [cGt]
theorem mild_ge : Mild cGe := fun x y C => by cases x <;> cases y <;> simp [cGe]
theorem mild_eq : Mild cEq := fun x y C => by
  unfold cEq dEqB
  split
  · simp
  · split <;> simp
theorem mild_ne : Mild cNe := fun x y C => by
  have := mild_eq x y
  unfold cNe
  unfold cEq at this
  cases e : dEqB x y with
  | ok k => simp
  | ex C' => exact absurd e (this C')
  | bad => simp
theorem mild_isN : Mild cIsN := fun x y C => by cases y <;> simp [cIsN]
theorem mild_notN : Mild cNotN := fun x y C => by cases y <;> simp [cNotN]
theorem mild_in : Mild cIn := fun x y C => by
  unfold cIn
  split
  · simp
  · split <;> simp
  · simp
theorem mild_notIn : Mild cNotIn := fun x y C => by
  have := mild_in x y
  unfold cNotIn
  cases e : cIn x y with
  | ok k => simp
  | ex C' => exact absurd e (this C')
  | bad => simp

theorem cm_lt : CmpM X E W (fun x y H Q => (rI0 fun i j => .bl (decide (i < j))) x y H Q ∨ ∃ i j, x = .str i ∧ y = .str j ∧ Q (.bl (decide (i.cps.toList < j.cps.toList))) H) cLt := by
  intro B ρ σ H x y vx vy Q S rx ry hq ok
  obtain ⟨k, e⟩ := ok
  cases rx <;> cases ry <;> first | (cases e; done) | skip
  case int.int i j => exact .inl ⟨i, j, rfl, rfl, hq _ rfl⟩
  case str.str i j => exact .inr ⟨_, _, rfl, rfl, hq _ rfl⟩
theorem cm_le : CmpM X E W (fun x y H Q => (rI0 fun i j => .bl (decide (i ≤ j))) x y H Q ∨ ∃ i j, x = .str i ∧ y = .str j ∧ Q (.bl (!decide (j.cps.toList < i.cps.toList))) H) cLe := by
  intro B ρ σ H x y vx vy Q S rx ry hq ok
  obtain ⟨k, e⟩ := ok
  cases rx <;> cases ry <;> first | (cases e; done) | skip
  case int.int i j => exact .inl ⟨i, j, rfl, rfl, hq _ rfl⟩
  case str.str i j => exact .inr ⟨_, _, rfl, rfl, hq _ rfl⟩
theorem cm_gt : CmpM X E W (fun x y H Q => (rI0 fun i j => .bl (decide (j < i))) x y H Q ∨ ∃ i j, x = .str i ∧ y = .str j ∧ Q (.bl (decide (j.cps.toList < i.cps.toList))) H) cGt := by
  intro B ρ σ H x y vx vy Q S rx ry hq ok
  obtain ⟨k, e⟩ := ok
  cases rx <;> cases ry <;> first | (cases e; done) | skip
  case int.int i j => exact .inl ⟨i, j, rfl, rfl, hq _ rfl⟩
  case str.str i j => exact .inr ⟨_, _, rfl, rfl, hq _ rfl⟩
theorem cm_ge : CmpM X E W (fun x y H Q => (rI0 fun i j => .bl (decide (j ≤ i))) x y H Q ∨ ∃ i j, x = .str i ∧ y = .str j ∧ Q (.bl (!decide (i.cps.toList < j.cps.toList))) H) cGe := by
  intro B ρ σ H x y vx vy Q S rx ry hq ok
  obtain ⟨k, e⟩ := ok
  cases rx <;> cases ry <;> first | (cases e; done) | skip
  case int.int i j => exact .inl ⟨i, j, rfl, rfl, hq _ rfl⟩
  case str.str i j => exact .inr ⟨_, _, rfl, rfl, hq _ rfl⟩
theorem str_eq_iff (s t : List Nat) : ((⟨s.toArray⟩ : Str) = ⟨t.toArray⟩) ↔ s = t := by
  constructor
  · intro h
    have := congrArg (fun z : Str => z.cps.toList) h
    simpa using this
  · intro h
    rw [h]
theorem eqS_ok {x y : D} {vx vy : V} {k : Bool} {B : Bs} {ρ : Rho} {σ : St} {H : Hp} (rx : RP X.K X.mg B ρ σ H x vx) (ry : RP X.K X.mg B ρ σ H y vy) (e : dEqS x y = some k) : scal vx vy = true ∧ decide (vx = vy) = k := by
  cases rx <;> cases ry <;> first | (cases e; done) | skip
  all_goals (cases e; refine ⟨rfl, ?_⟩; first | rfl | (simp only [V.str.injEq, str_eq_iff, V.int.injEq, V.bl.injEq]; rw [Bool.eq_iff_iff]; simp) | simp)
theorem eq_cases {x y : D} {k : Bool} (e : dEqB x y = .ok k) : dEqS x y = some k ∨ (D.lay 12 x = true ∧ D.lay 12 y = true ∧ D.eqv x y = k) := by
  unfold dEqB at e
  split at e
  · rename_i b hb
    cases e
    exact .inl hb
  · split at e
    · rename_i hl
      rw [Bool.and_eq_true] at hl
      cases e
      exact .inr ⟨hl.1, hl.2, rfl⟩
    · cases e
theorem cm_eq : CmpM X E W (fun x y H Q => rEq x y H Q ∨ rEqD X.K x y H Q) cEq := by
  intro B ρ σ H x y vx vy Q S rx ry hq ok
  obtain ⟨k, e⟩ := ok
  have q := hq k e
  rcases eq_cases e with e1 | ⟨l1, l2, e1⟩
  · obtain ⟨h1, h2⟩ := eqS_ok rx ry e1
    rw [← h2] at q
    exact .inl ⟨h1, q⟩
  · rw [← e1, ← eqv_toP 12 x y l1 l2] at q
    exact .inr ⟨toP x, toP y, rep_dp 12 x vx l1 (rx.rep S), rep_dp 12 y vy l2 (ry.rep S), lay_shaped l1 (by decide), lay_shaped l2 (by decide), q⟩
theorem cm_ne : CmpM X E W (fun x y H Q => rNe x y H Q ∨ rNeD X.K x y H Q) cNe := by
  intro B ρ σ H x y vx vy Q S rx ry hq ok
  have : ∃ k, dEqB x y = .ok k := by
    obtain ⟨k, e⟩ := ok
    unfold cNe at e
    cases e' : dEqB x y with
    | ok k => exact ⟨k, rfl⟩
    | ex C => rw [e'] at e; cases e
    | bad => rw [e'] at e; cases e
  obtain ⟨k, e⟩ := this
  have q := hq (!k) (by unfold cNe; rw [e]; rfl)
  rcases eq_cases e with e1 | ⟨l1, l2, e1⟩
  · obtain ⟨h1, h2⟩ := eqS_ok rx ry e1
    rw [← h2] at q
    exact .inl ⟨h1, q⟩
  · rw [← e1, ← eqv_toP 12 x y l1 l2] at q
    exact .inr ⟨toP x, toP y, rep_dp 12 x vx l1 (rx.rep S), rep_dp 12 y vy l2 (ry.rep S), lay_shaped l1 (by decide), lay_shaped l2 (by decide), q⟩
theorem cm_isN : CmpM X E W (fun x y H Q => y = .non ∧ Q (.bl (decide (x = .non))) H) cIsN := by
  intro B ρ σ H x y vx vy Q S rx ry hq ok
  obtain ⟨k, e⟩ := ok
  cases ry <;> first | (cases e; done) | skip
  refine ⟨rfl, ?_⟩
  have q := hq k e
  cases rx <;> cases e <;> first | exact q | (rename_i r; cases r <;> exact q)
theorem cm_notN : CmpM X E W (fun x y H Q => y = .non ∧ Q (.bl (!decide (x = .non))) H) cNotN := by
  intro B ρ σ H x y vx vy Q S rx ry hq ok
  obtain ⟨k, e⟩ := ok
  cases ry <;> first | (cases e; done) | skip
  refine ⟨rfl, ?_⟩
  have q := hq k e
  cases rx <;> cases e <;> first | exact q | (rename_i r; cases r <;> exact q)
theorem sc_flat {x : D} {vx : V} {G : Hp} (r : Rep X.K X.mg G x vx) (h : x.sc = true) : flatV vx = true := by
  cases r <;> first | rfl | (cases h; done)
theorem scs_flat : ∀ {xs : List D} {vs : List V} {G : Hp}, Reps X.K X.mg G xs vs → xs.all D.sc = true → vs.all flatV = true
  | _, _, _, .nil, _ => rfl
  | _, _, _, .cons r t, h => by
    rw [List.all_cons, Bool.and_eq_true] at h ⊢
    exact ⟨sc_flat r h.1, scs_flat t h.2⟩
theorem eqV_eqv {x y : D} {vx vy : V} {G : Hp} (rx : Rep X.K X.mg G x vx) (ry : Rep X.K X.mg G y vy) (hx : x.sc = true) (hy : y.sc = true) : eqV vy vx = D.eqv y x := by
  cases rx <;> cases ry <;> first | (cases hx; done) | (cases hy; done) | skip
  case str.str s t =>
    simp only [eqV, D.eqv]
    rw [Bool.eq_iff_iff]
    simp only [beq_iff_eq, str_eq_iff]
  all_goals simp only [eqV, D.eqv]
theorem inV_inB {x : D} {vx : V} {G : Hp} (rx : Rep X.K X.mg G x vx) (hx : x.sc = true) : ∀ {xs : List D} {vs : List V}, Reps X.K X.mg G xs vs → xs.all D.sc = true → inV vx vs = inB x xs
  | _, _, .nil, _ => rfl
  | _, _, .cons r t, h => by
    rw [List.all_cons, Bool.and_eq_true] at h
    have ih := inV_inB rx hx t h.2
    unfold inV inB at ih ⊢
    rw [List.any_cons, List.any_cons, ih, eqV_eqv rx r hx h.1]
theorem lays_any {n : Nat} {x : D} (hx : D.lay n x = true) : ∀ {xs : List D}, xs.all (D.lay n) = true → ((toPs xs).any fun z => PyData.eqv z (toP x)) = inB x xs
  | [], _ => rfl
  | y :: ys, h => by
    rw [List.all_cons, Bool.and_eq_true] at h
    have ih := lays_any hx h.2
    unfold inB at ih ⊢
    simp only [toPs, List.any_cons]
    rw [ih, eqv_toP n y x h.1 hx]
theorem cm_in0 (neg : Bool) {x y : D} {vx vy : V} {Q : VK} {k : Bool} {B : Bs} {ρ : Rho} {σ : St} {H : Hp} (S : SR X.K X.mg E B ρ σ H) (rx : RP X.K X.mg B ρ σ H x vx) (ry : RP X.K X.mg B ρ σ H y vy) (e : cIn x y = .ok k) (q : Q (.bl (if neg then !k else k)) H) :
    (∃ (c : Nat) (z : Str), vx = .str ⟨#[c]⟩ ∧ vy = .str z ∧ Q (.bl (if neg then !decide (c ∈ z.cps.toList) else decide (c ∈ z.cps.toList))) H) ∨ (rIn X.K neg vx vy H Q ∨
      (∃ d ds, Dp X.K H vx d ∧ Dp X.K H vy (.list ds) ∧ SeqAt.shaped d = true ∧ SeqAt.shaped (.list ds) = true ∧ Q (.bl (if neg then !ds.any fun z => PyData.eqv z d else ds.any fun z => PyData.eqv z d)) H)) := by
  have fin : ∀ (kd : SK) (xs : List D), y = .seq kd xs → (if (x.sc && xs.all D.sc) || (!(kd == .tup) && D.lay 11 x && xs.all (D.lay 11)) then (.ok (inB x xs) : Res Bool) else .bad) = .ok k →
      (rIn X.K neg vx vy H Q ∨ (∃ d ds, Dp X.K H vx d ∧ Dp X.K H vy (.list ds) ∧ SeqAt.shaped d = true ∧ SeqAt.shaped (.list ds) = true ∧ Q (.bl (if neg then !ds.any fun z => PyData.eqv z d else ds.any fun z => PyData.eqv z d)) H)) := by
    intro kd xs ey e1
    subst ey
    split at e1
    · rename_i hc
      cases e1
      rw [Bool.or_eq_true, Bool.and_eq_true, Bool.and_eq_true, Bool.and_eq_true] at hc
      have rx' := rx.rep S
      have rp := ry.rep S
      rcases hc with ⟨h1, h2⟩ | ⟨⟨h0, h1⟩, h2⟩
      · refine .inl ?_
        have key : ∀ (p : Addr) (vs : List V), vy = .ref p → (SqL X.K H p vs ∨ SqT X.K H p vs) → Reps X.K X.mg H xs vs → rIn X.K neg vx vy H Q := fun p vs ep hp r =>
          ⟨p, vs, ep, hp, sc_flat rx' h1, scs_flat r h2, by rw [inV_inB rx' h1 r h2]; exact q⟩
        cases rp with
        | lst a r => exact key _ _ rfl (.inl (.of a)) r
        | rol a r => exact key _ _ rfl (.inl a) r
        | tup a r => exact key _ _ rfl (.inr a) r
      · refine .inr ⟨toP x, toPs xs, rep_dp 11 x vx h1 rx', ?_, lay_shaped h1 (by decide), ?_, by rw [lays_any h1 h2]; exact q⟩
        · have hl : D.lay 12 (.seq kd xs) = true := h2
          have := rep_dp 12 _ vy hl rp
          cases kd with
          | tup => cases h0
          | lst => exact this
          | rol => exact this
        · have hl : D.lay 12 (.seq .lst xs) = true := h2
          exact lay_shaped hl (by decide)
    · cases e1
  unfold cIn at e
  split at e
  · rename_i c t
    cases e
    cases rx
    cases ry
    refine .inl ⟨c, _, rfl, rfl, ?_⟩
    exact q
  · rename_i kd xs hne
    exact .inr (fin _ _ rfl e)
  · cases e
theorem cm_in : CmpM X E W (fun x y H Q => (∃ (c : Nat) (z : Str), x = .str ⟨#[c]⟩ ∧ y = .str z ∧ Q (.bl (decide (c ∈ z.cps.toList))) H) ∨ (rIn X.K false x y H Q ∨ rInD X.K x y H Q)) cIn := by
  intro B ρ σ H x y vx vy Q S rx ry hq ok
  obtain ⟨k, e⟩ := ok
  exact cm_in0 false S rx ry e (hq k e)
theorem cm_notIn : CmpM X E W (fun x y H Q => (∃ (c : Nat) (z : Str), x = .str ⟨#[c]⟩ ∧ y = .str z ∧ Q (.bl (!decide (c ∈ z.cps.toList))) H) ∨ (rIn X.K true x y H Q ∨ rNotInD X.K x y H Q)) cNotIn := by
  intro B ρ σ H x y vx vy Q S rx ry hq ok
  have : ∃ k, cIn x y = .ok k := by
    obtain ⟨k, e⟩ := ok
    unfold cNotIn at e
    cases e' : cIn x y with
    | ok k => exact ⟨k, rfl⟩
    | ex C => rw [e'] at e; cases e
    | bad => rw [e'] at e; cases e
  obtain ⟨k, e⟩ := this
  exact cm_in0 true S rx ry e (hq (!k) (by unfold cNotIn; rw [e]; rfl))
theorem pm_lt (ha : PM X E W a ma) (hb : PM X E W b mb) : PM X E W (.Compare a [.Lt] [b] pos) (mCmp cLt ma mb) := pm_cmp (OpR.or op_lt op_lt_str) cm_lt mild_lt ha hb (nomark _)
theorem pm_le (ha : PM X E W a ma) (hb : PM X E W b mb) : PM X E W (.Compare a [.LtE] [b] pos) (mCmp cLe ma mb) := pm_cmp (OpR.or op_le op_le_str) cm_le mild_le ha hb (nomark _)
theorem pm_gt (ha : PM X E W a ma) (hb : PM X E W b mb) : PM X E W (.Compare a [.Gt] [b] pos) (mCmp cGt ma mb) := pm_cmp (OpR.or op_gt op_gt_str) cm_gt mild_gt ha hb (nomark _)
theorem pm_ge (ha : PM X E W a ma) (hb : PM X E W b mb) : PM X E W (.Compare a [.GtE] [b] pos) (mCmp cGe ma mb) := pm_cmp (OpR.or op_ge op_ge_str) cm_ge mild_ge ha hb (nomark _)
theorem pm_eq (hu : X.A.units + 64 < cLine) (ha : PM X E W a ma) (hb : PM X E W b mb) : PM X E W (.Compare a [.Eq] [b] pos) (mCmp cEq ma mb) := pm_cmp (OpR.or op_eq (op_eqD hu)) cm_eq mild_eq ha hb (nomark _)
theorem pm_ne (hu : X.A.units + 64 < cLine) (ha : PM X E W a ma) (hb : PM X E W b mb) : PM X E W (.Compare a [.NotEq] [b] pos) (mCmp cNe ma mb) := pm_cmp (OpR.or op_ne (op_neD hu)) cm_ne mild_ne ha hb (nomark _)
theorem pm_isN (ha : PM X E W a ma) (hb : PM X E W b mb) : PM X E W (.Compare a [.Is] [b] pos) (mCmp cIsN ma mb) := pm_cmp op_isN cm_isN mild_isN ha hb (nomark _)
theorem pm_notN (ha : PM X E W a ma) (hb : PM X E W b mb) : PM X E W (.Compare a [.IsNot] [b] pos) (mCmp cNotN ma mb) := pm_cmp op_notN cm_notN mild_notN ha hb (nomark _)
theorem pm_in (hu : X.A.units + 65 < cLine) (ha : PM X E W a ma) (hb : PM X E W b mb) (hm : behindInMarks .In b = false := by rfl) : PM X E W (.Compare a [.In] [b] pos) (mCmp cIn ma mb) := pm_cmp (OpR.or op_in_sign (OpR.or op_in_seq (op_inD hu))) cm_in mild_in ha hb hm
theorem pm_notIn (hu : X.A.units + 65 < cLine) (ha : PM X E W a ma) (hb : PM X E W b mb) (hm : behindInMarks .NotIn b = false := by rfl) : PM X E W (.Compare a [.NotIn] [b] pos) (mCmp cNotIn ma mb) := pm_cmp (OpR.or op_notIn_sign (OpR.or op_notIn_seq (op_notInD hu))) cm_notIn mild_notIn ha hb hm
end
end Dm
end

section
set_option Elab.async false
set_option linter.all false
set_option maxRecDepth 100000
set_option maxHeartbeats 4000000
/-! Dm: tests, places, displays, calls. -/
namespace Dm
open PySem PySem.Spec L2 TL

/-- what is wanted of a result: P of a value; a raise is taken -/
def GG {α : Type} (mg : Str → Option Value) (W : WX) (σ : St) (H : Hp) (P : α → Prop) : Res α → Prop
  | .ok a => P a
  | .ex C => ∀ H', Same H H' → W (clsV mg C) none σ H'
  | .bad => False
section
variable {K : PySem.W.Frag} {mg : Str → Option Value} {E : ExE} {W : WX} {B : Bs} {ρ : Rho} {σ : St} {H H1 H2 : Hp} {d : D} {t : Tg} {v : V} {Q : VK} {α β : Type}
theorem GG.mono {P P' : α → Prop} {r : Res α} (h : GG mg W σ H P r) (e : Same H H1) (k : ∀ a, P a → P' a) : GG mg W σ H1 P' r := by
  cases r with
  | ok a => exact k a h
  | ex C => exact fun H' e' => h H' (e.trans e')
  | bad => exact h
abbrev PV (K : PySem.W.Frag) (mg : Str → Option Value) (B : Bs) (ρ : Rho) (σ : St) (H : Hp) (Q : VK) : Val → Prop := fun x => ∀ v H', Same H H' → RT K mg B ρ σ H H' x.1 x.2 v → Q v H'
theorem GM.gg {r : Res Val} (h : GM K mg W B ρ σ H r Q) : GG mg W σ H (PV K mg B ρ σ H Q) r := by
  cases r with
  | ok x => exact h
  | ex C => exact h
  | bad => exact h
theorem GG.gm {r : Res Val} (h : GG mg W σ H (PV K mg B ρ σ H Q) r) : GM K mg W B ρ σ H r Q := by
  cases r with
  | ok x => exact h
  | ex C => exact h
  | bad => exact h
theorem GG.bindE {m : EM} {f : Val → Res α} {P : α → Prop} {R : VK} (S : SR K mg E B ρ σ H) (h : GG mg W σ H P ((m ρ).bind f))
    (k : ∀ (d : D) (t : Tg) (v : V) (H1 : Hp), RT K mg B ρ σ H H1 d t v → Same H H1 → SR K mg E B ρ σ H1 → GG mg W σ H P (f (d, t)) → R v H1) : tE K mg E W m σ H R := by
  refine ⟨B, ρ, S, ?_⟩
  cases e : m ρ with
  | ok x =>
    rw [e] at h
    exact fun v H' s r => k x.1 x.2 v H' r s (S.mono s) h
  | ex C =>
    rw [e] at h
    exact h
  | bad =>
    rw [e] at h
    exact h
/-! tests -/
def tT (K : PySem.W.Frag) (mg : Str → Option Value) (E : ExE) (W : WX) (m : TM) : TT := fun σ H Q => ∃ B ρ, SR K mg E B ρ σ H ∧ GG mg W σ H (fun b => ∀ H', Same H H' → Q b H') (m ρ)
abbrev PMT (X : Cx) (E : ExE) (W : WX) (e : Expr) (m : TM) : Prop := PT X e (tT X.K X.mg E W m)
abbrev PMW (X : Cx) (E : ExE) (W : WX) (e : Expr) (m : TM) : Prop := PW X e (tT X.K X.mg E W m)
theorem GG.bindT {m : TM} {f : Bool → Res α} {P : α → Prop} {R : Bool → Hp → Prop} (S : SR K mg E B ρ σ H) (h : GG mg W σ H P ((m ρ).bind f))
    (k : ∀ (b : Bool) (H1 : Hp), Same H H1 → SR K mg E B ρ σ H1 → GG mg W σ H P (f b) → R b H1) : tT K mg E W m σ H R := by
  refine ⟨B, ρ, S, ?_⟩
  cases e : m ρ with
  | ok x =>
    rw [e] at h
    exact fun H' s => k x H' s (S.mono s) h
  | ex C =>
    rw [e] at h
    exact h
  | bad =>
    rw [e] at h
    exact h
end
section
variable {X : Cx} {E : ExE} {W : WX} {pos : Pos} {a b c : Expr} {ma mb mc : EM} {es : List Expr}
theorem isB_bl {d : D} {α : Type} {σ : St} {H : Hp} {P : α → Prop} {f : Bool → Res α} {B : Bs} {ρ : Rho} {v : V} (r : RP X.K X.mg B ρ σ H d v) (h : GG X.mg W σ H P (d.isB.bind f)) : ∃ k, v = .bl k ∧ GG X.mg W σ H P (f k) := by
  cases r <;> first | exact False.elim h | skip
  case bl k => exact ⟨k, rfl, h⟩
/-- an expression that gives a truth, as a test -/
theorem pmt_val (ha : PM X E W a ma) (he : ∀ whole, isTrue a X.env whole = (do let v ← whole; standAt a.pos; holding [v] (truthy v)) := by intro _; rfl) : PMT X E W a (mTB ma) :=
  PT.imp (pt_val ha he) fun σ H Q ⟨B, ρ, S, h⟩ => GG.bindE S h fun x tx vx H1 rx e1 S1 h1 => by
    have rp := rx.rp S1
    cases rp <;> first | exact False.elim h1 | skip
    case bl k => exact ⟨k, rfl, h1 H1 e1⟩
theorem len_sne (s : List Nat) : (((⟨s.toArray⟩ : Str).length : Int) != 0) = !s.isEmpty := by
  cases s with
  | nil => rfl
  | cons c s =>
    have h : ((⟨(c :: s).toArray⟩ : Str).length : Int) = (s.length : Int) + 1 := by
      rw [str_len, List.length_cons]
      omega
    rw [h]
    simp only [List.isEmpty_cons, Bool.not_false, bne_iff_ne, ne_eq]
    omega
theorem emp_rep {K : PySem.W.Frag} {mg : Str → Option Value} {G : Hp} {ds : List D} {vs : List V} (r : Reps K mg G ds vs) : (!vs.isEmpty) = !ds.isEmpty := by
  cases r <;> rfl
/-- an expression of any kind as a test -/
theorem pmt_tru (ha : PM X E W a ma) (he : ∀ whole, isTrue a X.env whole = (do let v ← whole; standAt a.pos; holding [v] (truthy v)) := by intro _; rfl) : PMT X E W a (mT ma) :=
  PT.imp (pt_truth ha he) fun σ H Q ⟨B, ρ, S, h⟩ => GG.bindE S h fun x tx vx H1 rx e1 S1 h1 => by
    have rp := rx.rp S1
    cases rp <;> first | exact False.elim h1 | skip
    case non => exact ⟨false, rfl, h1 H1 e1⟩
    case bl k => exact ⟨k, rfl, h1 H1 e1⟩
    case int i => exact ⟨_, rfl, h1 H1 e1⟩
    case str s =>
      have h1' : GG X.mg W σ H (fun b => ∀ H', Same H H' → Q b H') (if s.length ≤ lim then .ok (!s.isEmpty) else .bad) := h1
      split at h1'
      · rename_i hl
        exact ⟨!s.isEmpty, ⟨Nat.le_trans hl lim_le, (len_sne s).symm⟩, h1' H1 e1⟩
      · exact False.elim h1'
    case lst a ds vs hv r => exact ⟨_, .inl ⟨vs, .of hv, (emp_rep r).symm⟩, h1 H1 e1⟩
    case rol a ds vs hv r => exact ⟨_, .inl ⟨vs, hv, (emp_rep r).symm⟩, h1 H1 e1⟩
    case tup a ds vs hv r => exact ⟨_, .inr (.inl ⟨vs, same_tup S1.sub hv, (emp_rep r).symm⟩), h1 H1 e1⟩
variable {ta tb : TM}
theorem pmw_and1 (hb : PMT X E W b tb) : PMW X E W (.BoolOp .And [b] pos) tb := pw_and1 hb
theorem pmw_or1 (hb : PMT X E W b tb) : PMW X E W (.BoolOp .Or [b] pos) tb := pw_or1 hb
theorem pmw_and (ha : PMT X E W a ta) (hb : PMW X E W (.BoolOp .And (b :: es) pos) tb) : PMW X E W (.BoolOp .And (a :: b :: es) pos) (tmAnd ta tb) :=
  PW.imp (pw_and ha hb) fun σ H Q ⟨B, ρ, S, h⟩ => GG.bindT S h fun k H1 e1 S1 h1 => by
    cases k with
    | true => exact iteT ⟨B, ρ, S1, GG.mono h1 e1 fun b q H' e' => q H' (e1.trans e')⟩
    | false => exact iteF (h1 H1 e1)
theorem pmw_or (ha : PMT X E W a ta) (hb : PMW X E W (.BoolOp .Or (b :: es) pos) tb) : PMW X E W (.BoolOp .Or (a :: b :: es) pos) (tmOr ta tb) :=
  PW.imp (pw_or ha hb) fun σ H Q ⟨B, ρ, S, h⟩ => GG.bindT S h fun k H1 e1 S1 h1 => by
    cases k with
    | true => exact iteT (h1 H1 e1)
    | false => exact iteF ⟨B, ρ, S1, GG.mono h1 e1 fun b q H' e' => q H' (e1.trans e')⟩
theorem pmt_w (h : PMW X E W a ta) : PMT X E W a ta := PW.pt h
theorem pmt_not (ha : PMT X E W a ta) : PMT X E W (.UnaryOp .Not a pos) (tmNot ta) :=
  PT.imp (pt_not ha) fun σ H Q ⟨B, ρ, S, h⟩ => GG.bindT S h fun k H1 e1 S1 h1 => h1 H1 e1
/-! values by tests -/
theorem pm_one {op} (hb : PM X E W b mb) : PM X E W (.BoolOp op [b] pos) mb := pe_one hb
theorem pm_and (ha : PM X E W a ma) (hb : PM X E W (.BoolOp .And (b :: es) pos) mb) : PM X E W (.BoolOp .And (a :: b :: es) pos) (mAnd ma mb) :=
  PE.imp (pe_and ha hb) fun σ H Q ⟨B, ρ, S, h⟩ => GM.bind S h fun x tx vx H1 rx e1 S1 h1 => by
    obtain ⟨k, rfl, h2⟩ := isB_bl (rx.rp S1) h1.gg
    refine ⟨k, rfl, ?_⟩
    cases k with
    | true => exact iteT ⟨B, ρ, S1, GG.gm h2⟩
    | false => exact iteF (GM.sc (d := .bl false) (GG.gm h2) (.bl false))
theorem pm_or (ha : PM X E W a ma) (hb : PM X E W (.BoolOp .Or (b :: es) pos) mb) : PM X E W (.BoolOp .Or (a :: b :: es) pos) (mOr ma mb) :=
  PE.imp (pe_or ha hb) fun σ H Q ⟨B, ρ, S, h⟩ => GM.bind S h fun x tx vx H1 rx e1 S1 h1 => by
    obtain ⟨k, rfl, h2⟩ := isB_bl (rx.rp S1) h1.gg
    refine ⟨k, rfl, ?_⟩
    cases k with
    | true => exact iteT (GM.sc (d := .bl true) (GG.gm h2) (.bl true))
    | false => exact iteF ⟨B, ρ, S1, GG.gm h2⟩
theorem pm_not (ha : PM X E W a ma) : PM X E W (.UnaryOp .Not a pos) (mNot ma) :=
  PE.imp (pe_not ha) fun σ H Q ⟨B, ρ, S, h⟩ => GM.bind S h fun x tx vx H1 rx e1 S1 h1 => by
    obtain ⟨k, rfl, h2⟩ := isB_bl (rx.rp S1) h1.gg
    exact ⟨k, rfl, GM.sc (d := .bl (!k)) (GG.gm h2) (.bl _)⟩
theorem pm_if (hc : PMT X E W c ta) (ha : PM X E W a ma) (hb : PM X E W b mb) : PM X E W (.IfExp c a b pos) (mIf ta ma mb) :=
  PE.imp (pe_ifExp hc ha hb) fun σ H Q ⟨B, ρ, S, h⟩ => GG.bindT S h.gg fun k H1 e1 S1 h1 => by
    have h2 : GM X.K X.mg W B ρ σ H1 (if k = true then ma ρ else mb ρ) Q := GM.mono (GG.gm h1) e1
    cases k with
    | true => exact iteT ⟨B, ρ, S1, h2⟩
    | false => exact iteF ⟨B, ρ, S1, h2⟩
/-! ### places -/
theorem pm_ix (ha : PM X E W a ma) (hb : PM X E W b mb) (hs : PlainIx b := by intro _ _; rfl) : PM X E W (.Subscript a b pos) (mIx ma mb) :=
  PE.imp (pe_ix ix_seq ha hb hs) fun σ H Q ⟨B, ρ, S, h⟩ => GM.bind S h fun x tx vx H1 rx e1 S1 h1 => GM.bind S1 h1 fun y ty vy H2 ry e2 S2 h2 => by
    have rpx := (rx.rp S1).mono e2
    have rpy := ry.rp S2
    have key : ∀ (ds : List D) (vs : List V) (i : Int) (k : SK), x = .seq k ds → y = .int i → Reps X.K X.mg (ar B ρ σ H2) ds vs → ∃ v, Dm.atI vs i = some v ∧ Q v H2 := by
      intro ds vs i k ex ey r
      subst ex ey
      have h3 : GM X.K X.mg W B ρ σ H2 ((match Dm.atI ds i with | some d => Res.ok d | none => Res.bad).bind fun d => .ok (d, .cl)) Q := h2
      cases e : Dm.atI ds i with
      | none =>
        rw [e] at h3
        exact False.elim h3
      | some d =>
        rw [e] at h3
        unfold Dm.atI at e
        cases ej : Dm.ixN ds.length i with
        | none => rw [ej] at e; cases e
        | some j =>
          rw [ej] at e
          obtain ⟨v, hv, rv⟩ := r.get (show ds[j]? = some d from e)
          refine ⟨v, ?_, GM.pure h3 rv⟩
          unfold Dm.atI
          rw [← r.length, ej]
          exact hv
    cases rpx <;> cases rpy <;> first | exact False.elim h2 | skip
    case lst.int p ds vs hv r i =>
      obtain ⟨v, e, q⟩ := key _ _ _ _ rfl rfl r
      exact .inl ⟨p, vs, i, v, rfl, rfl, .of hv, e, q⟩
    case rol.int p ds vs hv r i =>
      obtain ⟨v, e, q⟩ := key _ _ _ _ rfl rfl r
      exact .inl ⟨p, vs, i, v, rfl, rfl, hv, e, q⟩
    case tup.int p ds vs hv r i =>
      obtain ⟨v, e, q⟩ := key _ _ _ _ rfl rfl r
      exact .inr (.inl ⟨p, vs, i, v, rfl, rfl, same_tup S2.sub hv, e, q⟩)
    case str.int s i =>
      have h3 : GM X.K X.mg W B ρ σ H2 ((if s.length ≤ lim then (match Dm.atI s i with | some c => Res.ok (D.str [c]) | none => .bad) else .bad).bind fun d => .ok (d, .cl)) Q := h2
      split at h3
      · rename_i hl
        cases e : Dm.atI s i with
        | none =>
          rw [e] at h3
          exact False.elim h3
        | some c =>
          rw [e] at h3
          exact .inr (.inr ⟨_, i, c, rfl, rfl, Nat.le_trans hl lim_le, e, GM.sc (d := .str [c]) h3 (.str [c])⟩)
      · exact False.elim h3
/-! slices -/
def tO (K : PySem.W.Frag) (mg : Str → Option Value) (E : ExE) (W : WX) (m : OM) : TO := fun σ H Q => ∃ B ρ, SR K mg E B ρ σ H ∧ GG mg W σ H (fun o => ∀ H', Same H H' → Q o H') (m ρ)
abbrev PMO (X : Cx) (E : ExE) (W : WX) (e : Option Expr) (m : OM) : Prop := PO X e (tO X.K X.mg E W m)
theorem PO.imp {X : Cx} {e : Option Expr} {t t' : TO} (h : PO X e t) (k : ∀ σ H Q, t' σ H Q → t σ H Q) : PO X e t' := ⟨fun pins s σ H Q I h' => h.run pins s σ H Q I (k σ H Q h')⟩
theorem pmo_none : PMO X E W none mNoP := PO.imp po_none fun σ H Q ⟨B, ρ, S, h⟩ => h H (Same.refl H)
theorem pmo_some (ha : PM X E W a ma) : PMO X E W (some a) (mPart ma) := PO.imp (po_some ha) fun σ H Q ⟨B, ρ, S, h⟩ => GG.bindE S h fun x tx vx H1 rx e1 S1 h1 => by
  have rp := rx.rp S1
  cases rp <;> first | exact False.elim h1 | skip
  case int i => exact ⟨i, rfl, h1 H1 e1⟩
theorem GG.bindO {K : PySem.W.Frag} {mg : Str → Option Value} {B : Bs} {ρ : Rho} {σ : St} {H : Hp} {α : Type} {m : OM} {f : Option Int → Res α} {P : α → Prop} {R : Option Int → Hp → Prop} (S : SR K mg E B ρ σ H) (h : GG mg W σ H P ((m ρ).bind f))
    (k : ∀ (b : Option Int) (H1 : Hp), Same H H1 → SR K mg E B ρ σ H1 → GG mg W σ H P (f b) → R b H1) : tO K mg E W m σ H R := by
  refine ⟨B, ρ, S, ?_⟩
  cases e : m ρ with
  | ok x =>
    rw [e] at h
    exact fun H' s => k x H' s (S.mono s) h
  | ex C =>
    rw [e] at h
    exact h
  | bad =>
    rw [e] at h
    exact h
theorem cutL_rep {K : PySem.W.Frag} {mg : Str → Option Value} {G : Hp} {ds : List D} {vs : List V} (r : Reps K mg G ds vs) (lo hi : Option Int) : Reps K mg G (cutL ds lo hi) (cutV vs lo hi) := by
  rw [← cutL_eq]
  unfold cutL
  rw [r.length]
  exact (r.drop _).take _
theorem cutS_eq (s : List Nat) (lo hi : Option Int) : cutS ⟨s.toArray⟩ lo hi = ⟨(cutL s lo hi).toArray⟩ := by
  unfold cutS cutL
  rw [sIx_eq, sIx_eq]
  rfl
theorem pm_cut {lo hi : Option Expr} {ml mh : OM} {p2 : Pos} (ha : PM X E W a ma) (hl : PMO X E W lo ml) (hh : PMO X E W hi mh) : PM X E W (.Subscript a (.Slice lo hi none p2) pos) (mCut ma ml mh) :=
  PE.imp (pe_slice (SlR.or sl_str (SlR.or sl_list sl_tup)) ha hl hh) fun σ H Q ⟨B, ρ, S, h⟩ => GM.bind S h fun x tx vx H1 rx e1 S1 h1 =>
    GG.bindO S1 h1.gg fun l H2 e2 S2 h2 => GG.bindO S2 (GG.mono h2 e2 fun _ q => q) fun u H3 e3 S3 h3 => by
      have rp := ((rx.rp S1).mono e2).mono e3
      have h4 : GM X.K X.mg W B ρ σ H3 (dCut x l u) Q := by
        have g : GG X.mg W σ H3 (PV X.K X.mg B ρ σ H1 Q) (dCut x l u) := GG.mono h3 e3 fun _ q => q
        have e13 : Same H1 H3 := e2.trans e3
        refine GG.gm (GG.mono g (Same.refl H3) fun a q v H' e' r => q v H' (e13.trans e') ?_)
        obtain ⟨d, t⟩ := a
        cases t with
        | cl => exact r
        | own i => exact r
        | fr =>
          obtain ⟨a, o, k, ds, vs, q1, q2, q3, q4, hk, q5⟩ := r
          exact ⟨a, o, k, ds, vs, q1, q2, e13.free q3, q4, hk, q5⟩
      cases rp <;> first | exact False.elim h4 | skip
      case str s =>
        have h5 : GM X.K X.mg W B ρ σ H3 (if s.length ≤ lim then .ok (.str (cutL s l u), .cl) else .bad) Q := h4
        split at h5
        · rename_i hl
          refine .inl ⟨_, rfl, Nat.le_trans hl lim_le, ?_⟩
          rw [cutS_eq]
          exact GM.sc (d := .str _) h5 (.str _)
        · exact False.elim h5
      case lst p ds vs hv r => exact .inr (.inl ⟨p, vs, rfl, .of hv, fun p hp => GM.fresh S3 h4 (cutL_rep r l u) hp⟩)
      case rol p ds vs hv r => exact .inr (.inl ⟨p, vs, rfl, hv, fun p hp => GM.fresh S3 h4 (cutL_rep r l u) hp⟩)
      case tup p ds vs hv r =>
        have h5 : GM X.K X.mg W B ρ σ H3 (if sIx ds.length 0 l = 0 ∧ sIx ds.length ds.length u = ds.length then .bad else .ok (.seq .tup (cutL ds l u), .cl)) Q := h4
        split at h5
        · exact False.elim h5
        · rename_i hn
          refine .inr (.inr ⟨p, vs, rfl, same_tup S3.sub hv, ?_, fun p hp => ?_⟩)
          · rw [← sIx_eq, ← sIx_eq, ← r.length]
            exact hn
          · exact h5 (.ref p) _ (Same.upd hp) (Rep.tup (.of (ar_at S3 hp)) ((cutL_rep r l u).mono (ar_mono (Same.upd hp))))
end
end Dm
end

section
set_option Elab.async false
set_option linter.all false
set_option maxRecDepth 100000
set_option maxHeartbeats 4000000
/-! Dm: displays, calls. -/
namespace Dm
open PySem PySem.Spec L2 TL

inductive RTs (K : PySem.W.Frag) (mg : Str → Option Value) (B : Bs) (ρ : Rho) (σ : St) (H H' : Hp) : List Val → List V → Prop
  | nil : RTs K mg B ρ σ H H' [] []
  | cons {x : Val} {v : V} {xs : List Val} {vs : List V} : RT K mg B ρ σ H H' x.1 x.2 v → RTs K mg B ρ σ H H' xs vs → RTs K mg B ρ σ H H' (x :: xs) (v :: vs)
section
variable {K : PySem.W.Frag} {mg : Str → Option Value} {E : ExE} {W : WX} {B : Bs} {ρ : Rho} {σ : St} {H H1 H2 : Hp} {d : D} {t : Tg} {v : V} {Q : VK} {α β : Type}
theorem RT.base (e : Same H H1) (r : RT K mg B ρ σ H1 H2 d t v) : RT K mg B ρ σ H H2 d t v := by
  cases t with
  | cl => exact r
  | own i => exact r
  | fr =>
    obtain ⟨a, o, k, ds, vs, q1, q2, q3, q4, hk, q5⟩ := r
    exact ⟨a, o, k, ds, vs, q1, q2, e.free q3, q4, hk, q5⟩
theorem RTs.base (e : Same H H1) : ∀ {xs : List Val} {vs : List V}, RTs K mg B ρ σ H1 H2 xs vs → RTs K mg B ρ σ H H2 xs vs
  | _, _, .nil => .nil
  | _, _, .cons r t => .cons (r.base e) (t.base e)
/-- a new list, or plain data, kept as plain data -/
theorem RT.keep (S : SR K mg E B ρ σ H) (e : Same H H1) (r : RT K mg B ρ σ H H1 d t v) (f : t.free = true ∨ d.sc = true) : Rep K mg (ar B ρ σ H1) d v := by
  cases t with
  | cl => exact r
  | own i =>
    obtain ⟨k, ds, _, rfl, _⟩ := r
    rcases f with f | f
    · cases f
    · rw [OwK.sc] at f
      cases f
  | fr =>
    obtain ⟨a, o, k, ds, vs, rfl, rfl, q3, q4, hk, q5⟩ := r
    refine hk.rep ?_ (q5.mono ar_add)
    have hx : ¬ (B.X a ∨ Own ρ σ a) := fun z => by
      rcases z with z | z
      · obtain ⟨o, e⟩ := S.xt a z
        rw [q3] at e; cases e
      · obtain ⟨vs, e⟩ := S.there z
        rw [q3] at e; cases e
    unfold ar
    rw [if_neg hx, if_pos (S.newB q3)]
    exact q4
theorem kept_ok {xs : List Val} {ds : List D} (h : kept xs = .ok ds) : ds = xs.map (·.1) ∧ ∀ x ∈ xs, x.2.free = true ∨ x.1.sc = true := by
  unfold kept at h
  split at h
  · rename_i hc
    cases h
    refine ⟨rfl, fun x hx => ?_⟩
    have := List.all_eq_true.mp hc x hx
    simpa using this
  · cases h
theorem RTs.keep (S : SR K mg E B ρ σ H) (e : Same H H1) : ∀ {xs : List Val} {vs : List V}, RTs K mg B ρ σ H H1 xs vs → (∀ x ∈ xs, x.2.free = true ∨ x.1.sc = true) → Reps K mg (ar B ρ σ H1) (xs.map (·.1)) vs
  | _, _, .nil, _ => .nil
  | _, _, .cons r t, f => .cons (r.keep S e (f _ (List.mem_cons_self ..))) (t.keep S e fun x hx => f x (List.mem_cons_of_mem _ hx))
theorem RTs.rep (S : SR K mg E B ρ σ H1) : ∀ {xs : List Val} {vs : List V}, RTs K mg B ρ σ H H1 xs vs → Reps K mg H1 (xs.map (·.1)) vs
  | _, _, .nil => .nil
  | _, _, .cons r t => .cons (r.rep S) (t.rep S)
theorem RTs.rp (S : SR K mg E B ρ σ H1) : ∀ {xs : List Val} {vs : List V}, RTs K mg B ρ σ H H1 xs vs → ∀ (i : Nat) (x : Val), xs[i]? = some x → ∃ v, vs[i]? = some v ∧ RP K mg B ρ σ H1 x.1 v
  | _, _, .nil, i, x, h => by simp at h
  | _, _, .cons r t, 0, x, h => by
    simp at h
    subst h
    exact ⟨_, rfl, r.rp S⟩
  | _, _, .cons r t, i + 1, x, h => by
    obtain ⟨v, h1, h2⟩ := t.rp S i x (by simpa using h)
    exact ⟨v, by simpa using h1, h2⟩
theorem RTs.len : ∀ {xs : List Val} {vs : List V}, RTs K mg B ρ σ H H1 xs vs → xs.length = vs.length
  | _, _, .nil => rfl
  | _, _, .cons _ t => by rw [List.length_cons, List.length_cons, t.len]
/-! arguments -/
def tA (K : PySem.W.Frag) (mg : Str → Option Value) (E : ExE) (W : WX) (m : AM) : TA := fun σ H Q => ∃ B ρ, SR K mg E B ρ σ H ∧ GG mg W σ H (fun xs => ∀ vs H', Same H H' → RTs K mg B ρ σ H H' xs vs → Q vs H') (m ρ)
theorem GG.bindA {m : AM} {f : List Val → Res α} {P : α → Prop} {R : List V → Hp → Prop} (S : SR K mg E B ρ σ H) (h : GG mg W σ H P ((m ρ).bind f))
    (k : ∀ (xs : List Val) (vs : List V) (H1 : Hp), RTs K mg B ρ σ H H1 xs vs → Same H H1 → SR K mg E B ρ σ H1 → GG mg W σ H P (f xs) → R vs H1) : tA K mg E W m σ H R := by
  refine ⟨B, ρ, S, ?_⟩
  cases e : m ρ with
  | ok x =>
    rw [e] at h
    exact fun vs H' s r => k x vs H' r s (S.mono s) h
  | ex C =>
    rw [e] at h
    exact h
  | bad =>
    rw [e] at h
    exact h
end
abbrev PMA (X : Cx) (E : ExE) (W : WX) (es : List Expr) (m : AM) : Prop := PA X es (tA X.K X.mg E W m)
section
variable {X : Cx} {E : ExE} {W : WX} {pos p : Pos} {a b c e : Expr} {ma mb mc : EM} {es : List Expr} {am : AM}
theorem pma_nil : PMA X E W [] amNil := PA.imp pa_nil fun σ H Q ⟨B, ρ, S, h⟩ => h [] H (Same.refl H) .nil
theorem pma_cons (ha : PM X E W e ma) (hr : PMA X E W es am) (hs : starEach (e :: es) X.env = (false, eval e X.env) :: starEach es X.env := by rfl) : PMA X E W (e :: es) (amCons ma am) :=
  PA.imp (pa_cons ha hr hs) fun σ H Q ⟨B, ρ, S, h⟩ => GG.bindE S h fun x tx vx H1 rx e1 S1 h1 => GG.bindA S1 (GG.mono h1 e1 fun _ q => q) fun xs vs H2 rs e2 S2 h2 =>
    h2 (vx :: vs) H2 (e1.trans e2) (.cons (rx.mono e2) (rs.base e1))
/-- to the heap of the last step -/
theorem PV.move {K : PySem.W.Frag} {mg : Str → Option Value} {B : Bs} {ρ : Rho} {σ : St} {H H1 : Hp} {Q : VK} (e : Same H H1) {r : Res Val} (h : GG mg W σ H (PV K mg B ρ σ H Q) r) : GM K mg W B ρ σ H1 r Q :=
  GG.gm (GG.mono h e fun x q v H' e' r => q v H' (e.trans e') (r.base e))
theorem kept_split {α : Type} {σ : St} {H : Hp} {P : α → Prop} {f : List D → Res α} {xs : List Val} (h : GG X.mg W σ H P ((kept xs).bind f)) : kept xs = .ok (xs.map (·.1)) ∧ GG X.mg W σ H P (f (xs.map (·.1))) := by
  cases e : kept xs with
  | ok ds =>
    rw [e] at h
    obtain ⟨h1, _⟩ := kept_ok e
    subst h1
    exact ⟨rfl, h⟩
  | ex C =>
    unfold kept at e
    split at e <;> cases e
  | bad =>
    rw [e] at h
    exact False.elim h
theorem pm_tup {x1 : Nat} (h : PMA X E W es am) : PM X E W (.Tuple es x1 pos) (mTup am) :=
  PE.imp (pe_tup h) fun σ H Q ⟨B, ρ, S, h⟩ => GG.bindA S h.gg fun xs vs H1 rs e1 S1 h1 => by
    obtain ⟨hk, h2⟩ := kept_split h1
    have r := rs.keep S e1 (kept_ok hk).2
    have h3 : GG X.mg W σ H (PV X.K X.mg B ρ σ H Q) (if (xs.map (·.1)).length ≤ lim then .ok (.seq .tup (xs.map (·.1)), .cl) else .bad) := h2
    split at h3
    · rename_i hl
      have h4 := PV.move e1 h3
      refine ⟨by rw [← r.length]; exact Nat.le_trans hl lim_le, fun p hp => ?_⟩
      exact h4 (.ref p) _ (Same.upd hp) (Rep.tup (.of (ar_at S1 hp)) (r.mono (ar_mono (Same.upd hp))))
    · exact False.elim h3
theorem pm_lst (h : PMA X E W es am) : PM X E W (.List es pos) (mLst am) :=
  PE.imp (pe_lst h) fun σ H Q ⟨B, ρ, S, h⟩ => GG.bindA S h.gg fun xs vs H1 rs e1 S1 h1 => by
    obtain ⟨hk, h2⟩ := kept_split h1
    have r := rs.keep S e1 (kept_ok hk).2
    have h3 : GG X.mg W σ H (PV X.K X.mg B ρ σ H Q) (if (xs.map (·.1)).length ≤ lim then .ok (.seq .lst (xs.map (·.1)), .fr) else .bad) := h2
    split at h3
    · rename_i hl
      have h4 := PV.move e1 h3
      exact ⟨by rw [← r.length]; exact Nat.le_trans hl lim_le, fun p hp => GM.fresh S1 h4 r hp⟩
    · exact False.elim h3

theorem pm_dic0 : PM X E W (.Dict [] [] pos) (mC (.dic [] [])) :=
  PE.imp pe_dnewK fun σ H Q ⟨B, ρ, S, h⟩ p hp => h (.ref p) _ (Same.upd hp) (Rep.dic (kk := []) (ds := []) (vs := []) (ar_at S hp) rfl .nil)

/-! ### defs -/
/-- the base of a call -/
abbrev Bs.of (G H : Hp) : Bs := ⟨G, H, fun _ => False⟩
def RF (K : PySem.W.Frag) (mg : Str → Option Value) (G H H' : Hp) (d : D) (fr : Bool) (v : V) : Prop := RT K mg (Bs.of G H) [] [] H H' d (if fr then .fr else .cl) v
/-- a def does what its mirror does -/
def spM (K : PySem.W.Frag) (mg : Str → Option Value) (n : Nat) (m : FM) : Sp := fun vs H Q E => vs.length = n ∧ ∃ (G : Hp) (ds : List D), Same G H ∧ Reps K mg G ds vs ∧
  (match m ds with
   | .ok (d, fr) => ∀ v H', Same H H' → RF K mg G H H' d fr v → Q v H'
   | .ex C => ∀ H', Same H H' → E (clsV mg C) none H'
   | .bad => False)
theorem own_nil {a : Addr} : ¬ Own [] [] a := fun ⟨i, k, ds, h, _⟩ => by simp at h
/-- the area behind a call whose arguments are plain -/
theorem ar_call {K : PySem.W.Frag} {mg : Str → Option Value} {B : Bs} {ρ : Rho} {σ : St} {H H' : Hp} (S : SR K mg E B ρ σ H) (e : Same H H') : Same (ar (Bs.of (ar B ρ σ H) H) [] [] H') (ar B ρ σ H') := fun b o h => by
  unfold ar at h
  have hx : ¬ ((Bs.of (ar B ρ σ H) H).X b ∨ Own [] [] b) := fun z => z.elim (fun q => q) own_nil
  rw [if_neg hx] at h
  split at h
  · rename_i hn
    have hn : H b = none := hn
    have hx' : ¬ (B.X b ∨ Own ρ σ b) := fun z => by
      rcases z with z | z
      · obtain ⟨o, e⟩ := S.xt b z
        rw [hn] at e; cases e
      · obtain ⟨vs, e⟩ := S.there z
        rw [hn] at e; cases e
    unfold ar
    rw [if_neg hx', if_pos (S.newB hn)]
    exact h
  · have h' : ar B ρ σ H b = some o := h
    exact ar_mono e _ _ h'
theorem ar_call_add {K : PySem.W.Frag} {mg : Str → Option Value} {B : Bs} {ρ : Rho} {σ : St} {H H' : Hp} {a : Addr} (S : SR K mg E B ρ σ H) (e : Same H H') : Same (ar ((Bs.of (ar B ρ σ H) H).add a) [] [] H') (ar (B.add a) ρ σ H') := fun b o h => by
  have hb : b ≠ a := fun z => by
    unfold ar at h
    rw [if_pos (.inl (.inl z))] at h
    cases h
  have h2 := ar_call S e b o (ar_add b o h)
  rw [ar_add_ne hb] at h2
  exact h2
theorem RF.rt {K : PySem.W.Frag} {mg : Str → Option Value} {B : Bs} {ρ : Rho} {σ : St} {H H' : Hp} {d : D} {fr : Bool} {v : V} (S : SR K mg E B ρ σ H) (e : Same H H') (r : RF K mg (ar B ρ σ H) H H' d fr v) : RT K mg B ρ σ H H' d (if fr then .fr else .cl) v := by
  cases fr with
  | false => exact Rep.mono (ar_call S e) r
  | true =>
    obtain ⟨a, o, k, ds, vs, q1, q2, q3, q4, hk, q5⟩ := r
    exact ⟨a, o, k, ds, vs, q1, q2, q3, q4, hk, q5.mono (ar_call_add S e)⟩
variable {k : Nat} {f : Addr} {fd : FuncData} {ps : List Str} {n : Nat} {g : FM} {x : Str}
theorem call_read {K : PySem.W.Frag} {mg : Str → Option Value} {B : Bs} {ρ : Rho} {σ : St} {H H1 : Hp} {Q : VK} {xs : List Val} {vs : List V} {E' : XK} (S : SR K mg E B ρ σ H) (e1 : Same H H1) (S1 : SR K mg E B ρ σ H1) (rs : RTs K mg B ρ σ H H1 xs vs) (hn : xs.length = n)
    (hE : ∀ C H', Same H1 H' → W (clsV mg C) none σ H' → E' (clsV mg C) none H')
    (h : GG mg W σ H (PV K mg B ρ σ H Q) ((g (xs.map (·.1))).bind fun r => if r.1.sc then .ok (r.1, .cl) else if xs.all (fun x => x.2.free || x.1.sc) then .ok (r.1, if r.2 then .fr else .cl) else .bad)) :
    spM K mg n g vs H1 Q E' := by
  refine ⟨by rw [← rs.len]; exact hn, ?_⟩
  have exc : ∀ C, g (xs.map (·.1)) = .ex C → ∀ H', Same H1 H' → E' (clsV mg C) none H' := fun C eg H' s => by
    rw [eg] at h
    exact hE C H' s (h H' (e1.trans s))
  by_cases hf : xs.all (fun x => x.2.free || x.1.sc) = true
  · have r := rs.keep S e1 (fun x hx => by have := List.all_eq_true.mp hf x hx; simpa using this)
    refine ⟨ar B ρ σ H1, _, S1.sub, r, ?_⟩
    cases eg : g (xs.map (·.1)) with
    | ok y =>
      obtain ⟨d, fr⟩ := y
      rw [eg] at h
      have h2 : GG mg W σ H (PV K mg B ρ σ H Q) (if d.sc then .ok (d, .cl) else if xs.all (fun x => x.2.free || x.1.sc) then .ok (d, if fr then .fr else .cl) else .bad) := h
      intro v H' s rf
      have rt := RF.rt S1 s rf
      by_cases hsc : d.sc = true
      · rw [if_pos hsc] at h2
        refine h2 v H' (e1.trans s) ?_
        cases fr with
        | false => exact rt
        | true =>
          obtain ⟨a, o, k, ds, vs, rfl, _⟩ := rt
          rw [OwK.sc] at hsc
          cases hsc
      · rw [if_neg hsc, if_pos hf] at h2
        exact h2 v H' (e1.trans s) (rt.base e1)
    | ex C => exact exc C eg
    | bad =>
      rw [eg] at h
      exact False.elim h
  · refine ⟨H1, _, Same.refl H1, rs.rep S1, ?_⟩
    cases eg : g (xs.map (·.1)) with
    | ok y =>
      obtain ⟨d, fr⟩ := y
      rw [eg] at h
      have h2 : GG mg W σ H (PV K mg B ρ σ H Q) (if d.sc then .ok (d, .cl) else if xs.all (fun x => x.2.free || x.1.sc) then .ok (d, if fr then .fr else .cl) else .bad) := h
      intro v H' s rf
      by_cases hsc : d.sc = true
      · rw [if_pos hsc] at h2
        refine h2 v H' (e1.trans s) ?_
        cases fr with
        | false => exact Rep.sc rf hsc
        | true =>
          obtain ⟨a, o, k, ds, vs, rfl, _⟩ := rf
          rw [OwK.sc] at hsc
          cases hsc
      · rw [if_neg hsc, if_neg hf] at h2
        exact False.elim h2
    | ex C => exact exc C eg
    | bad =>
      rw [eg] at h
      exact False.elim h
/-- how many arguments -/
def AMn (am : AM) (n : Nat) : Prop := ∀ ρ xs, am ρ = .ok xs → xs.length = n
theorem amn_nil : AMn amNil 0 := fun ρ xs h => by cases h; rfl
theorem amn_cons {n : Nat} (h : AMn am n) : AMn (amCons ma am) (n + 1) := fun ρ xs e => by
  unfold amCons at e
  cases e1 : ma ρ with
  | ok x =>
    rw [e1] at e
    cases e2 : am ρ with
    | ok ys =>
      rw [Res.bind_ok, e2] at e
      cases e
      rw [List.length_cons, h ρ ys e2]
    | ex C => rw [Res.bind_ok, e2] at e; cases e
    | bad => rw [Res.bind_ok, e2] at e; cases e
  | ex C => rw [e1] at e; cases e
  | bad => rw [e1] at e; cases e
theorem pm_call {CX : CXT} (F : FnOk X.prog X.w X.K X.mg X.base CX k f fd ps (spM X.K X.mg n g)) (tk : ∀ σ, PassesAt CX X σ (WE W σ)) (hr : Room k X.A) (hm : X.mg x = some (.ref f)) (hk : PySem.W.keepIn X.K (.ref f) = true) (hb : Binds X.K fd ps [])
    (ha : PMA X E W (e :: es) am) (hn : AMn am n) (hg : Gl X x := by rfl) (hdb : (x == ("__debug__" : Str)) = false := by decide) (he : starEach (e :: es) X.env = (false, eval e X.env) :: starEach es X.env := by rfl) (hpl : (backTo pos (starEach es X.env)).any (·.1) = false := by rfl) :
    PM X E W (.Call (.Name x p) (e :: es) [] pos) (mCall g am) :=
  PE.imp (pe_callS F hr hg hm hk hb (E := WE W) tk ha hdb he hpl) fun σ H Q ⟨B, ρ, S, h⟩ => by
    refine ⟨B, ρ, S, ?_⟩
    have h := h.gg
    unfold mCall at h
    cases e' : am ρ with
    | ok xs =>
      rw [e'] at h
      exact fun vs H1 e1 rs => call_read S e1 (S.mono e1) rs (hn ρ xs e') (fun C H' _ w => w) h
    | ex C =>
      rw [e'] at h
      exact h
    | bad =>
      rw [e'] at h
      exact h

/-! ### built-ins -/
def BltM (X : Cx) (E : ExE) (W : WX) (r : List V → Hp → VK → Prop) (f : List D → Res D) : Prop := ∀ (B : Bs) (ρ : Rho) (σ : St) (H : Hp) (xs : List D) (vs : List V) (Q : VK), SR X.K X.mg E B ρ σ H → xs.length = vs.length →
  (∀ (i : Nat) (x : D), xs[i]? = some x → ∃ v : V, vs[i]? = some v ∧ RP X.K X.mg B ρ σ H x v) → GM X.K X.mg W B ρ σ H ((f xs).bind fun d => .ok (d, .cl)) Q → r vs H Q
theorem blt_read {r : List V → Hp → VK → Prop} {fb : List D → Res D} (hf : BltM X E W r fb) {σ : St} {H : Hp} {Q : VK} (h : tE X.K X.mg E W (mBlt fb am) σ H Q) : tA X.K X.mg E W am σ H fun vs H1 => r vs H1 Q := by
  obtain ⟨B, ρ, S, h⟩ := h
  refine GG.bindA S h.gg fun xs vs H1 rs e1 S1 h1 => hf B ρ σ H1 (xs.map (·.1)) vs Q S1 (by rw [List.length_map, rs.len]) (fun i x hx => ?_) (PV.move e1 h1)
  rw [List.getElem?_map] at hx
  cases e : xs[i]? with
  | none => rw [e] at hx; cases hx
  | some y =>
    rw [e] at hx
    cases hx
    exact rs.rp S1 i y e
theorem pm_bltB {id : String} {r : List V → Hp → VK → Prop} {fb : List D → Res D} (hc : CallR X (.builtin id) r) (hf : BltM X E W r fb) (hm : X.mg x = none) (hv : bootBuiltins x = some (.builtin id)) (ha : PMA X E W (e :: es) am) (hg : Gl X x := by rfl) (hn : x ≠ "__name__" := by decide) (hdb : (x == ("__debug__" : Str)) = false := by decide)
    (he : starEach (e :: es) X.env = (false, eval e X.env) :: starEach es X.env := by rfl) (hpl : (backTo pos (starEach es X.env)).any (·.1) = false := by rfl) : PM X E W (.Call (.Name x p) (e :: es) [] pos) (mBlt fb am) :=
  PE.imp (pe_callB hc hg hm hv ha hn hdb he hpl) fun σ H Q h => blt_read hf h
theorem pm_bltT {T : String} {r : List V → Hp → VK → Prop} {fb : List D → Res D} (hc : CallR X (.type T) r) (hf : BltM X E W r fb) (hm : X.mg x = none) (hv : bootBuiltins x = some (.type T)) (ha : PMA X E W (e :: es) am) (hg : Gl X x := by rfl) (hn : x ≠ "__name__" := by decide) (hdb : (x == ("__debug__" : Str)) = false := by decide)
    (he : starEach (e :: es) X.env = (false, eval e X.env) :: starEach es X.env := by rfl) (hpl : (backTo pos (starEach es X.env)).any (·.1) = false := by rfl) : PM X E W (.Call (.Name x p) (e :: es) [] pos) (mBlt fb am) :=
  PE.imp (pe_callTy hc hg hm hv ha hn hdb he hpl) fun σ H Q h => blt_read hf h
theorem args1 {B : Bs} {ρ : Rho} {σ : St} {H : Hp} {x : D} {vs : List V} (hl : [x].length = vs.length) (hx : ∀ (i : Nat) (y : D), [x][i]? = some y → ∃ v : V, vs[i]? = some v ∧ RP X.K X.mg B ρ σ H y v) : ∃ v, vs = [v] ∧ RP X.K X.mg B ρ σ H x v := by
  obtain ⟨v, h1, h2⟩ := hx 0 x rfl
  match vs, hl, h1 with
  | [u], _, h1 => cases h1; exact ⟨_, rfl, h2⟩
theorem args2 {B : Bs} {ρ : Rho} {σ : St} {H : Hp} {x y : D} {vs : List V} (hl : [x, y].length = vs.length) (hx : ∀ (i : Nat) (z : D), [x, y][i]? = some z → ∃ v : V, vs[i]? = some v ∧ RP X.K X.mg B ρ σ H z v) : ∃ v w, vs = [v, w] ∧ RP X.K X.mg B ρ σ H x v ∧ RP X.K X.mg B ρ σ H y w := by
  obtain ⟨v, h1, h2⟩ := hx 0 x rfl
  obtain ⟨w, h3, h4⟩ := hx 1 y rfl
  match vs, hl, h1, h3 with
  | [u, u'], _, h1, h3 => cases h1; cases h3; exact ⟨_, _, rfl, h2, h4⟩
theorem call_list_S (hc : X.calm = true) : CallR X (.type "list") (fun xs H Q => ∃ s : List Nat, xs = [.str ⟨s.toArray⟩] ∧ s.length ≤ sizeLine ∧ ∀ l, H l = none → Q (.ref l) (upd H l (.lst (s.map fun c => V.str ⟨#[c]⟩)))) := by
  intro pins s σ H xs us Q I r h
  obtain ⟨t, rfl, hz, q⟩ := h
  obtain ⟨u, rfl, tk0, rfl⟩ := vals1 r
  refine call_list_str (I.ok.hd hc) ⟨t.toArray⟩ tk0 (fun h' tk acc c' hk e hi => ?_) (by simpa using hz)
  refine ⟨.ref s.heap.objs.size, upd H s.heap.objs.size (.lst (t.map fun c => V.str ⟨#[c]⟩)), I.laid hk (Nat.le_refl _) ⟨by rw [List.length_map]; exact hz, acc.toList, c', ?_, by rw [Array.toArray_toList]; exact e⟩, rfl, q _ (I.hok.fresh (Nat.le_refl _))⟩
  refine vals_of_idx _ _ (by rw [List.length_map, Array.length_toList, hi.1]; simp) fun j u hj => ?_
  obtain ⟨c, t', hc, rfl⟩ := hi.2 j u (by rw [← Array.getElem?_toList]; exact hj)
  exact ⟨.str ⟨#[c]⟩, by simp at hc; simp [hc], ⟨_, rfl⟩⟩
theorem signs_rep {K : PySem.W.Frag} {mg : Str → Option Value} {G : Hp} : ∀ s : List Nat, Reps K mg G (s.map fun c => D.str [c]) (s.map fun c => V.str ⟨#[c]⟩)
  | [] => .nil
  | c :: s => .cons (.str [c]) (signs_rep s)
theorem list_of {B : Bs} {ρ : Rho} {σ : St} {H : Hp} {Q : VK} {d : D} {v : V} (S : SR X.K X.mg E B ρ σ H) (rp : RP X.K X.mg B ρ σ H d v) (h : GM X.K X.mg W B ρ σ H (mLstOf d) Q) :
    (∃ p ys, [v] = [.ref p] ∧ (SqL X.K H p ys ∨ SqT X.K H p ys) ∧ ∀ l, H l = none → Q (.ref l) (upd H l (.lst ys))) ∨
    (∃ s : List Nat, [v] = [.str ⟨s.toArray⟩] ∧ s.length ≤ sizeLine ∧ ∀ l, H l = none → Q (.ref l) (upd H l (.lst (s.map fun c => V.str ⟨#[c]⟩)))) := by
  cases rp <;> first | exact False.elim h | skip
  case lst => rename_i hx r; exact .inl ⟨_, _, rfl, .inl (.of hx), fun l hl => GM.fresh S h r hl⟩
  case rol => rename_i hx r; exact .inl ⟨_, _, rfl, .inl hx, fun l hl => GM.fresh S h r hl⟩
  case tup => rename_i hx r; exact .inl ⟨_, _, rfl, .inr (same_tup S.sub hx), fun l hl => GM.fresh S h r hl⟩
  case str s =>
    have h2 : GM X.K X.mg W B ρ σ H (if s.length ≤ lim then .ok (.seq .lst (s.map fun c => .str [c]), .fr) else .bad) Q := h
    split at h2
    · rename_i hl
      exact .inr ⟨s, rfl, Nat.le_trans hl lim_le, fun l hn => GM.fresh S h2 (signs_rep s) hn⟩
    · exact h2.elim
theorem pm_list (hm : X.mg "list" = none) (ha : PMA X E W [e] am) (hc : X.calm = true := by rfl) (hg : Gl X "list" := by rfl)
    (he : starEach [e] X.env = (false, eval e X.env) :: starEach [] X.env := by rfl) (hpl : (backTo pos (starEach [] X.env)).any (·.1) = false := by rfl) : PM X E W (.Call (.Name "list" p) [e] [] pos) (mList am) :=
  PE.imp (pe_callTy (CallR.or call_list_of (call_list_S hc)) hg hm (by decide +kernel) ha (by decide) (by decide) he hpl) fun σ H Q ⟨B, ρ, S, h⟩ => GG.bindA S h.gg fun xs vs H1 rs e1 S1 h1 => by
    match xs, vs, rs, h1 with
    | [], _, _, h1 => exact False.elim h1
    | _ :: _ :: _, _, _, h1 => exact False.elim h1
    | [x], [u], .cons r .nil, h1 => exact list_of S1 (r.rp S1) (PV.move e1 h1)
theorem bm_len : BltM X E W (fun xs H Q => ∃ x n, xs = [x] ∧ LenV X.K x H n ∧ Q (.int n) H) bLen := by
  intro B ρ σ H xs vs Q S hl hx h
  match xs, h with
  | [], h => exact False.elim h
  | [x], h =>
    obtain ⟨v, rfl, r⟩ := args1 hl hx
    cases r <;> first | exact False.elim h | skip
    case str s =>
      have h3 : GM X.K X.mg W B ρ σ H ((if s.length ≤ lim then Res.ok (D.int s.length) else .bad).bind fun d => .ok (d, .cl)) Q := h
      split at h3
      · rename_i hl
        exact ⟨_, s.length, rfl, ⟨Nat.le_trans hl lim_le, rfl⟩, GM.sc (d := .int _) h3 (.int _)⟩
      · exact False.elim h3
    case lst a ds ws hv r => exact ⟨_, ds.length, rfl, .inl ⟨ws, .of hv, r.length⟩, GM.sc (d := .int _) h (.int _)⟩
    case rol a ds ws hv r => exact ⟨_, ds.length, rfl, .inl ⟨ws, hv, r.length⟩, GM.sc (d := .int _) h (.int _)⟩
    case tup a ds ws hv r => exact ⟨_, ds.length, rfl, .inr ⟨ws, same_tup S.sub hv, r.length⟩, GM.sc (d := .int _) h (.int _)⟩
  | x :: y :: xs, h => cases x <;> first | exact False.elim h | (rename_i k _; cases k <;> exact False.elim h)
theorem bm_abs : BltM X E W (fun xs H Q => ∃ i, xs = [.int i] ∧ Q (.int (if i < 0 then -i else i)) H) bAbs := by
  intro B ρ σ H xs vs Q S hl hx h
  match xs, h with
  | [], h => exact False.elim h
  | [x], h =>
    obtain ⟨v, rfl, r⟩ := args1 hl hx
    cases r <;> first | exact False.elim h | skip
    case int i => exact ⟨i, rfl, GM.sc (d := .int _) h (.int _)⟩
  | x :: y :: xs, h => cases x <;> exact False.elim h
theorem bm_max : BltM X E W (fun xs H Q => ∃ i j, xs = [.int i, .int j] ∧ Q (.int (if j > i then j else i)) H) bMax := by
  intro B ρ σ H xs vs Q S hl hx h
  match xs, h with
  | [], h => exact False.elim h
  | [x], h => cases x <;> exact False.elim h
  | [x, y], h =>
    obtain ⟨v, w, rfl, r, r'⟩ := args2 hl hx
    cases r <;> cases r' <;> first | exact False.elim h | skip
    case int.int i j => exact ⟨i, j, rfl, GM.sc (d := .int _) h (.int _)⟩
  | x :: y :: z :: xs, h => cases x <;> cases y <;> exact False.elim h
theorem bm_min : BltM X E W (fun xs H Q => ∃ i j, xs = [.int i, .int j] ∧ Q (.int (if j < i then j else i)) H) bMin := by
  intro B ρ σ H xs vs Q S hl hx h
  match xs, h with
  | [], h => exact False.elim h
  | [x], h => cases x <;> exact False.elim h
  | [x, y], h =>
    obtain ⟨v, w, rfl, r, r'⟩ := args2 hl hx
    cases r <;> cases r' <;> first | exact False.elim h | skip
    case int.int i j => exact ⟨i, j, rfl, GM.sc (d := .int _) h (.int _)⟩
  | x :: y :: z :: xs, h => cases x <;> cases y <;> exact False.elim h
theorem bm_int : BltM X E W (fun xs H Q => (∃ i, xs = [.int i] ∧ Q (.int i) H) ∨ ∃ k, xs = [.bl k] ∧ Q (.int (if k then 1 else 0)) H) bInt := by
  intro B ρ σ H xs vs Q S hl hx h
  match xs, h with
  | [], h => exact False.elim h
  | [x], h =>
    obtain ⟨v, rfl, r⟩ := args1 hl hx
    cases r <;> first | exact False.elim h | skip
    case bl i => exact .inr ⟨i, rfl, GM.sc (d := .int _) h (.int _)⟩
    case int i => exact .inl ⟨i, rfl, GM.sc (d := .int _) h (.int _)⟩
  | x :: y :: xs, h => cases x <;> exact False.elim h
theorem ofString_list (s : String) : Str.ofString s = ⟨(s.toList.map Char.toNat).toArray⟩ := ext_tl (tl_ofString s)
theorem bm_str : BltM X E W (fun xs H Q => ∃ i : Int, xs = [.int i] ∧ i.natAbs.log2 < 1920 ∧ Q (.str (toString i)) H) bStr := by
  intro B ρ σ H xs vs Q S hl hx h
  match xs, h with
  | [], h => exact False.elim h
  | [x], h =>
    obtain ⟨v, rfl, r⟩ := args1 hl hx
    cases r <;> first | exact False.elim h | skip
    case int i =>
      have h3 : GM X.K X.mg W B ρ σ H ((if lg i 1920 then Res.ok (D.str (decI i)) else .bad).bind fun d => .ok (d, .cl)) Q := h
      split at h3
      · rename_i hl
        refine ⟨i, rfl, of_decide_eq_true ((lg_def i 1920).symm.trans hl), ?_⟩
        rw [ofString_list]
        exact GM.sc (d := .str _) h3 (.str _)
      · exact False.elim h3
  | x :: y :: xs, h => cases x <;> exact False.elim h
theorem bm_divmod : BltM X E W (fun xs H Q => ∃ i j, xs = [.int i, .int j] ∧ CDiv i j ∧ ∀ p, H p = none → Q (.ref p) (upd H p (.tup [.int (i / j), .int (i % j)]))) bDivmod := by
  intro B ρ σ H xs vs Q S hl hx h
  match xs, h with
  | [], h => exact False.elim h
  | [x], h => cases x <;> exact False.elim h
  | [x, y], h =>
    obtain ⟨v, w, rfl, r, r'⟩ := args2 hl hx
    cases r <;> cases r' <;> first | exact False.elim h | skip
    case int.int i j =>
      have h3 : GM X.K X.mg W B ρ σ H ((if decide (0 < j) && decide (j < 1073741824) then Res.ok (D.seq .tup [.int (i / j), .int (i % j)]) else .bad).bind fun d => .ok (d, .cl)) Q := h
      split at h3
      · rename_i hc
        simp only [Bool.and_eq_true, decide_eq_true_eq] at hc
        refine ⟨i, j, rfl, hc, fun p hp => ?_⟩
        exact h3 (.ref p) _ (Same.upd hp) (Rep.tup (.of (ar_at S hp)) (.cons (.int _) (.cons (.int _) .nil)))
      · exact False.elim h3
  | x :: y :: z :: xs, h => cases x <;> cases y <;> exact False.elim h
end
end Dm
end

section
set_option Elab.async false
set_option linter.all false
set_option maxRecDepth 100000
set_option maxHeartbeats 4000000
/-! Dm: isinstance, find; what is walked; comprehensions. -/
namespace Dm
open PySem PySem.Spec L2 TL PySem.StrLaws
section
variable {X : Cx} {E : ExE} {W : WX} {pos p p2 : Pos} {a b c e : Expr} {ma mb mc : EM} {es : List Expr} {am : AM}
theorem sql_ty {H : Hp} {q : Addr} {vs : List V} (h : SqL X.K H q vs) : TyX X.K H (.ref q) (.type "list") := by
  rcases h with (h | ⟨o, h⟩) | ⟨o, its, n, h1, h2, _⟩
  · exact .base (.lst h)
  · exact .base (.frz h)
  · exact .kList h1 h2
theorem sqt_ty {H : Hp} {q : Addr} {vs : List V} (h : SqT X.K H q vs) : TyX X.K H (.ref q) (.type "tuple") := by
  rcases h with (h | ⟨o, h⟩) | ⟨o, its, n, h1, h2, _⟩
  · exact .base (.tup h)
  · exact .fTuple h
  · exact .kTuple h1 h2
theorem pm_is {T : String} {x : Str} (hk : ∀ t ∈ ["NoneType", "bool", "int", "str", "tuple", "list", "dict"], kitB t T = some (isT t T)) (ha : PM X E W a ma) (hm : X.mg "isinstance" = none) (hm2 : X.mg x = none) (hv2 : bootBuiltins x = some (.type T))
    (hg : Gl X "isinstance" := by rfl) (hg2 : Gl X x := by rfl) (hn2 : x ≠ "__name__" := by decide) (hd2 : (x == ("__debug__" : Str)) = false := by decide)
    (he : starEach [a, .Name x p2] X.env = (false, eval a X.env) :: starEach [.Name x p2] X.env := by rfl) (he2 : starEach [.Name x p2] X.env = (false, eval (.Name x p2) X.env) :: starEach [] X.env := by rfl) (hpl : (backTo pos (starEach [.Name x p2] X.env)).any (·.1) = false := by rfl) :
    PM X E W (.Call (.Name "isinstance" p) [a, .Name x p2] [] pos) (mIs T ma) :=
  PE.imp (pe_callB call_isi hg hm (by decide +kernel) (pa_cons ha (pa_cons (pe_bltn (v := .ty T) (u := .type T) hg2 hm2 hv2 rfl hn2 hd2) pa_nil he2) he) (he := he) (hpl := hpl)) fun σ H Q ⟨B, ρ, S, h⟩ => GM.bind S h fun x tx vx H1 rx e1 S1 h1 => by
    have rp := rx.rp S1
    have fin : ∀ (t : String), t ∈ ["NoneType", "bool", "int", "str", "tuple", "list", "dict"] → TyX X.K H1 vx (.type t) → GM X.K X.mg W B ρ σ H1 (.ok (.bl (isT t T), .cl)) Q →
        rIsi X.K [vx, .ty T] H1 Q := fun t ht ty g => ⟨vx, .ty T, .type t, .type T, isT t T, rfl, .ty T, ty, kit_ty (hk t ht), GM.sc (d := .bl _) g (.bl _)⟩
    cases rp <;> first | exact False.elim h1 | skip
    case non => exact fin "NoneType" (by simp) (.base .non) h1
    case bl k => exact fin "bool" (by simp) (.base (.bl k)) h1
    case int i => exact fin "int" (by simp) (.base (.int i)) h1
    case str s => exact fin "str" (by simp) (.base (.str _)) h1
    case lst q ds vs hv r => exact fin "list" (by simp) (sql_ty (.of hv)) h1
    case rol q ds vs hv r => exact fin "list" (by simp) (sql_ty hv) h1
    case tup q ds vs hv r => exact fin "tuple" (by simp) (sqt_ty (same_tup S1.sub hv)) h1
    case dic h2 _ _ => exact fin "dict" (by simp) (.base (.dK h2)) h1
theorem find_eq (s : List Nat) (c : Nat) : Txt.find ⟨s.toArray⟩ ⟨#[c]⟩ = findL s c := by
  have hat : ∀ i : Nat, At ⟨s.toArray⟩ ⟨#[c]⟩ (⟨s.toArray⟩ : Str).length i ↔ s[i]? = some c := fun i => by
    have := PySem.StrLaws.subAt_one ⟨s.toArray⟩ c i
    simpa [At] using this
  unfold Txt.find findL
  rcases PySem.StrLaws.occ_head ⟨s.toArray⟩ ⟨#[c]⟩ 1 (Nat.le_refl _) with ⟨h0, hn⟩ | ⟨i, r, h0, h1, hn⟩
  · rw [h0]
    have : s.findIdx? (· == c) = none := by
      rw [List.findIdx?_eq_none_iff]
      intro x hx
      obtain ⟨i, hi⟩ := List.mem_iff_getElem?.mp hx
      have h2 := hn i
      rw [hat i, hi] at h2
      simpa using h2
    rw [this]
  · rw [h0]
    have hi := (hat i).mp h1
    have : s.findIdx? (· == c) = some i := by
      rw [List.findIdx?_eq_some_iff_getElem]
      have hl : i < s.length := (List.getElem?_eq_some_iff.mp hi).1
      refine ⟨hl, ?_, fun j hj => ?_⟩
      · rw [(List.getElem?_eq_some_iff.mp hi).2]
        simp
      · have h2 := hn j hj
        rw [hat j, List.getElem?_eq_getElem (by omega)] at h2
        simpa using h2
    rw [this]
/-- a method of a text, of one argument -/
theorem pm_s1 {id : String} {name : Str} {apos : Pos} {r : V → List V → Hp → VK → Prop} {f : List Nat → D → Res (D × Tg)} (slot : Slot "str" name id) (ty : typeOf (.builtin id) = pure (.type "method_descriptor")) (rule : MtR X id r)
    (hf : ∀ (B : Bs) (ρ : Rho) (σ : St) (H : Hp) (s : List Nat) (y : D) (vy : V) (Q : VK), SR X.K X.mg E B ρ σ H → RP X.K X.mg B ρ σ H y vy → GM X.K X.mg W B ρ σ H (f s y) Q → r (.str ⟨s.toArray⟩) [vy] H Q)
    (ha : PM X E W a ma) (hb : PM X E W b mb) (hs : starEach [b] X.env = [(false, eval b X.env)] := by rfl) (hbase : attributeBase a name X.env (eval a X.env) = eval a X.env := by rfl) (hline : (apos.endLine == pos.line) = true := by rfl) :
    PM X E W (.Call (.Attribute a name apos) [b] [] pos) (mS1 f ma mb) :=
  PE.imp (pe_m1 slot ty rule ha hb hs hbase hline) fun σ H Q ⟨B, ρ, S, h⟩ => GM.bind S h fun x tx vx H1 rx e1 S1 h1 => by
    have rpx := rx.rp S1
    cases rpx <;> first | exact False.elim h1 | skip
    case str s => exact ⟨⟨_, rfl⟩, GM.bind S1 h1 fun y ty vy H2 ry e2 S2 h2 => hf B ρ σ H2 s y vy Q S2 (ry.rp S2) h2⟩
theorem pm_s0 {id : String} {name : Str} {apos : Pos} {r : V → List V → Hp → VK → Prop} {f : List Nat → Res (D × Tg)} (slot : Slot "str" name id) (ty : typeOf (.builtin id) = pure (.type "method_descriptor")) (rule : MtR X id r)
    (hf : ∀ (B : Bs) (ρ : Rho) (σ : St) (H : Hp) (s : List Nat) (Q : VK), SR X.K X.mg E B ρ σ H → GM X.K X.mg W B ρ σ H (f s) Q → r (.str ⟨s.toArray⟩) [] H Q)
    (ha : PM X E W a ma) (hbase : attributeBase a name X.env (eval a X.env) = eval a X.env := by rfl) (hline : (apos.endLine == pos.line) = true := by rfl) :
    PM X E W (.Call (.Attribute a name apos) [] [] pos) (mS0 f ma) :=
  PE.imp (pe_m0 slot ty rule ha hbase hline) fun σ H Q ⟨B, ρ, S, h⟩ => GM.bind S h fun x tx vx H1 rx e1 S1 h1 => by
    have rpx := rx.rp S1
    cases rpx <;> first | exact False.elim h1 | skip
    case str s => exact ⟨⟨_, rfl⟩, hf B ρ σ H1 s Q S1 h1⟩
theorem pm_find {apos : Pos} (ha : PM X E W a ma) (hb : PM X E W b mb) (hs : starEach [b] X.env = [(false, eval b X.env)] := by rfl) (hbase : attributeBase a "find" X.env (eval a X.env) = eval a X.env := by rfl) (hline : (apos.endLine == pos.line) = true := by rfl) :
    PM X E W (.Call (.Attribute a "find" apos) [b] [] pos) (mS1 fFind ma mb) :=
  pm_s1 PySem.F.slot_str_find PySem.F.type_str_find mt_find (fun B ρ σ H s y vy Q S ry h => by
    cases ry <;> first | exact False.elim h | skip
    case str t =>
      match t, h with
      | [c], h =>
        refine ⟨_, _, rfl, rfl, ?_⟩
        rw [show (⟨[c].toArray⟩ : Str) = ⟨#[c]⟩ from rfl, find_eq]
        exact GM.sc (d := .int _) h (.int _)
      | [], h => exact False.elim h
      | _ :: _ :: _, h => exact False.elim h) ha hb hs hbase hline

/-! ### what is walked -/
noncomputable def hid (B : Bs) (ρ : Rho) (σ : St) (H : Hp) : Hp := by
  classical exact fun b => if B.X b ∨ Own ρ σ b then none else H b
theorem hid_sub {B : Bs} {ρ : Rho} {σ : St} {H : Hp} : Same (hid B ρ σ H) H := fun b o h => by
  unfold hid at h
  split at h
  · cases h
  · exact h
/-- what an iterator yields: plain data, in the area A or new -/
structure Wk (K : PySem.W.Frag) (mg : Str → Option Value) (A Hb : Hp) (J : It) (ds : List D) : Prop where
  go : ∀ i H, Same Hb H → i < ds.length → J.go i H
  stop : ∀ i H, Same Hb H → ds.length ≤ i → J.stop i H
  yld : ∀ i H x H', Same Hb H → i < ds.length → J.yld i H x H' → Same H H' ∧ ∃ d, ds[i]? = some d ∧ Rep K mg (fun b => if H b = none then H' b else A b) d x
theorem Wk.mono {K : PySem.W.Frag} {mg : Str → Option Value} {A A' Hb Hb' : Hp} {J : It} {ds : List D} (h : Wk K mg A Hb J ds) (eA : Same A A') (eH : Same Hb Hb') : Wk K mg A' Hb' J ds where
  go := fun i H s => h.go i H (eH.trans s)
  stop := fun i H s => h.stop i H (eH.trans s)
  yld := fun i H x H' s hi y => by
    obtain ⟨h1, d, h2, h3⟩ := h.yld i H x H' (eH.trans s) hi y
    refine ⟨h1, d, h2, h3.mono fun b o e => ?_⟩
    split at e
    · rename_i hn
      rw [if_pos hn]
      exact e
    · rename_i hn
      rw [if_neg hn]
      exact eA _ _ e
theorem gn_of {A H H' : Hp} (hA : Same A H) (s : Same H H') : Same A (fun b => if H b = none then H' b else A b) := fun b o e => by
  show (if H b = none then H' b else A b) = some o
  rw [if_neg (by rw [hA _ _ e]; simp)]
  exact e
theorem SR.frz {K : PySem.W.Frag} {mg : Str → Option Value} {B : Bs} {ρ : Rho} {σ : St} {H : Hp} (S : SR K mg E B ρ σ H) (i : Nat) : SR K mg E B (frz i ρ) σ H := by
  unfold Dm.frz
  split
  case h_2 => exact S
  case h_1 k0 ds e =>
    obtain ⟨a, o0, vs, e1, e2, hk0, e3⟩ := S.ow i k0 ds e
    have hil : i < ρ.length := (List.getElem?_eq_some_iff.mp e).1
    have sub : ∀ b, Own (ρ.set i (.fz (k0.asD ds))) σ b → Own ρ σ b := fun b ⟨j, l, es, h1, h2⟩ => by
      by_cases hj : i = j
      · subst hj
        rw [List.getElem?_set_self hil] at h1
        cases h1
      · rw [List.getElem?_set_ne hj] at h1
        exact ⟨j, l, es, h1, h2⟩
    have hna : ¬ (B.X a ∨ Own (ρ.set i (.fz (k0.asD ds))) σ a) := fun z => by
      rcases z with z | ⟨j, l, es, h1, h2⟩
      · exact S.xo a z ⟨i, k0, ds, e, e1⟩
      · by_cases hj : i = j
        · subst hj
          rw [List.getElem?_set_self hil] at h1
          cases h1
        · rw [List.getElem?_set_ne hj] at h1
          exact hj (S.dj i j a k0 l ds es e h1 e1 h2)
    refine ⟨by rw [List.length_set]; exact S.len, fun j d h => ?_, fun j l es h => ?_, fun j k b l1 l2 es fs h1 h2 h3 h4 => ?_, fun j C h => ?_, S.gh, S.bh, fun b hb => S.new b (hb.imp id (sub b)), fun b hb ho => S.xo b hb (sub b ho), S.xt⟩
    · by_cases hj : i = j
      · subst hj
        rw [List.getElem?_set_self hil] at h
        cases h
        refine ⟨.ref a, e1, hk0.rep ?_ (e3.mono (ar_own sub))⟩
        unfold ar
        rw [if_neg hna, if_pos (S.new a (.inr ⟨i, k0, ds, e, e1⟩))]
        exact e2
      · rw [List.getElem?_set_ne hj] at h
        obtain ⟨v, h1, h2⟩ := S.fz j d h
        exact ⟨v, h1, h2.mono (ar_own sub)⟩
    · by_cases hj : i = j
      · subst hj
        rw [List.getElem?_set_self hil] at h
        cases h
      · rw [List.getElem?_set_ne hj] at h
        obtain ⟨b, o1, ws, h1, h2, hk1, h3⟩ := S.ow j l es h
        exact ⟨b, o1, ws, h1, h2, hk1, h3.mono (ar_own sub)⟩
    · have get : ∀ {l : Nat} {lk : OwK} {gs : List D}, (ρ.set i (.fz (k0.asD ds)))[l]? = some (.oo lk gs) → ρ[l]? = some (.oo lk gs) := fun {l lk gs} h => by
        by_cases hj : i = l
        · subst hj
          rw [List.getElem?_set_self hil] at h
          cases h
        · rw [List.getElem?_set_ne hj] at h
          exact h
      exact S.dj j k b l1 l2 es fs (get h1) (get h2) h3 h4
    · by_cases hj : i = j
      · subst hj
        rw [List.getElem?_set_self hil] at h
        cases h
      · rw [List.getElem?_set_ne hj] at h
        exact S.ex j C h
theorem SR.frzO {K : PySem.W.Frag} {mg : Str → Option Value} {B : Bs} {ρ : Rho} {σ : St} {H : Hp} (S : SR K mg E B ρ σ H) (o : Option Nat) : SR K mg E B (frzO o ρ) σ H := by
  cases o with
  | none => exact S
  | some i => exact S.frz i
def tI (K : PySem.W.Frag) (mg : Str → Option Value) (E : ExE) (W : WX) (m : WM) : TI := fun σ H R => ∃ B ρ, SR K mg E B ρ σ H ∧
  GG mg W σ H (fun p => ∀ J H1, Same H H1 → SR K mg E B ρ σ H1 → Wk K mg (ar B ρ σ H1) (hid B (frzO p.2 ρ) σ H1) J p.1 → R J H1) (m ρ)
abbrev PMI (X : Cx) (E : ExE) (W : WX) (tg e : Expr) (m : WM) : Prop := PI X tg e (tI X.K X.mg E W m)
variable {tg : Expr}
theorem wk_list {K : PySem.W.Frag} {mg : Str → Option Value} {A Hb : Hp} {q : Addr} {ds : List D} {vs : List V} (h : SqL K Hb q vs) (r : Reps K mg A ds vs) (hA : ∀ H, Same Hb H → Same A H) : Wk K mg A Hb (Itl K q) ds where
  go := fun i H s hi => ⟨vs, vs[i]'(by rw [← r.length]; exact hi), s.seq h, by simp⟩
  stop := fun i H s hi => ⟨vs, s.seq h, by rw [← r.length]; exact hi⟩
  yld := fun i H x H' s hi y => by
    obtain ⟨rfl, y⟩ := y
    have hx := y vs (s.seq h)
    obtain ⟨d, h1, h2⟩ := r.get' hx
    exact ⟨Same.refl _, d, h1, h2.mono (gn_of (hA _ s) (Same.refl _))⟩
theorem wk_tup {K : PySem.W.Frag} {mg : Str → Option Value} {A Hb : Hp} {q : Addr} {ds : List D} {vs : List V} (h : SqT K Hb q vs) (r : Reps K mg A ds vs) (hA : ∀ H, Same Hb H → Same A H) : Wk K mg A Hb (Itt K q) ds where
  go := fun i H s hi => ⟨vs, vs[i]'(by rw [← r.length]; exact hi), same_tup s h, by simp⟩
  stop := fun i H s hi => ⟨vs, same_tup s h, by rw [← r.length]; exact hi⟩
  yld := fun i H x H' s hi y => by
    obtain ⟨rfl, y⟩ := y
    have hx := y vs (same_tup s h)
    obtain ⟨d, h1, h2⟩ := r.get' hx
    exact ⟨Same.refl _, d, h1, h2.mono (gn_of (hA _ s) (Same.refl _))⟩
theorem wk_range {K : PySem.W.Frag} {mg : Str → Option Value} {A Hb : Hp} (lo : Int) (n : Nat) : Wk K mg A Hb (Itr lo n) (rangeL lo n) where
  go := fun i H s hi => by
    show i < n
    simpa [rangeL] using hi
  stop := fun i H s hi => by
    show n ≤ i
    simpa [rangeL] using hi
  yld := fun i H x H' s hi y => by
    obtain ⟨rfl, rfl⟩ := y
    have hi' : i < n := by simpa [rangeL] using hi
    exact ⟨Same.refl _, .int (lo + i), by simp [rangeL, hi'], .int _⟩
theorem wk_str {K : PySem.W.Frag} {mg : Str → Option Value} {A Hb : Hp} (s : List Nat) : Wk K mg A Hb (Its ⟨s.toArray⟩) (s.map fun c => .str [c]) where
  go := fun i H s' hi => by
    show i < s.toArray.size
    simpa using hi
  stop := fun i H s' hi => by
    show s.toArray.size ≤ i
    simpa using hi
  yld := fun i H x H' s' hi y => by
    obtain ⟨rfl, c, h1, rfl⟩ := y
    refine ⟨Same.refl _, .str [c], ?_, .str [c]⟩
    have h2 : s[i]? = some c := by simpa using h1
    rw [List.getElem?_map, h2]
    rfl
/-- the area lies in what stays -/
theorem ar_hid {K : PySem.W.Frag} {mg : Str → Option Value} {B : Bs} {ρ ρ' : Rho} {σ : St} {H1 : Hp} (S : SR K mg E B ρ σ H1) (sub : ∀ b, Own ρ' σ b → Own ρ σ b) : Same (ar B ρ σ H1) (hid B ρ' σ H1) := fun b o h => by
  have h1 := S.sub _ _ h
  have hx : ¬ (B.X b ∨ Own ρ σ b) := fun z => by
    unfold ar at h
    rw [if_pos z] at h
    cases h
  unfold hid
  rw [if_neg fun z => hx (z.imp id (sub b))]
  exact h1
theorem own_frz {ρ : Rho} {σ : St} {b : Addr} {i : Nat} (h : Own (frz i ρ) σ b) : Own ρ σ b := by
  unfold Dm.frz at h
  split at h
  · rename_i k ds e
    obtain ⟨j, l, es, h1, h2⟩ := h
    have hil : i < ρ.length := (List.getElem?_eq_some_iff.mp e).1
    by_cases hj : i = j
    · subst hj
      rw [List.getElem?_set_self hil] at h1
      cases h1
    · rw [List.getElem?_set_ne hj] at h1
      exact ⟨j, l, es, h1, h2⟩
  · exact h
theorem own_frzO {ρ : Rho} {σ : St} {b : Addr} {o : Option Nat} (h : Own (frzO o ρ) σ b) : Own ρ σ b := by
  cases o with
  | none => exact h
  | some i => exact own_frz h
theorem pmi_list (ha : PM X E W e ma) : PMI X E W tg e (wmL ma) :=
  PI.imp (pi_list ha) fun σ H R ⟨B, ρ, S, h⟩ => GG.bindE S h fun x tx vx H1 rx e1 S1 h1 => by
    have fin : ∀ (k : SK) (ds : List D) (q : Addr) (vs : List V), x = .seq k ds → k ≠ .tup → vx = .ref q → SqL X.K (hid B (frzO tx.slot ρ) σ H1) q vs → Reps X.K X.mg (ar B ρ σ H1) ds vs → ∃ a, vx = .ref a ∧ (∃ xs, SqL X.K H1 a xs) ∧ R (Itl X.K a) H1 := by
      intro k ds q vs ex hk ev hq r
      subst ex ev
      refine ⟨q, rfl, ⟨vs, hid_sub.seq hq⟩, ?_⟩
      have h2 : ∀ J H1, Same H H1 → SR X.K X.mg E B ρ σ H1 → Wk X.K X.mg (ar B ρ σ H1) (hid B (frzO tx.slot ρ) σ H1) J ds → R J H1 := by
        cases k <;> first | exact h1 | exact absurd rfl hk
      exact h2 _ H1 e1 S1 (wk_list hq r fun H' s => (ar_hid S1 fun _ z => own_frzO z).trans s)
    cases tx with
    | cl =>
      have rr : Rep X.K X.mg (ar B ρ σ H1) x vx := rx
      cases rr <;> first | exact False.elim h1 | skip
      case lst q ds vs hv r => exact fin .lst ds q vs rfl (by simp) rfl (.of (ar_hid S1 (fun _ z => own_frzO z) _ _ hv)) r
      case rol q ds vs hv r => exact fin .rol ds q vs rfl (by simp) rfl ((ar_hid S1 fun _ z => own_frzO z).seq hv) r
    | own i =>
      obtain ⟨k, ds, q1, rfl, q3⟩ := rx
      cases k <;> first | exact h1.elim | skip
      obtain ⟨q, vs, e2, e3, e4⟩ := S1.owl i ds q1
      rw [q3] at e2
      cases e2
      refine fin .lst ds q vs rfl (by simp) rfl (.of ?_) e4
      have S2 := S1.frz i
      have hf : (Dm.frz i ρ)[i]? = some (.fz (.seq .lst ds)) := by
        unfold Dm.frz
        rw [q1]
        exact List.getElem?_set_self (List.getElem?_eq_some_iff.mp q1).1
      obtain ⟨v, h3, h4⟩ := S2.fz i _ hf
      rw [q3] at h3
      cases h3
      cases h4 with
      | lst hv r' =>
        have := S2.sub _ _ hv
        rw [e3] at this
        cases this
        exact ar_hid S2 (fun _ z => z) _ _ hv
    | fr =>
      obtain ⟨q, o, k, ds, vs, rfl, rfl, q3, q4, hk, q5⟩ := rx
      cases k <;> first | exact h1.elim | skip
      cases hk
      refine fin .lst ds q vs rfl (by simp) rfl (.of ?_) (q5.mono ar_add)
      have hx : ¬ (B.X q ∨ Own ρ σ q) := fun z => by
        rcases z with z | z
        · obtain ⟨o, e⟩ := S.xt q z
          rw [q3] at e; cases e
        · obtain ⟨vs, e⟩ := S.there z
          rw [q3] at e; cases e
      show hid B ρ σ H1 q = _
      unfold hid
      rw [if_neg hx]
      exact q4
theorem pmi_tup (ha : PM X E W e ma) : PMI X E W tg e (wmT ma) :=
  PI.imp (pi_tup ha) fun σ H R ⟨B, ρ, S, h⟩ => GG.bindE S h fun x tx vx H1 rx e1 S1 h1 => by
    have rp := rx.rp S1
    cases rp <;> first | exact False.elim h1 | skip
    case tup q ds vs hv r =>
      refine ⟨q, rfl, ⟨vs, same_tup S1.sub hv⟩, ?_⟩
      exact h1 _ H1 e1 S1 (wk_tup (same_tup (ar_hid S1 fun _ z => z) hv) r fun H' s => (ar_hid S1 fun _ z => z).trans s)
theorem pmi_str (ha : PM X E W e ma) : PMI X E W tg e (wmS ma) :=
  PI.imp (pi_str ha) fun σ H R ⟨B, ρ, S, h⟩ => GG.bindE S h fun x tx vx H1 rx e1 S1 h1 => by
    have rp := rx.rp S1
    cases rp <;> first | exact False.elim h1 | skip
    case str s => exact ⟨_, rfl, h1 _ H1 e1 S1 (wk_str s)⟩
theorem rg_ok {i : Int} (h : rgOk i = true) : -(2 ^ 62 : Int) ≤ i ∧ i < 2 ^ 62 := by
  rw [rgOk_def] at h
  simp only [Bool.and_eq_true, decide_eq_true_eq] at h
  omega
theorem pmi_r1 (ha : PM X E W a ma) (hm : X.mg "range" = none) (hg : Gl X "range" := by rfl) (hs : starEach [a] X.env = (false, eval a X.env) :: starEach [] X.env := by rfl) (hs2 : starEach [a] X.env = [(false, eval a X.env)] := by rfl) : PMI X E W tg (.Call (.Name "range" p) [a] [] pos) (wmR1 ma) :=
  PI.imp (pi_range1 hg hm (pa_cons ha pa_nil hs) hs2) fun σ H R ⟨B, ρ, S, h⟩ => GG.bindE S h fun x tx vx H1 rx e1 S1 h1 => by
    have rp := rx.rp S1
    cases rp <;> first | exact False.elim h1 | skip
    case int j =>
      have h2 : GG X.mg W σ H (fun p => ∀ J H1, Same H H1 → SR X.K X.mg E B ρ σ H1 → Wk X.K X.mg (ar B ρ σ H1) (hid B (frzO p.2 ρ) σ H1) J p.1 → R J H1) (if rgOk j then .ok (rangeL 0 j.toNat, none) else .bad) := h1
      split at h2
      · rename_i hr
        obtain ⟨a1, a2⟩ := rg_ok hr
        exact ⟨j, rfl, a1, a2, h2 _ H1 e1 S1 (wk_range 0 j.toNat)⟩
      · exact False.elim h2
theorem pmi_r2 (ha : PM X E W a ma) (hb : PM X E W b mb) (hm : X.mg "range" = none) (hg : Gl X "range" := by rfl) (hs : starEach [a, b] X.env = (false, eval a X.env) :: starEach [b] X.env := by rfl) (hs2 : starEach [b] X.env = (false, eval b X.env) :: starEach [] X.env := by rfl)
    (hs3 : starEach [a, b] X.env = [(false, eval a X.env), (false, eval b X.env)] := by rfl) (hs4 : starEach [b] X.env = [(false, eval b X.env)] := by rfl) : PMI X E W tg (.Call (.Name "range" p) [a, b] [] pos) (wmR2 ma mb) :=
  PI.imp (pi_range2 hg hm (pa_cons ha (pa_cons hb pa_nil hs2) hs) hs3 hs4) fun σ H R ⟨B, ρ, S, h⟩ => GG.bindE S h fun x tx vx H1 rx e1 S1 h1 => by
    have h1' := GG.mono h1 e1 fun _ q => q
    refine GG.bindE S1 h1' fun y ty vy H2 ry e2 S2 h2 => ?_
    have rpx := rx.rp S1
    have rpy := ry.rp S2
    cases rpx <;> cases rpy <;> first | exact False.elim h2 | skip
    case int.int i j =>
      have h3 : GG X.mg W σ H1 (fun p => ∀ J H1, Same H H1 → SR X.K X.mg E B ρ σ H1 → Wk X.K X.mg (ar B ρ σ H1) (hid B (frzO p.2 ρ) σ H1) J p.1 → R J H1) (if rgOk i && rgOk j then .ok (rangeL i (j - i).toNat, none) else .bad) := h2
      split at h3
      · rename_i hr
        rw [Bool.and_eq_true] at hr
        obtain ⟨a1, a2⟩ := rg_ok hr.1
        obtain ⟨b1, b2⟩ := rg_ok hr.2
        exact ⟨i, j, rfl, ⟨a1, a2, b1, b2⟩, h3 _ H2 (e1.trans e2) S2 (wk_range i (j - i).toNat)⟩
      · exact False.elim h3
end
end Dm
end

section
set_option Elab.async false
set_option linter.all false
set_option maxRecDepth 100000
set_option maxHeartbeats 4000000
/-! Dm: the slots' changes; statements. -/
namespace Dm
open PySem PySem.Spec L2 TL
section
variable {K : PySem.W.Frag} {mg : Str → Option Value} {E : ExE} {W : WX} {B : Bs} {ρ : Rho} {σ : St} {H H1 H2 : Hp}
/-- a slot gets plain data, or nothing -/
theorem SR.put (S : SR K mg E B ρ σ H) (i : Nat) {sl : Sl} {o : Option V} (h1 : ∀ k ds, sl ≠ .oo k ds) (h2 : ∀ C, sl = .ex C → ∃ a : Addr, E = some (i, C, a) ∧ o = some (.ref a)) (h3 : ∀ d, sl = .fz d → ∃ v, o = some v ∧ Rep K mg (ar B ρ σ H) d v) : SR K mg E B (ρ.set i sl) (σ.set i o) H := by
  have hlen := S.len
  have gne : ∀ {j : Nat}, i ≠ j → (ρ.set i sl)[j]? = ρ[j]? := fun {j} hj => List.getElem?_set_ne hj
  have sne : ∀ {j : Nat}, i ≠ j → (σ.set i o)[j]? = σ[j]? := fun {j} hj => List.getElem?_set_ne hj
  have geq : ∀ {x : Sl}, (ρ.set i sl)[i]? = some x → x = sl ∧ i < ρ.length := fun {x} h => by
    by_cases hl : i < ρ.length
    · rw [List.getElem?_set_self hl] at h
      cases h
      exact ⟨rfl, hl⟩
    · rw [List.getElem?_eq_none (by rw [List.length_set]; omega)] at h
      cases h
  have seq : i < ρ.length → (σ.set i o)[i]? = some o := fun hl => List.getElem?_set_self (by omega)
  have ow' : ∀ {j : Nat} {l : OwK} {es : List D}, (ρ.set i sl)[j]? = some (.oo l es) → i ≠ j ∧ ρ[j]? = some (.oo l es) := fun {j l es} h => by
    by_cases hj : i = j
    · subst hj
      exact absurd (geq h).1.symm (h1 l es)
    · rw [gne hj] at h
      exact ⟨hj, h⟩
  have sub : ∀ b, Own (ρ.set i sl) (σ.set i o) b → Own ρ σ b := fun b ⟨j, l, es, q1, q2⟩ => by
    obtain ⟨hj, q3⟩ := ow' q1
    rw [sne hj] at q2
    exact ⟨j, l, es, q3, q2⟩
  refine ⟨by rw [List.length_set, List.length_set]; exact hlen, fun j d h => ?_, fun j l es h => ?_, fun j k b l1 l2 es fs q1 q2 q3 q4 => ?_, fun j C h => ?_, S.gh, S.bh, fun b hb => S.new b (hb.imp id (sub b)), fun b hb ho => S.xo b hb (sub b ho), S.xt⟩
  · by_cases hj : i = j
    · subst hj
      obtain ⟨e, hl⟩ := geq h
      obtain ⟨v, e1, r⟩ := h3 d e.symm
      exact ⟨v, by rw [seq hl, e1], r.mono (ar_own sub)⟩
    · rw [gne hj] at h
      obtain ⟨v, e1, r⟩ := S.fz j d h
      exact ⟨v, by rw [sne hj]; exact e1, r.mono (ar_own sub)⟩
  · obtain ⟨hj, q⟩ := ow' h
    obtain ⟨a, o1, vs, e1, e2, hk, r⟩ := S.ow j l es q
    exact ⟨a, o1, vs, by rw [sne hj]; exact e1, e2, hk, r.mono (ar_own sub)⟩
  · obtain ⟨hj, p1⟩ := ow' q1
    obtain ⟨hk, p2⟩ := ow' q2
    rw [sne hj] at q3
    rw [sne hk] at q4
    exact S.dj j k b l1 l2 es fs p1 p2 q3 q4
  · by_cases hj : i = j
    · subst hj
      obtain ⟨e, hl⟩ := geq h
      obtain ⟨a, e1, e2⟩ := h2 C e.symm
      exact ⟨a, e1, by rw [seq hl, e2]⟩
    · rw [gne hj] at h
      rw [sne hj]
      exact S.ex j C h
theorem SR.setFz (S : SR K mg E B ρ σ H) (i : Nat) {d : D} {v : V} (r : Rep K mg (ar B ρ σ H) d v) : SR K mg E B (ρ.set i (.fz d)) (σ.set i (some v)) H :=
  S.put i (fun _ _ z => by cases z) (fun _ z => by cases z) fun d' z => by cases z; exact ⟨v, rfl, r⟩
theorem SR.setNo (S : SR K mg E B ρ σ H) (i : Nat) (o : Option V) : SR K mg E B (ρ.set i .no) (σ.set i o) H :=
  S.put i (fun _ _ z => by cases z) (fun _ z => by cases z) fun d' z => by cases z
/-- a slot gets a new list -/
theorem SR.setOw (S : SR K mg E B ρ σ H) (i : Nat) {k0 : OwK} {ds : List D} {vs : List V} {o0 : HO} {a : Addr} (ha : H a = none) (e : Same H H1) (h1 : H1 a = some o0) (hk0 : HOK mg a k0 vs o0) (r : Reps K mg (ar (B.add a) ρ σ H1) (k0.all ds) vs) : SR K mg E B (ρ.set i (.oo k0 ds)) (σ.set i (some (.ref a))) H1 := by
  have S0 := S.setNo i (some (.ref a))
  have hlen := S.len
  have gne : ∀ {j : Nat} {sl : Sl}, i ≠ j → (ρ.set i sl)[j]? = ρ[j]? := fun {j sl} hj => List.getElem?_set_ne hj
  have sne : ∀ {j : Nat} {o : Option V}, i ≠ j → (σ.set i o)[j]? = σ[j]? := fun {j o} hj => List.getElem?_set_ne hj
  have geq : ∀ {x sl : Sl}, (ρ.set i sl)[i]? = some x → x = sl ∧ i < ρ.length := fun {x sl} h => by
    by_cases hl : i < ρ.length
    · rw [List.getElem?_set_self hl] at h
      cases h
      exact ⟨rfl, hl⟩
    · rw [List.getElem?_eq_none (by rw [List.length_set]; omega)] at h
      cases h
  have seq : ∀ {o : Option V}, i < ρ.length → (σ.set i o)[i]? = some o := fun {o} hl => List.getElem?_set_self (by omega)
  have noOwn : ¬ Own ρ σ a := fun z => by
    obtain ⟨ws, q⟩ := S.there z
    rw [ha] at q; cases q
  have noX : ¬ B.X a := fun z => by
    obtain ⟨o, q⟩ := S.xt a z
    rw [ha] at q; cases q
  have own' : ∀ b, Own (ρ.set i (.oo k0 ds)) (σ.set i (some (.ref a))) b → b = a ∨ (Own ρ σ b ∧ Own (ρ.set i .no) (σ.set i (some (.ref a))) b) := fun b ⟨j, l, es, q1, q2⟩ => by
    by_cases hj : i = j
    · subst hj
      obtain ⟨_, hl⟩ := geq q1
      rw [seq hl] at q2
      cases q2
      exact .inl rfl
    · rw [gne hj] at q1
      rw [sne hj] at q2
      exact .inr ⟨⟨j, l, es, q1, q2⟩, j, l, es, by rw [gne hj]; exact q1, by rw [sne hj]; exact q2⟩
  have arS : ∀ {ρ2 : Rho} {σ2 : St}, (∀ b, Own (ρ.set i (.oo k0 ds)) (σ.set i (some (.ref a))) b → b = a ∨ Own ρ2 σ2 b) → Same (ar (B.add a) ρ2 σ2 H1) (ar B (ρ.set i (.oo k0 ds)) (σ.set i (some (.ref a))) H1) := fun {ρ2 σ2} hs b o h => by
    unfold ar at h ⊢
    split at h
    · cases h
    · rename_i hx
      have hx' : ¬ (B.X b ∨ Own (ρ.set i (.oo k0 ds)) (σ.set i (some (.ref a))) b) := fun z => by
        rcases z with z | z
        · exact hx (.inl (.inr z))
        · rcases hs b z with z | z
          · exact hx (.inl (.inl z))
          · exact hx (.inr z)
      rw [if_neg hx']
      exact h
  have old : Same (ar B (ρ.set i .no) (σ.set i (some (.ref a))) H) (ar B (ρ.set i (.oo k0 ds)) (σ.set i (some (.ref a))) H1) := fun b o h =>
    arS (fun b z => (own' b z).imp id And.right) _ _ (ar_new (S.newB ha) ha e _ _ h)
  refine ⟨by rw [List.length_set, List.length_set]; exact hlen, fun j d h => ?_, fun j l es h => ?_, fun j k b l1 l2 es fs q1 q2 q3 q4 => ?_, fun j C h => ?_, S.gh, S.bh.trans e, fun b hb => ?_, fun b hb ho => ?_, fun b hb => ?_⟩
  · by_cases hj : i = j
    · subst hj
      cases (geq h).1
    · rw [gne hj] at h
      obtain ⟨v, e1, r'⟩ := S0.fz j d (by rw [gne hj]; exact h)
      exact ⟨v, e1, r'.mono old⟩
  · by_cases hj : i = j
    · subst hj
      obtain ⟨q, hl⟩ := geq h
      cases q
      exact ⟨a, o0, vs, seq hl, h1, hk0, r.mono (arS fun b z => (own' b z).imp id And.left)⟩
    · rw [gne hj] at h
      obtain ⟨b, o1, ws, e1, e2, hk, r'⟩ := S0.ow j l es (by rw [gne hj]; exact h)
      exact ⟨b, o1, ws, e1, e _ _ e2, hk, r'.mono old⟩
  · by_cases hj : i = j
    · subst hj
      obtain ⟨_, hl⟩ := geq q1
      rw [seq hl] at q3
      cases q3
      by_cases hk : i = k
      · exact hk
      · rw [gne hk] at q2
        rw [sne hk] at q4
        exact absurd ⟨k, l2, fs, q2, q4⟩ noOwn
    · rw [gne hj] at q1
      rw [sne hj] at q3
      by_cases hk : i = k
      · subst hk
        obtain ⟨_, hl⟩ := geq q2
        rw [seq hl] at q4
        cases q4
        exact absurd ⟨j, l1, es, q1, q3⟩ noOwn
      · rw [gne hk] at q2
        rw [sne hk] at q4
        exact S.dj j k b l1 l2 es fs q1 q2 q3 q4
  · by_cases hj : i = j
    · subst hj
      cases (geq h).1
    · rw [gne hj] at h
      rw [sne hj]
      exact S.ex j C h
  · rcases hb with hb | hb
    · exact S.new b (.inl hb)
    · rcases own' b hb with rfl | hb
      · exact S.newB ha
      · exact S.new b (.inr hb.1)
  · rcases own' b ho with rfl | ho
    · exact noX hb
    · exact S.xo b hb ho.1
  · obtain ⟨o, q⟩ := S.xt b hb
    exact ⟨o, e _ _ q⟩
/-- the list of a slot is written -/
theorem SR.updO (S : SR K mg E B ρ σ H) {i : Nat} {k0 k1 : OwK} {ds ds' : List D} {vs' : List V} {o0 : HO} {a : Addr} (h1 : ρ[i]? = some (.oo k0 ds)) (h2 : σ[i]? = some (some (.ref a))) (hk1 : HOK mg a k1 vs' o0) (r : Reps K mg (ar B ρ σ H) (k1.all ds') vs') : SR K mg E B (ρ.set i (.oo k1 ds')) σ (upd H a o0) := by
  have hl : i < ρ.length := (List.getElem?_eq_some_iff.mp h1).1
  have own' : ∀ b, Own (ρ.set i (.oo k1 ds')) σ b → Own ρ σ b := fun b ⟨j, l, es, q1, q2⟩ => by
    by_cases hj : i = j
    · subst hj
      exact ⟨i, k0, ds, h1, q2⟩
    · rw [List.getElem?_set_ne hj] at q1
      exact ⟨j, l, es, q1, q2⟩
  have oa : Own ρ σ a := ⟨i, k0, ds, h1, h2⟩
  have same : Same (ar B ρ σ H) (ar B (ρ.set i (.oo k1 ds')) σ (upd H a o0)) := by
    have : ar B ρ σ H = ar B ρ σ (upd H a o0) := (ar_upd (.inr oa)).symm
    rw [this]
    exact ar_own own'
  refine ⟨by rw [List.length_set]; exact S.len, fun j d h => ?_, fun j l es h => ?_, fun j k b l1 l2 es fs q1 q2 q3 q4 => ?_, fun j C h => ?_, S.gh, fun b o h => ?_, fun b hb => S.new b (hb.imp id (own' b)), fun b hb ho => S.xo b hb (own' b ho), fun b hb => ?_⟩
  · by_cases hj : i = j
    · subst hj
      rw [List.getElem?_set_self hl] at h
      cases h
    · rw [List.getElem?_set_ne hj] at h
      obtain ⟨v, e1, r'⟩ := S.fz j d h
      exact ⟨v, e1, r'.mono same⟩
  · by_cases hj : i = j
    · subst hj
      rw [List.getElem?_set_self hl] at h
      cases h
      exact ⟨a, o0, vs', h2, upd_same, hk1, r.mono same⟩
    · rw [List.getElem?_set_ne hj] at h
      obtain ⟨b, o1, ws, e1, e2, hk, r'⟩ := S.ow j l es h
      refine ⟨b, o1, ws, e1, ?_, hk, r'.mono same⟩
      have : b ≠ a := fun z => by
        subst z
        exact hj (S.dj i j b k0 l ds es h1 h h2 e1)
      rw [upd_ne this]
      exact e2
  · have get : ∀ {l : Nat} {lk : OwK} {gs : List D}, (ρ.set i (.oo k1 ds'))[l]? = some (.oo lk gs) → ∃ lk' gs', ρ[l]? = some (.oo lk' gs') := fun {l lk gs} h => by
      by_cases hj : i = l
      · subst hj
        exact ⟨k0, ds, h1⟩
      · rw [List.getElem?_set_ne hj] at h
        exact ⟨lk, gs, h⟩
    obtain ⟨m1, g1, p1⟩ := get q1
    obtain ⟨m2, g2, p2⟩ := get q2
    exact S.dj j k b m1 m2 g1 g2 p1 p2 q3 q4
  · by_cases hj : i = j
    · subst hj
      rw [List.getElem?_set_self hl] at h
      cases h
    · rw [List.getElem?_set_ne hj] at h
      exact S.ex j C h
  · have : b ≠ a := fun z => by
      subst z
      rw [S.new b (.inr oa)] at h
      cases h
    rw [upd_ne this]
    exact S.bh _ _ h
  · obtain ⟨o, q⟩ := S.xt b hb
    have : b ≠ a := fun z => by
      subst z
      exact S.xo b hb oa
    exact ⟨o, by rw [upd_ne this]; exact q⟩
theorem SR.updOw (S : SR K mg E B ρ σ H) {i : Nat} {ds ds' : List D} {vs' : List V} {a : Addr} (h1 : ρ[i]? = some (.ow ds)) (h2 : σ[i]? = some (some (.ref a))) (r : Reps K mg (ar B ρ σ H) ds' vs') : SR K mg E B (ρ.set i (.ow ds')) σ (upd H a (.lst vs')) := S.updO h1 h2 (k1 := .lst) rfl r
/-- what is written besides -/
theorem SR.updX (S : SR K mg E B ρ σ H) {a : Addr} {o : HO} (h : B.X a) : SR K mg E B ρ σ (upd H a o) := by
  have same : ar B ρ σ (upd H a o) = ar B ρ σ H := ar_upd (.inl h)
  refine ⟨S.len, fun j d h => ?_, fun j l es h' => ?_, S.dj, S.ex, S.gh, fun b o' h' => ?_, S.new, S.xo, fun b hb => ?_⟩
  · rw [same]
    exact S.fz j d h
  · rw [same]
    obtain ⟨b, o1, ws, e1, e2, hk, r'⟩ := S.ow j l es h'
    have : b ≠ a := fun z => by
      subst z
      exact S.xo b h ⟨j, l, es, h', e1⟩
    exact ⟨b, o1, ws, e1, by rw [upd_ne this]; exact e2, hk, r'⟩
  · have : b ≠ a := fun z => by
      subst z
      rw [S.new b (.inl h)] at h'
      cases h'
    rw [upd_ne this]
    exact S.bh _ _ h'
  · by_cases e : b = a
    · subst e
      exact ⟨o, upd_same⟩
    · obtain ⟨o', q⟩ := S.xt b hb
      exact ⟨o', by rw [upd_ne e]; exact q⟩
theorem SR.wipe (S : SR K mg E B ρ σ H) : ∀ vs : List Nat, SR K mg E B (wipeR ρ vs) (wipe σ vs) H
  | [] => S
  | v :: vs => (S.wipe vs).setNo v none

theorem ar_none {B : Bs} {ρ : Rho} {σ : St} {H : Hp} {b : Addr} (hx : ¬ (B.X b ∨ Own ρ σ b)) (hn : B.H b = none) : ar B ρ σ H b = H b := by
  unfold ar
  rw [if_neg hx, if_pos hn]
theorem ar_some {B : Bs} {ρ : Rho} {σ : St} {H : Hp} {b : Addr} (hx : ¬ (B.X b ∨ Own ρ σ b)) (hn : ¬ B.H b = none) : ar B ρ σ H b = B.G b := by
  unfold ar
  rw [if_neg hx, if_neg hn]
theorem ar_out {B : Bs} {ρ : Rho} {σ : St} {H : Hp} {b : Addr} (hx : B.X b ∨ Own ρ σ b) : ar B ρ σ H b = none := by
  unfold ar
  rw [if_pos hx]
/-! ### a new start, for a loop's turns -/
noncomputable def Bs.re (B : Bs) (ρ : Rho) (σ : St) (H : Hp) : Bs := ⟨ar B ρ σ H, hid B ρ σ H, B.X⟩
theorem SR.re (S : SR K mg E B ρ σ H) : SR K mg E (B.re ρ σ H) ρ σ H := by
  have e : ar (B.re ρ σ H) ρ σ H = ar B ρ σ H := by
    funext b
    by_cases hx : B.X b ∨ Own ρ σ b
    · have hx' : (B.re ρ σ H).X b ∨ Own ρ σ b := hx
      rw [ar_out hx, ar_out hx']
    · have hx' : ¬ ((B.re ρ σ H).X b ∨ Own ρ σ b) := hx
      have hh : (B.re ρ σ H).H b = H b := by
        show hid B ρ σ H b = H b
        unfold hid
        rw [if_neg hx]
      by_cases hn : H b = none
      · rw [ar_none hx' (hh.trans hn), ar_none hx (S.newB hn)]
      · rw [ar_some hx' (fun z => hn (hh.symm.trans z))]
        rfl
  refine ⟨S.len, fun j d h => ?_, fun j l es h => ?_, S.dj, S.ex, fun b o h => ?_, hid_sub, fun b hb => ?_, S.xo, S.xt⟩
  · rw [e]; exact S.fz j d h
  · rw [e]; exact S.ow j l es h
  · exact ar_hid S (fun _ z => z) _ _ h
  · show hid B ρ σ H b = none
    have hb' : B.X b ∨ Own ρ σ b := hb
    unfold hid
    rw [if_pos hb']
theorem ar_back {ρ' : Rho} {σ' : St} {H' : Hp} (S : SR K mg E B ρ σ H) (e : Same (hid B ρ σ H) H') : Same (ar (B.re ρ σ H) ρ' σ' H') (ar B ρ' σ' H') := fun b o h => by
  unfold ar at h
  split at h
  · cases h
  · rename_i hx
    have hx' : ¬ (B.X b ∨ Own ρ' σ' b) := hx
    split at h
    · rename_i hn
      have hn : hid B ρ σ H b = none := hn
      have : B.H b = none := by
        by_cases z : B.X b ∨ Own ρ σ b
        · exact S.new b z
        · unfold hid at hn
          rw [if_neg z] at hn
          exact S.newB hn
      rw [ar_none hx' this]
      exact h
    · have h' : ar B ρ σ H b = some o := h
      have hh := ar_hid S (fun _ z => z) _ _ h'
      unfold ar at h'
      split at h'
      · cases h'
      · split at h'
        · rename_i hn
          rw [ar_none hx' hn]
          exact e _ _ hh
        · rename_i hn
          rw [ar_some hx' hn]
          exact h'
theorem bh_back {H' : Hp} (S : SR K mg E B ρ σ H) (e : Same (hid B ρ σ H) H') : Same B.H H' := fun b o h => by
  refine e _ _ ?_
  have hx : ¬ (B.X b ∨ Own ρ σ b) := fun z => by
    rw [S.new b z] at h
    cases h
  unfold hid
  rw [if_neg hx]
  exact S.bh _ _ h
theorem SR.back {ρ' : Rho} {σ' : St} {H' : Hp} (S : SR K mg E B ρ σ H) (T : SR K mg E (B.re ρ σ H) ρ' σ' H') : SR K mg E B ρ' σ' H' where
  len := T.len
  fz := fun i d h => let ⟨v, h1, h2⟩ := T.fz i d h; ⟨v, h1, h2.mono (ar_back S T.bh)⟩
  ow := fun i k d h => let ⟨a, o, vs, h1, h2, hk, h3⟩ := T.ow i k d h; ⟨a, o, vs, h1, h2, hk, h3.mono (ar_back S T.bh)⟩
  dj := T.dj
  ex := T.ex
  gh := S.gh
  bh := bh_back S T.bh
  new := fun b hb => by
    have hn : hid B ρ σ H b = none := T.new b hb
    by_cases z : B.X b ∨ Own ρ σ b
    · exact S.new b z
    · unfold hid at hn
      rw [if_neg z] at hn
      exact S.newB hn
  xo := T.xo
  xt := T.xt
end
end Dm
end

section
set_option Elab.async false
set_option linter.all false
set_option maxRecDepth 100000
set_option maxHeartbeats 4000000
/-! Dm: statements; the rule of a def. -/
namespace Dm
open PySem PySem.Spec L2 TL
open PyProof.Rows (envOfC)

def GS (K : PySem.W.Frag) (mg : Str → Option Value) (E : ExE) (W : WX) (B : Bs) (D : Ends) : Res Out → Prop
  | .ok (.nx ρ) => ∀ σ H, SR K mg E B ρ σ H → D.nx σ H
  | .ok (.rt d fr) => ∀ v H, Same B.H H → RF K mg B.G B.H H d fr v → D.rt v H
  | .ok (.bk ρ) => ∀ σ H, SR K mg E B ρ σ H → D.bk σ H
  | .ok (.ct ρ) => ∀ σ H, SR K mg E B ρ σ H → D.ct σ H
  | .ok (.ex C ρ) => ∀ σ H, SR K mg E B ρ σ H → W (clsV mg C) none σ H
  | .ex _ => False
  | .bad => False
def tS (K : PySem.W.Frag) (mg : Str → Option Value) (E : ExE) (W : WX) (m : SM) : TS := fun D σ H => ∃ B ρ, SR K mg E B ρ σ H ∧ GS K mg E W B D (m ρ)
abbrev PSM (X : Cx) (E : ExE) (W : WX) (s : Stmt) (m : SM) : Prop := PS X s (tS X.K X.mg E W m)
abbrev PSsM (X : Cx) (E : ExE) (W : WX) (s : List Stmt) (m : SM) : Prop := PSs X s (tS X.K X.mg E W m)
section
variable {K : PySem.W.Frag} {mg : Str → Option Value} {E : ExE} {W : WX} {B : Bs} {ρ : Rho} {σ : St} {H H1 H2 : Hp} {D : Ends} {α : Type}
/-- an expression ahead of a statement's rest -/
theorem GS.bindE {m : EM} {f : Val → Res Out} {R : VK} (S : SR K mg E B ρ σ H) (h : GS K mg E W B D ((m ρ).st ρ f))
    (k : ∀ (d : Dm.D) (t : Tg) (v : V) (H1 : Hp), RT K mg B ρ σ H H1 d t v → Same H H1 → SR K mg E B ρ σ H1 → GS K mg E W B D (f (d, t)) → R v H1) : tE K mg E W m σ H R := by
  refine ⟨B, ρ, S, ?_⟩
  cases e : m ρ with
  | ok x =>
    rw [e] at h
    exact fun v H' s r => k x.1 x.2 v H' r s (S.mono s) h
  | ex C =>
    rw [e] at h
    exact fun H' s => h σ H' (S.mono s)
  | bad =>
    rw [e] at h
    exact h
theorem GS.bindT {m : TM} {f : Bool → Res Out} {R : Bool → Hp → Prop} (S : SR K mg E B ρ σ H) (h : GS K mg E W B D ((m ρ).st ρ f))
    (k : ∀ (b : Bool) (H1 : Hp), Same H H1 → SR K mg E B ρ σ H1 → GS K mg E W B D (f b) → R b H1) : tT K mg E W m σ H R := by
  refine ⟨B, ρ, S, ?_⟩
  cases e : m ρ with
  | ok x =>
    rw [e] at h
    exact fun H' s => k x H' s (S.mono s) h
  | ex C =>
    rw [e] at h
    exact fun H' s => h σ H' (S.mono s)
  | bad =>
    rw [e] at h
    exact h
theorem GS.bindI {m : WM} {f : List Dm.D × Option Nat → Res Out} {R : It → Hp → Prop} (S : SR K mg E B ρ σ H) (h : GS K mg E W B D ((m ρ).st ρ f))
    (k : ∀ (p : List Dm.D × Option Nat) (J : It) (H1 : Hp), Same H H1 → SR K mg E B ρ σ H1 → Wk K mg (ar B ρ σ H1) (hid B (frzO p.2 ρ) σ H1) J p.1 → GS K mg E W B D (f p) → R J H1) : tI K mg E W m σ H R := by
  refine ⟨B, ρ, S, ?_⟩
  cases e : m ρ with
  | ok x =>
    rw [e] at h
    exact fun J H' s S' w => k x J H' s S' w h
  | ex C =>
    rw [e] at h
    exact fun H' s => h σ H' (S.mono s)
  | bad =>
    rw [e] at h
    exact h
/-- a value is laid into a slot -/
theorem putV_ok {i : Nat} {d : Dm.D} {t : Tg} {v : V} {ρ' : Rho} (S : SR K mg E B ρ σ H) (e : Same H H1) (r : RT K mg B ρ σ H H1 d t v) (h : putV i (d, t) ρ = .ok ρ') : SR K mg E B ρ' (σ.set i (some v)) H1 := by
  cases t with
  | cl =>
    cases h
    exact (S.mono e).setFz i r
  | own j =>
    obtain ⟨k, ds, h1, rfl, h3⟩ := r
    have h' : Res.ok ((Dm.frz j ρ).set i (.fz (k.asD ds))) = .ok ρ' := by cases k <;> exact h
    cases h'
    have S2 := (S.mono e).frz j
    have hf : (Dm.frz j ρ)[j]? = some (.fz (k.asD ds)) := by
      unfold Dm.frz
      rw [h1]
      exact List.getElem?_set_self (List.getElem?_eq_some_iff.mp h1).1
    obtain ⟨u, h4, h5⟩ := S2.fz j _ hf
    rw [h3] at h4
    cases h4
    exact S2.setFz i h5
  | fr =>
    obtain ⟨a, o, k, ds, vs, rfl, rfl, q3, q4, hk, q5⟩ := r
    have h' : Res.ok (ρ.set i (.oo k ds)) = .ok ρ' := by cases k <;> exact h
    cases h'
    exact S.setOw i q3 e q4 hk q5
theorem putAll_ok : ∀ {is : List Nat} {ds : List Dm.D} {vs : List V} {ρ ρ' : Rho} {σ : St}, SR K mg E B ρ σ H → Reps K mg (ar B ρ σ H) ds vs → putAll is ds ρ = .ok ρ' → is.length = vs.length ∧ SR K mg E B ρ' ((is.zip vs).foldl (fun s p => s.set p.1 (some p.2)) σ) H := by
  intro is
  induction is with
  | nil =>
    intro ds vs ρ ρ' σ S r h
    cases r with
    | nil =>
      cases h
      exact ⟨rfl, S⟩
    | cons _ _ => cases h
  | cons i is ih =>
    intro ds vs ρ ρ' σ S r h
    cases r with
    | nil => cases h
    | cons r1 r2 =>
      rename_i d v ds vs
      have S' := S.setFz i r1
      have sub : ∀ b, Own (ρ.set i (.fz d)) (σ.set i (some v)) b → Own ρ σ b := fun b ⟨j, l, es, q1, q2⟩ => by
        by_cases hj : i = j
        · subst hj
          by_cases hl : i < ρ.length
          · rw [List.getElem?_set_self hl] at q1
            cases q1
          · rw [List.getElem?_eq_none (by rw [List.length_set]; omega)] at q1
            cases q1
        · rw [List.getElem?_set_ne hj] at q1 q2
          exact ⟨j, l, es, q1, q2⟩
      obtain ⟨e1, e2⟩ := ih S' (r2.mono (ar_own sub)) h
      exact ⟨by rw [List.length_cons, List.length_cons, e1], e2⟩
/-- a result leaves the def -/
theorem rt_ok {d : Dm.D} {t : Tg} {v : V} (S : SR K mg E B ρ σ H) (e : Same H H1) (r : RT K mg B ρ σ H H1 d t v) : RF K mg B.G B.H H1 d (match t with | .cl => false | _ => true) v := by
  have S1 := S.mono e
  have key : ∀ {B2 : Bs}, (∀ b, B2.X b → B.X b ∨ Own ρ σ b) → B2.G = B.G → B2.H = B.H → Same (ar B ρ σ H1) (ar B2 [] [] H1) := fun {B2} hx eG eH b o h => by
    by_cases hz : B.X b ∨ Own ρ σ b
    · rw [ar_out hz] at h
      cases h
    · have hz2 : ¬ (B2.X b ∨ Own [] [] b) := fun z => z.elim (fun q => hz (hx b q)) own_nil
      by_cases hn : B.H b = none
      · rw [ar_none hz hn] at h
        rw [ar_none hz2 (by rw [eH]; exact hn)]
        exact h
      · rw [ar_some hz hn] at h
        rw [ar_some hz2 (by rw [eH]; exact hn), eG]
        exact h
  cases t with
  | cl => exact Rep.mono (key (B2 := Bs.of B.G B.H) (fun b z => z.elim) rfl rfl) r
  | own i =>
    obtain ⟨k, ds, h1, rfl, h3⟩ := r
    obtain ⟨a, o, vs, e1, e2, hk, e3⟩ := S1.ow i k ds h1
    rw [h3] at e1
    cases e1
    have oa : Own ρ σ a := ⟨i, k, ds, h1, h3⟩
    exact ⟨a, o, k, ds, vs, rfl, rfl, S.new a (.inr oa), e2, hk, e3.mono (key (B2 := (Bs.of B.G B.H).add a) (fun b z => z.elim (fun q => .inr (q ▸ oa)) (fun q => q.elim)) rfl rfl)⟩
  | fr =>
    obtain ⟨a, o, k, ds, vs, rfl, rfl, q3, q4, hk, q5⟩ := r
    refine ⟨a, o, k, ds, vs, rfl, rfl, S.newB q3, q4, hk, q5.mono fun b o h => ?_⟩
    have hb : b ≠ a := fun z => by
      rw [ar_out (.inl (show (B.add a).X b from .inl z))] at h
      cases h
    have h2 := key (B2 := Bs.of B.G B.H) (fun b z => z.elim) rfl rfl b o (ar_add b o h)
    rw [ar_add_ne (a := a) hb] at h2
    exact h2
end
section
variable {X : Cx} {E : ExE} {W : WX} {pos p : Pos} {a b c e : Expr} {ma mb mc : EM} {ta : TM} {st : Stmt} {sts : List Stmt} {m1 m2 : SM}
theorem psm_nil : PSsM X E W [] smSkip := PSs.imp pss_nil fun D σ H ⟨B, ρ, S, h⟩ => h σ H S
theorem psm_cons (h1 : PSM X E W st m1) (h2 : PSsM X E W sts m2) : PSsM X E W (st :: sts) (smSeq m1 m2) :=
  PSs.imp (pss_cons h1 h2) fun D σ H ⟨B, ρ, S, h⟩ => by
    refine ⟨B, ρ, S, ?_⟩
    unfold smSeq at h
    cases e : m1 ρ with
    | ok o =>
      rw [e] at h
      cases o with
      | nx ρ' => exact fun σ' H' S' => ⟨B, ρ', S', h⟩
      | rt d fr => exact h
      | bk ρ' => exact h
      | ct ρ' => exact h
      | ex C ρ' => exact h
    | ex C => rw [e] at h; exact h.elim
    | bad => rw [e] at h; exact h
theorem psm_one (h1 : PSM X E W st m1) : PSsM X E W [st] m1 := PSs.imp (pss_one h1) fun D σ H h => h
theorem psm_pass : PSM X E W (.Pass pos) smSkip := PS.imp ps_pass fun D σ H ⟨B, ρ, S, h⟩ => h σ H S
theorem psm_break : PSM X E W (.Break pos) smBreak := PS.imp ps_break fun D σ H ⟨B, ρ, S, h⟩ => h σ H S
theorem psm_cont : PSM X E W (.Continue pos) smCont := PS.imp ps_continue fun D σ H ⟨B, ρ, S, h⟩ => h σ H S
theorem psm_never : PSM X E W st smNever := PS.imp ps_never fun D σ H ⟨B, ρ, S, h⟩ => h
theorem psm_expr (ha : PM X E W a ma) (hs : swapsWith a none pos.line X.env = pure false := by rfl) : PSM X E W (.Expr a pos) (smExpr ma) :=
  PS.imp (ps_expr ha hs) fun D σ H ⟨B, ρ, S, h⟩ => GS.bindE S h fun x tx vx H1 rx e1 S1 h1 => h1 σ H1 S1
theorem psm_ret (ha : PM X E W a ma) : PSM X E W (.Return (some a) pos) (smRet ma) :=
  PS.imp (ps_ret ha) fun D σ H ⟨B, ρ, S, h⟩ => GS.bindE S h fun x tx vx H1 rx e1 S1 h1 => by
    have r := rt_ok S e1 rx
    cases tx <;> exact h1 vx H1 S1.bh r
theorem psm_retN : PSM X E W (.Return none pos) smRetN := PS.imp ps_retN fun D σ H ⟨B, ρ, S, h⟩ => h .non H S.bh Rep.non
theorem psm_if {s1 s2 : List Stmt} (hc : PMT X E W c ta) (ha : PSsM X E W s1 m1) (hb : PSsM X E W s2 m2) : PSM X E W (.If c s1 s2 pos) (smIf ta m1 m2) :=
  PS.imp (ps_if hc ha hb) fun D σ H ⟨B, ρ, S, h⟩ => GS.bindT S h fun k H1 e1 S1 h1 => by
    cases k with
    | true => exact iteT ⟨B, ρ, S1, h1⟩
    | false => exact iteF ⟨B, ρ, S1, h1⟩
theorem psm_set (i : Nat) {x : Str} {pos' : Pos} (hN : X.N.Nodup) (ha : PM X E W a ma) (hi : X.N[i]? = some x := by rfl) (hx : Loc X.env.scope x := by first | exact Or.inl rfl | exact Or.inr rfl)
    (hs : swapsWith a (some (.Name x pos')) pos.line X.env = pure false := by rfl) (hf : X.fn x = true ∨ X.env.scope.names.lookup x = some .local := by first | exact .inl rfl | exact .inr rfl) : PSM X E W (.Assign [.Name x pos'] a pos) (smSet i ma) :=
  PS.imp (ps_set hN hi hx ha hs hf) fun D σ H ⟨B, ρ, S, h⟩ => GS.bindE S h fun x tx vx H1 rx e1 S1 h1 => by
    show D.nx (σ.set i (some vx)) H1
    cases e : putV i (x, tx) ρ with
    | ok ρ' =>
      rw [e] at h1
      exact h1 _ H1 (putV_ok S e1 rx e)
    | ex C => rw [e] at h1; exact h1.elim
    | bad => rw [e] at h1; exact h1.elim
/-! targets -/
def PutOk (K : PySem.W.Frag) (mg : Str → Option Value) (E : ExE) (g : TG) (put : Dm.D → Rho → Res Rho) : Prop := ∀ (B : Bs) (ρ ρ' : Rho) (σ : St) (H : Hp) (d : Dm.D) (v : V) (Q : St → Hp → Prop),
  SR K mg E B ρ σ H → Rep K mg (ar B ρ σ H) d v → put d ρ = .ok ρ' → (∀ σ', SR K mg E B ρ' σ' H → Q σ' H) → g v σ H Q
theorem put1_ok {K : PySem.W.Frag} {mg : Str → Option Value} (i : Nat) : PutOk K mg E (gName i) (put1 i) := fun B ρ ρ' σ H d v Q S r h k => by
  cases h
  exact k _ (S.setFz i r)
/-- the targets' slots, one by one -/
def gNames : List Nat → TGs
  | [] => gNil
  | i :: is => gCons (gName i) (gNames is)
theorem gNames_run : ∀ {is : List Nat} {vs : List V} {σ : St} {H : Hp} {Q : St → Hp → Prop}, is.length = vs.length → Q ((is.zip vs).foldl (fun s p => s.set p.1 (some p.2)) σ) H → gNames is vs σ H Q
  | [], [], σ, H, Q, _, h => ⟨rfl, h⟩
  | i :: is, v :: vs, σ, H, Q, hl, h => ⟨v, vs, rfl, gNames_run (by simpa using hl) h⟩
  | [], _ :: _, _, _, _, hl, _ => by cases hl
  | _ :: _, [], _, _, _, hl, _ => by cases hl
theorem putT_ok {K : PySem.W.Frag} {mg : Str → Option Value} (is : List Nat) (n : Nat) (hn : is.length = n) : PutOk K mg E (gTup K n (gNames is)) (putT is) := fun B ρ ρ' σ H d v Q S r h k => by
  unfold putT at h
  split at h
  · rename_i ds
    cases r with
    | tup hv r =>
      obtain ⟨e1, e2⟩ := putAll_ok S r h
      exact ⟨_, _, rfl, same_tup S.sub hv, by rw [← e1]; exact hn, gNames_run e1 (k _ e2)⟩
  · cases h
theorem psm_unp {is : List Nat} {es : List Expr} {n k : Nat} {tpos : Pos} (ha : PM X E W a ma) (hn : is.length = n) (hg : PG X (.Tuple es k tpos) (gTup X.K n (gNames is))) (hs : swapsWithSole [.Tuple es k tpos] a pos.line X.env = pure false := by rfl) (hw : swappedStores [.Tuple es k tpos] a X.env = pure none := by rfl) :
    PSM X E W (.Assign [.Tuple es k tpos] a pos) (smUnp is ma) :=
  PS.imp (ps_asg ha hg hs hw) fun D σ H ⟨B, ρ, S, h⟩ => GS.bindE S h fun x tx vx H1 rx e1 S1 h1 => by
    have rp := rx.rp S1
    cases rp <;> first | exact False.elim h1 | skip
    case tup q ds vs hv r =>
      have h2 : GS X.K X.mg E W B D ((putAll is ds ρ).bind fun ρ' => .ok (.nx ρ')) := h1
      cases e : putAll is ds ρ with
      | ok ρ' =>
        rw [e] at h2
        obtain ⟨q1, q2⟩ := putAll_ok S1 r e
        exact ⟨q, vs, rfl, same_tup S1.sub hv, by rw [← q1]; exact hn, gNames_run q1 (h2 _ H1 q2)⟩
      | ex C => rw [e] at h2; exact h2.elim
      | bad => rw [e] at h2; exact h2.elim
theorem GS.bindA {X : Cx} {E : ExE} {W : WX} {B : Bs} {ρ : Rho} {σ : St} {H : Hp} {D : Ends} {m : AM} {f : List Val → Res Out} {R : List V → Hp → Prop} (S : SR X.K X.mg E B ρ σ H) (h : GS X.K X.mg E W B D ((m ρ).st ρ f))
    (k : ∀ (xs : List Val) (vs : List V) (H1 : Hp), RTs X.K X.mg B ρ σ H H1 xs vs → Same H H1 → SR X.K X.mg E B ρ σ H1 → GS X.K X.mg E W B D (f xs) → R vs H1) : tA X.K X.mg E W m σ H R := by
  refine ⟨B, ρ, S, ?_⟩
  cases e : m ρ with
  | ok x =>
    rw [e] at h
    exact fun vs H' s r => k x vs H' r s (S.mono s) h
  | ex C =>
    rw [e] at h
    exact fun H' s => h σ H' (S.mono s)
  | bad =>
    rw [e] at h
    exact h
theorem psm_par (i j : Nat) {x y : Str} {am : AM} {c d : Expr} {px py pt : Pos} {kt k2 pt2} (hN : X.N.Nodup) (ha : PMA X E W [c, d] am) (hi : X.N[i]? = some x := by rfl) (hj : X.N[j]? = some y := by rfl) (hij : i ≠ j := by decide) (hc : X.calm = true := by rfl)
    (hx : X.env.scope.names.lookup x = some .local := by rfl) (hy : X.env.scope.names.lookup y = some .local := by rfl)
    (hw : swappedStores [.Tuple [.Name x px, .Name y py] kt pt] (.Tuple [c, d] k2 pt2) X.env = pure (some [x, y]) := by rfl)
    (hs : swapsWithSole [.Tuple [.Name x px, .Name y py] kt pt] (.Tuple [c, d] k2 pt2) pos.line X.env = pure false := by rfl) :
    PSM X E W (.Assign [.Tuple [.Name x px, .Name y py] kt pt] (.Tuple [c, d] k2 pt2) pos) (smPar [i, j] am) :=
  PS.imp (ps_par hc hN hi hj hij hx hy ha hw hs) fun D σ H ⟨B, ρ, S, h⟩ => GS.bindA S h fun xs vs H1 rs e1 S1 h1 => by
    cases ek : kept xs with
    | ok ds =>
      rw [ek] at h1
      obtain ⟨h0, hk⟩ := kept_ok ek
      subst h0
      have r := rs.keep S e1 hk
      have h2 : GS X.K X.mg E W B D ((putAll [i, j] (xs.map (·.1)) ρ).bind fun ρ' => .ok (.nx ρ')) := h1
      cases e : putAll [i, j] (xs.map (·.1)) ρ with
      | ok ρ' =>
        rw [e] at h2
        obtain ⟨q1, q2⟩ := putAll_ok S1 r e
        match vs, q1, q2 with
        | [v, w], _, q2 => exact ⟨v, w, rfl, h2 _ H1 q2⟩
      | ex C => rw [e] at h2; exact h2.elim
      | bad => rw [e] at h2; exact h2.elim
    | ex C => rw [ek] at h1; exact h1.elim
    | bad => rw [ek] at h1; exact h1.elim
/-! a list of one's own -/
theorem psm_app (i : Nat) {x : Str} {p1 p2 : Pos} (ha : PM X E W a ma) (hN : X.N[i]? = some x := by rfl) (hv : Vis X.env.scope x := by first | exact Or.inl rfl | exact Or.inr (Or.inl rfl) | exact Or.inr (Or.inr rfl)) (hd : (x == ("__debug__" : Str)) = false := by decide)
    (hcd : (x == ("__classdict__" : Str)) = false := by decide) (hbase : attributeBase (.Name x p1) "append" X.env (eval (.Name x p1) X.env) = eval (.Name x p1) X.env := by rfl)
    (hfew : ((backTo p (starEach [a] X.env)).all (fun x => !x.1) && (backToKw p (keywordEach [] X.env)).all (fun x => x.1.isSome) && decide ([a].length + ([] : List Keyword).length + (if ([] : List Keyword).isEmpty then 0 else 1) < 30)) = true := by rfl)
    (hline : (p2.endLine == p.line) = true := by rfl) (hs1 : starEach [a] X.env = (false, eval a X.env) :: starEach [] X.env := by rfl) (hplain : (backTo p (starEach [] X.env)).any (·.1) = false := by rfl)
    (hs : swapsWith (.Call (.Attribute (.Name x p1) "append" p2) [a] [] p) none pos.line X.env = pure false := by rfl) :
    PSM X E W (.Expr (.Call (.Attribute (.Name x p1) "append" p2) [a] [] p) pos) (smApp i ma) :=
  PS.imp (ps_expr (pe_bm PySem.F.plainAttrs_list PySem.F.slot_list_append PySem.F.type_list_append mt_append (pe_var hN hv hd hcd) (pa_cons ha pa_nil hs1) hbase hfew hline hs1 hplain) hs) fun D σ H ⟨B, ρ, S, h⟩ => by
    unfold smApp at h
    split at h
    · rename_i ds e
      obtain ⟨l, vs, e1, e2, e3⟩ := S.owl i ds e
      refine ⟨.ref l, e1, .inl ⟨rfl, vs, .of e2⟩, GS.bindE S h fun y ty vy H1 ry s1 S1 h1 => ?_⟩
      have h2 : GS X.K X.mg E W B D (if (ty.free || y.sc) && decide (ds.length < lim) then .ok (.nx (ρ.set i (.ow (ds ++ [y])))) else .bad) := h1
      split at h2
      · rename_i hc
        rw [Bool.and_eq_true, Bool.or_eq_true, decide_eq_true_eq] at hc
        refine ⟨l, vs, vy, rfl, rfl, s1 _ _ e2, by rw [← e3.length, lim_eq]; exact hc.2, h2 σ _ ?_⟩
        exact S1.updOw e e1 ((e3.mono (ar_mono s1)).app (.cons (ry.keep S s1 hc.1) .nil))
      · exact h2.elim
    · exact h.elim

theorem psm_clear (i : Nat) {x : Str} {p1 p2 : Pos} (hN : X.N[i]? = some x := by rfl) (hv : Vis X.env.scope x := by first | exact Or.inl rfl | exact Or.inr (Or.inl rfl) | exact Or.inr (Or.inr rfl)) (hd : (x == ("__debug__" : Str)) = false := by decide)
    (hcd : (x == ("__classdict__" : Str)) = false := by decide) (hbase : attributeBase (.Name x p1) "clear" X.env (eval (.Name x p1) X.env) = eval (.Name x p1) X.env := by rfl) (hline : (p2.endLine == p.line) = true := by rfl)
    (hs : swapsWith (.Call (.Attribute (.Name x p1) "clear" p2) [] [] p) none pos.line X.env = pure false := by rfl) :
    PSM X E W (.Expr (.Call (.Attribute (.Name x p1) "clear" p2) [] [] p) pos) (smClear i) :=
  PS.imp (ps_expr (pe_bm0 PySem.F.plainAttrs_list PySem.F.slot_list_clear PySem.F.type_list_clear mt_clear (pe_var hN hv hd hcd) hbase hline) hs) fun D σ H ⟨B, ρ, S, h⟩ => by
    unfold smClear at h
    split at h
    · rename_i ds e
      obtain ⟨l, vs, e1, e2, e3⟩ := S.owl i ds e
      exact ⟨.ref l, e1, .inl ⟨rfl, vs, .of e2⟩, l, vs, rfl, rfl, e2, h σ _ (S.updOw e e1 .nil)⟩
    · exact h.elim

/-! loops -/
theorem GS.re {K : PySem.W.Frag} {mg : Str → Option Value} {B : Bs} {ρ : Rho} {σ : St} {H : Hp} {D : Ends} (S : SR K mg E B ρ σ H) {r : Res Out} (h : GS K mg E W B D r) : GS K mg E W (B.re ρ σ H) D r := by
  cases r with
  | ok o =>
    cases o with
    | nx ρ' => exact fun σ' H' T => h σ' H' (S.back T)
    | bk ρ' => exact fun σ' H' T => h σ' H' (S.back T)
    | ct ρ' => exact fun σ' H' T => h σ' H' (S.back T)
    | ex C ρ' => exact fun σ' H' T => h σ' H' (S.back T)
    | rt d fr =>
      intro v H' s r
      have s' : Same (hid B ρ σ H) H' := s
      refine h v H' (bh_back S s') ?_
      -- the area behind
      have key : ∀ {B1 B2 : Bs}, (∀ b, B2.X b → B1.X b) → B1.G = ar B ρ σ H → B1.H = hid B ρ σ H → B2.G = B.G → B2.H = B.H → Same (ar B1 [] [] H') (ar B2 [] [] H') := by
        intro B1 B2 hx g1 g2 g3 g4 b o hb
        by_cases hz : B1.X b ∨ Own [] [] b
        · rw [ar_out hz] at hb
          cases hb
        · have hz2 : ¬ (B2.X b ∨ Own [] [] b) := fun z => hz (z.imp (hx b) id)
          by_cases hn : B1.H b = none
          · have hBn : B.H b = none := by
              rw [g2] at hn
              by_cases z : B.X b ∨ Own ρ σ b
              · exact S.new b z
              · unfold hid at hn
                rw [if_neg z] at hn
                exact S.newB hn
            rw [ar_none hz hn] at hb
            rw [ar_none hz2 (by rw [g4]; exact hBn)]
            exact hb
          · rw [ar_some hz hn, g1] at hb
            have hh := ar_hid S (fun _ z => z) _ _ hb
            by_cases hBn : B.H b = none
            · rw [ar_none hz2 (by rw [g4]; exact hBn)]
              exact s' _ _ hh
            · rw [ar_some hz2 (by rw [g4]; exact hBn), g3]
              have hzz : ¬ (B.X b ∨ Own ρ σ b) := fun z => by
                rw [ar_out z] at hb
                cases hb
              rw [ar_some hzz hBn] at hb
              exact hb
      cases fr with
      | false => exact Rep.mono (key (B1 := Bs.of (ar B ρ σ H) (hid B ρ σ H)) (B2 := Bs.of B.G B.H) (fun _ z => z) rfl rfl rfl rfl) r
      | true =>
        obtain ⟨a, o, k, ds, vs, q1, q2, q3, q4, hk, q5⟩ := r
        refine ⟨a, o, k, ds, vs, q1, q2, ?_, q4, hk, q5.mono (key (B1 := (Bs.of (ar B ρ σ H) (hid B ρ σ H)).add a) (B2 := (Bs.of B.G B.H).add a) (fun _ z => z) rfl rfl rfl rfl)⟩
        have hn : hid B ρ σ H a = none := q3
        by_cases z : B.X a ∨ Own ρ σ a
        · exact S.new a z
        · unfold hid at hn
          rw [if_neg z] at hn
          exact S.newB hn
  | ex C => exact h.elim
  | bad => exact h
theorem psm_for {tg iter : Expr} {body : List Stmt} {wm : WM} {g : TG} {put : Dm.D → Rho → Res Rho} {mb : SM} (hp : PassesOwn (model X.prog X.w) X.A X.env X.xe) (hc : X.calm = true) (hi : PMI X E W tg iter wm) (hg : PG X tg g) (hput : PutOk X.K X.mg E g put) (hb : PSsM X E W body mb)
    (hs : ∀ x, foldedSetIterable iter X.env x = pure x := by intro _; rfl) : PSM X E W (.For tg iter body [] pos) (smFor put wm mb) :=
  PS.imp (ps_for hp hc hi hg hb hs) fun D σ H ⟨B, ρ, S, h⟩ => GS.bindI S h fun q J H1 e1 S1 wk h1 => by
    obtain ⟨ds, o⟩ := q
    have S2 := S1.frzO o
    have T := S2.re
    have h2 := GS.re S2 h1
    refine ⟨fun i m σ' H' => m = ds.length - i ∧ i ≤ ds.length ∧ ∃ ρ', SR X.K X.mg E (B.re (frzO o ρ) σ H1) ρ' σ' H' ∧ GS X.K X.mg E W (B.re (frzO o ρ) σ H1) D (turns put mb (ds.drop i) ρ'), ⟨ds.length, by simp, Nat.zero_le _, frzO o ρ, T, h2⟩, ?_⟩
    rintro i m σ' H' ⟨rfl, hi, ρ', S', h'⟩
    have hbH : Same (hid B (frzO o ρ) σ H1) H' := S'.bh
    by_cases hlt : i < ds.length
    · refine .inr ⟨wk.go i H' hbH hlt, ?_⟩
      have hd : ds.drop i = ds[i] :: ds.drop (i + 1) := List.drop_eq_getElem_cons hlt
      rw [hd] at h'
      refine ⟨fun σ2 H2 => ∃ ρ2, SR X.K X.mg E (B.re (frzO o ρ) σ H1) ρ2 σ2 H2 ∧ GS X.K X.mg E W (B.re (frzO o ρ) σ H1) D (turns put mb (ds.drop (i + 1)) ρ2), fun σ2 H2 n => ⟨ds.length - (i + 1), by omega, rfl, hlt, n⟩, fun x H2 y => ?_⟩
      obtain ⟨s2, d, ed, rd⟩ := wk.yld i H' x H2 hbH hlt y
      rw [List.getElem?_eq_getElem hlt] at ed
      cases ed
      have S3 := S'.mono s2
      have rd' : Rep X.K X.mg (ar (B.re (frzO o ρ) σ H1) ρ' σ' H2) ds[i] x := rd.mono fun b ob hb => by
        have nb : ∀ {u : HO}, H' b = some u → True := fun _ => trivial
        by_cases hn : H' b = none
        · have hb' : H2 b = some ob := by simpa [hn] using hb
          have hx : ¬ ((B.re (frzO o ρ) σ H1).X b ∨ Own ρ' σ' b) := fun z => by
            rcases z with z | z
            · obtain ⟨u, q⟩ := S'.xt b z
              rw [hn] at q; cases q
            · obtain ⟨u, q⟩ := S'.there z
              rw [hn] at q; cases q
          rw [ar_none hx (S'.newB hn)]
          exact hb'
        · have hb' : ar B ρ σ H1 b = some ob := by simpa [hn] using hb
          have hb2 : ar B (frzO o ρ) σ H1 b = some ob := ar_own (fun _ z => own_frzO z) _ _ hb'
          have hb3 : hid B (frzO o ρ) σ H1 b = some ob := ar_hid S2 (fun _ z => z) _ _ hb2
          have hx : ¬ ((B.re (frzO o ρ) σ H1).X b ∨ Own ρ' σ' b) := fun z => by
            have := S'.new b z
            rw [show (B.re (frzO o ρ) σ H1).H b = hid B (frzO o ρ) σ H1 b from rfl, hb3] at this
            cases this
          rw [ar_some hx (by rw [show (B.re (frzO o ρ) σ H1).H b = hid B (frzO o ρ) σ H1 b from rfl, hb3]; simp)]
          exact hb2
      unfold turns at h'
      cases ep : put ds[i] ρ' with
      | ok ρ2 =>
        rw [ep] at h'
        refine hput _ ρ' ρ2 σ' H2 ds[i] x _ S3 rd' ep fun σ3 S4 => ⟨_, ρ2, S4, ?_⟩
        rw [Res.bind_ok] at h'
        cases eb : mb ρ2 with
        | ok out =>
          rw [eb, Res.bind_ok] at h'
          cases out with
          | nx ρ3 => exact fun σ4 H4 S5 => ⟨ρ3, S5, h'⟩
          | ct ρ3 => exact fun σ4 H4 S5 => ⟨ρ3, S5, h'⟩
          | bk ρ3 => exact h'
          | rt d fr => exact h'
          | ex C ρ3 => exact h'
        | ex C => rw [eb] at h'; exact h'.elim
        | bad => rw [eb] at h'; exact h'
      | ex C => rw [ep] at h'; exact h'.elim
      | bad => rw [ep] at h'; exact h'.elim
    · have hi' : i = ds.length := by omega
      subst hi'
      refine .inl ⟨wk.stop _ H' hbH (Nat.le_refl _), ?_⟩
      rw [List.drop_length] at h'
      exact h' σ' H' S'
theorem psm_while {body : List Stmt} {mb : SM} (n : Nat) (hp : PassesOwn (model X.prog X.w) X.A X.env X.xe) (hc : PMT X E W c ta) (hb : PSsM X E W body mb) : PSM X E W (.While c body [] pos) (smWhile ta mb n) :=
  PS.imp (ps_while hp hc hb) fun D σ H ⟨B, ρ, S, h⟩ => by
    refine ⟨fun m σ' H' => ∃ ρ', SR X.K X.mg E B ρ' σ' H' ∧ GS X.K X.mg E W B D (smWhile ta mb m ρ'), ⟨n, ρ, S, h⟩, ?_⟩
    rintro m σ' H' ⟨ρ', S', h'⟩
    cases m with
    | zero => exact h'.elim
    | succ m =>
      unfold smWhile at h'
      refine GS.bindT S' h' fun k H1 e1 S1 h1 => ?_
      cases k with
      | false => exact iteF (h1 σ' H1 S1)
      | true =>
        refine iteT ⟨fun σ2 H2 => ∃ ρ2, SR X.K X.mg E B ρ2 σ2 H2 ∧ GS X.K X.mg E W B D (smWhile ta mb m ρ2), fun σ2 H2 q => ⟨m, Nat.lt_succ_self _, q⟩, B, ρ', S1, ?_⟩
        have h2 : GS X.K X.mg E W B D ((mb ρ').bind fun o => o.turn (smWhile ta mb m)) := h1
        cases eb : mb ρ' with
        | ok out =>
          rw [eb, Res.bind_ok] at h2
          cases out with
          | nx ρ3 => exact fun σ4 H4 S5 => ⟨ρ3, S5, h2⟩
          | ct ρ3 => exact fun σ4 H4 S5 => ⟨ρ3, S5, h2⟩
          | bk ρ3 => exact h2
          | rt d fr => exact h2
          | ex C ρ3 => exact h2
        | ex C => rw [eb] at h2; exact h2.elim
        | bad => rw [eb] at h2; exact h2
/-! raise -/
theorem psm_raise {C : String} (hc : X.calm = true) (tk : Takes X W) (he : PMk X e (fun _ H Q => Q (clsV X.mg C) none H)) : PSM X E W (.Raise (some e) none pos) (smRaise C) :=
  PS.imp (ps_raise hc tk he) fun D σ H ⟨B, ρ, S, h⟩ => h σ H S

/-! ### THE RULE of a def -/
theorem reps_start {K : PySem.W.Frag} {mg : Str → Option Value} {G H : Hp} {ds : List Dm.D} {vs : List V} (gh : Same G H) (r : Reps K mg G ds vs) (n : Nat) : SR K mg none (Bs.of G H) (ds.map .fz ++ List.replicate n .no) (vs.map some ++ List.replicate n none) H := by
  have hl := r.length
  have noow : ∀ {i : Nat} {l : OwK} {es : List Dm.D}, ¬ (ds.map Sl.fz ++ List.replicate n .no)[i]? = some (.oo l es) := fun {i l es} h => by
    by_cases hi : i < ds.length
    · rw [List.getElem?_append_left (by simpa using hi), List.getElem?_map, List.getElem?_eq_getElem hi] at h
      cases h
    · rw [List.getElem?_append_right (by simpa using hi)] at h
      rw [List.getElem?_replicate] at h
      split at h <;> cases h
  have noOwn : ∀ b, ¬ Own (ds.map Sl.fz ++ List.replicate n .no) (vs.map some ++ List.replicate n none) b := fun b ⟨i, l, es, h, _⟩ => noow h
  have same : Same G (ar (Bs.of G H) (ds.map Sl.fz ++ List.replicate n .no) (vs.map some ++ List.replicate n none) H) := fun b o h => by
    have hz : ¬ ((Bs.of G H).X b ∨ Own (ds.map Sl.fz ++ List.replicate n .no) (vs.map some ++ List.replicate n none) b) := fun z => z.elim (fun q => q) (noOwn b)
    rw [ar_some hz (by rw [show (Bs.of G H).H b = H b from rfl, gh _ _ h]; simp)]
    exact h
  refine ⟨by simp [hl], fun i d h => ?_, fun i l es h => absurd h noow, fun i j a l1 l2 es fs h => absurd h noow, fun i C h => ?_, gh, Same.refl H, fun b z => (z.elim (fun q => q.elim) (noOwn b)).elim, fun b z => z.elim, fun b z => z.elim⟩
  · by_cases hi : i < ds.length
    · rw [List.getElem?_append_left (by simpa using hi), List.getElem?_map] at h
      cases e : ds[i]? with
      | none => rw [e] at h; cases h
      | some d' =>
        rw [e] at h
        cases h
        obtain ⟨v, h1, h2⟩ := r.get e
        refine ⟨v, ?_, h2.mono same⟩
        rw [List.getElem?_append_left (by rw [List.length_map]; omega), List.getElem?_map, h1]
        rfl
    · rw [List.getElem?_append_right (by simpa using hi), List.getElem?_replicate] at h
      split at h <;> cases h
  · by_cases hi : i < ds.length
    · rw [List.getElem?_append_left (by simpa using hi), List.getElem?_map, List.getElem?_eq_getElem hi] at h
      cases h
    · rw [List.getElem?_append_right (by simpa using hi), List.getElem?_replicate] at h
      split at h <;> cases h
theorem fn_m {CX : CXT} {P : Program} {w : World} {K : PySem.W.Frag} {mg : Str → Option Value} {base : Heap} {x qual : Str} {st : Stmt} {f : Addr} {fd : FuncData} {N ps : List Str} {k np nl : Nat} {m : SM} (F : Fun K x qual st f fd) (S : FnScope N ps (defScope st)) (hps : ps.length = np) (hN : N.length = np + nl)
    (hbody : ∀ (cdv : Value) (A : Around) (outer : List Env) (s : Shared) (H : Hp) (E : XK), Room k (A.deeper (envOfC qual (defScope st) s.heap.objs.size f cdv)) →
      PSsM (cxOf CX P w K mg base N qual (defScope st) f cdv A outer s H E) none (fun cls d _ H => E cls d H) (defBody st) m) :
    FnOk P w K mg base CX (k + 1) f fd ps (spM K mg np (mFn np nl m)) := by
  obtain ⟨oc, od, kV, doc, pm, an, cdv, ct, osl, rfl, lk, hcd⟩ := F.ex
  refine fn_of lk hcd S (fun vs H Q E h => by rw [hps]; exact h.1) (fun A outer s H vs Q E hr h => ?_)
  obtain ⟨hl, G, ds, gh, r, h⟩ := h
  refine ⟨_, hbody cdv A outer s H E hr, Bs.of G H, ds.map .fz ++ List.replicate nl .no, ?_, ?_⟩
  · have : L2.start N vs = vs.map some ++ List.replicate nl none := by
      unfold L2.start
      rw [hN, hl, Nat.add_sub_cancel_left]
    rw [this]
    exact reps_start gh r nl
  · unfold mFn at h
    rw [if_pos (by rw [r.length]; exact hl)] at h
    show GS K mg none _ (Bs.of G H) _ (m (ds.map .fz ++ List.replicate nl .no))
    cases e : m (ds.map .fz ++ List.replicate nl .no) with
    | ok o =>
      rw [e] at h
      cases o with
      | nx ρ' => exact fun σ' H' S' => h .non H' S'.bh Rep.non
      | rt d fr => exact fun v H' s rf => h v H' s rf
      | bk ρ' => exact h.elim
      | ct ρ' => exact h.elim
      | ex C ρ' => exact fun σ' H' S' => h H' S'.bh
    | ex C =>
      rw [e] at h
      exact h.elim
    | bad => rw [e] at h; exact h.elim
end
end Dm
end

section
set_option Elab.async false
set_option linter.all false
set_option maxRecDepth 100000
set_option maxHeartbeats 4000000
/-! Dm: comprehensions; try. -/
namespace Dm
open PySem PySem.Spec L2 TL
abbrev W0 : WX := fun _ _ _ _ => False
section
variable {K : PySem.W.Frag} {mg : Str → Option Value} {E : ExE} {W : WX} {B : Bs} {ρ : Rho} {σ : St} {H H1 H2 : Hp}
theorem wipe_get {σ : St} {k : Nat} : ∀ {vs : List Nat}, (wipe σ vs)[k]? = if k ∈ vs then (if k < σ.length then some none else none) else σ[k]?
  | [] => by simp [wipe]
  | v :: vs => by
    unfold wipe
    by_cases hk : v = k
    · subst hk
      rw [List.getElem?_set]
      simp [wipe_length]
    · rw [List.getElem?_set_ne hk, wipe_get]
      have hk' : ¬ k = v := fun z => hk z.symm
      simp [hk']
theorem wipe_set {σ : St} {vs : List Nat} {j : Nat} {o : Option V} (hj : j ∈ vs) : wipe ((wipe σ vs).set j o) vs = wipe σ vs := by
  apply List.ext_getElem?
  intro k
  rw [wipe_get, wipe_get, List.length_set, wipe_length]
  by_cases hk : k ∈ vs
  · simp [hk]
  · have : j ≠ k := fun z => hk (z ▸ hj)
    simp only [hk, if_false]
    rw [List.getElem?_set_ne this, wipe_get]
    simp [hk]
theorem wipe_sets {σ : St} {vs : List Nat} : ∀ {ps : List (Nat × V)} {τ : St}, wipe τ vs = wipe σ vs → (∀ p ∈ ps, p.1 ∈ vs) → wipe (ps.foldl (fun s p => s.set p.1 (some p.2)) τ) vs = wipe σ vs
  | [], τ, h, _ => h
  | p :: ps, τ, h, hp => by
    rw [List.foldl_cons]
    refine wipe_sets ?_ fun q hq => hp q (List.mem_cons_of_mem _ hq)
    rw [← h]
    apply List.ext_getElem?
    intro k
    rw [wipe_get, wipe_get, List.length_set]
    have hm := hp p (List.mem_cons_self ..)
    by_cases hk : k ∈ vs
    · simp [hk]
    · have : p.1 ≠ k := fun z => hk (z ▸ hm)
      simp only [hk, if_false]
      rw [List.getElem?_set_ne this]
theorem wipe_wipe {σ : St} {vs : List Nat} : wipe (wipe σ vs) vs = wipe σ vs := by
  apply List.ext_getElem?
  intro k
  rw [wipe_get, wipe_length]
  by_cases hk : k ∈ vs
  · rw [wipe_get]; simp [hk]
  · simp [hk]
/-- a target of a comprehension: it lays into the block's own slots -/
def PutC (K : PySem.W.Frag) (mg : Str → Option Value) (E : ExE) (g : TG) (put : D → Rho → Res Rho) (own : List Nat) : Prop := ∀ (B : Bs) (ρ ρ' : Rho) (σ : St) (H : Hp) (d : D) (v : V) (Q : St → Hp → Prop),
  SR K mg E B ρ (wipe σ own) H → (∀ i ∈ own, ∀ l ds, ρ[i]? ≠ some (.oo l ds)) → Rep K mg (ar B ρ (wipe σ own) H) d v → put d ρ = .ok ρ' → (∀ σ', wipe σ' own = wipe σ own → SR K mg E B ρ' σ' H → (∀ b, Own ρ (wipe σ own) b → Own ρ' σ' b) → Q σ' H) → g v (wipe σ own) H Q
theorem putC1 {own : List Nat} {i : Nat} (hi : i ∈ own) : PutC K mg E (gName i) (put1 i) own := fun B ρ ρ' σ H d v Q S hno r h k => by
  cases h
  refine k _ (wipe_set hi) (S.setFz i r) fun b ⟨j, l, es, q1, q2⟩ => ?_
  have hj : i ≠ j := fun z => hno i hi l es (z ▸ q1)
  exact ⟨j, l, es, by rw [List.getElem?_set_ne hj]; exact q1, by rw [List.getElem?_set_ne hj]; exact q2⟩
theorem putAll_own {own : List Nat} : ∀ {is : List Nat} {ds : List D} {vs : List V} {ρ ρ' : Rho} {σ : St}, is.length = vs.length → (∀ i ∈ is, i ∈ own) → (∀ i ∈ own, ∀ l es, ρ[i]? ≠ some (.oo l es)) → putAll is ds ρ = .ok ρ' →
    ∀ b, Own ρ σ b → Own ρ' ((is.zip vs).foldl (fun s p => s.set p.1 (some p.2)) σ) b := by
  intro is
  induction is with
  | nil =>
    intro ds vs ρ ρ' σ hl _ _ h b ho
    cases ds with
    | nil => cases h; exact ho
    | cons _ _ => cases h
  | cons i is ih =>
    intro ds vs ρ ρ' σ hl hi hno h b ho
    cases ds with
    | nil => cases h
    | cons d ds =>
      cases vs with
      | nil => cases hl
      | cons v vs =>
        obtain ⟨j, l, es, q1, q2⟩ := ho
        have hj : i ≠ j := fun z => hno i (hi i (List.mem_cons_self ..)) l es (z ▸ q1)
        refine ih (by simpa using hl) (fun k hk => hi k (List.mem_cons_of_mem _ hk)) (fun k hk l' es' z => ?_) h b ⟨j, l, es, by rw [List.getElem?_set_ne hj]; exact q1, by rw [List.getElem?_set_ne hj]; exact q2⟩
        by_cases hk' : i = k
        · subst hk'
          by_cases hl : i < ρ.length
          · rw [List.getElem?_set_self hl] at z
            cases z
          · rw [List.getElem?_eq_none (by rw [List.length_set]; omega)] at z
            cases z
        · rw [List.getElem?_set_ne hk'] at z
          exact hno k hk l' es' z
theorem putCT {own : List Nat} (is : List Nat) (n : Nat) (hn : is.length = n) (ho : ∀ i ∈ is, i ∈ own) : PutC K mg E (gTup K n (gNames is)) (putT is) own := fun B ρ ρ' σ H d v Q S hno r h k => by
  unfold putT at h
  split at h
  · rename_i ds
    cases r with
    | tup hv r =>
      obtain ⟨e1, e2⟩ := putAll_ok S r h
      refine ⟨_, _, rfl, same_tup S.sub hv, by rw [← e1]; exact hn, gNames_run e1 (k _ (wipe_sets wipe_wipe fun p hp => ho _ (List.of_mem_zip hp).1) e2 (putAll_own e1 ho hno h))⟩
  · cases h
theorem wipeR_no {ρ : Rho} : ∀ {vs : List Nat} {i : Nat} {l : OwK} {ds : List D}, i ∈ vs → (wipeR ρ vs)[i]? ≠ some (.oo l ds)
  | v :: vs, i, l, ds, h, z => by
    unfold wipeR at z
    by_cases hv : v = i
    · subst hv
      by_cases hl : v < (wipeR ρ vs).length
      · rw [List.getElem?_set_self hl] at z
        cases z
      · rw [List.getElem?_eq_none (by rw [List.length_set]; omega)] at z
        cases z
    · rw [List.getElem?_set_ne hv] at z
      rcases List.mem_cons.mp h with e | h
      · exact hv e.symm
      · exact wipeR_no h z
theorem wipeR_keep {ρ : Rho} : ∀ {vs : List Nat} {i : Nat}, i ∉ vs → (wipeR ρ vs)[i]? = ρ[i]?
  | [], i, _ => rfl
  | v :: vs, i, h => by
    rw [List.mem_cons, not_or] at h
    unfold wipeR
    rw [List.getElem?_set_ne (fun z => h.1 z.symm), wipeR_keep h.2]
theorem own_wipe {ρ : Rho} {σ : St} {vs : List Nat} {b : Addr} (hno : noOw vs ρ = true) (h : Own ρ σ b) : Own (wipeR ρ vs) (wipe σ vs) b := by
  obtain ⟨i, l, ds, h1, h2⟩ := h
  have hi : i ∉ vs := fun z => by
    have := List.all_eq_true.mp hno i z
    rw [h1] at this
    cases this
  refine ⟨i, l, ds, by rw [wipeR_keep hi]; exact h1, ?_⟩
  rw [wipe_get, if_neg hi]
  exact h2
theorem wipeR_own {ρ : Rho} {σ : St} {vs : List Nat} {b : Addr} (h : Own (wipeR ρ vs) (wipe σ vs) b) : Own ρ σ b := by
  induction vs with
  | nil => exact h
  | cons v vs ih =>
    obtain ⟨i, l, ds, h1, h2⟩ := h
    refine ih ⟨i, l, ds, ?_, ?_⟩
    · by_cases hv : v = i
      · subst hv
        unfold wipeR at h1
        by_cases hl : v < (wipeR ρ vs).length
        · rw [List.getElem?_set_self hl] at h1
          cases h1
        · rw [List.getElem?_eq_none (by rw [List.length_set]; omega)] at h1
          cases h1
      · unfold wipeR at h1
        rw [List.getElem?_set_ne hv] at h1
        exact h1
    · by_cases hv : v = i
      · subst hv
        unfold wipe at h2
        by_cases hl : v < (wipe σ vs).length
        · rw [List.getElem?_set_self hl] at h2
          cases h2
        · rw [List.getElem?_eq_none (by rw [List.length_set]; omega)] at h2
          cases h2
      · unfold wipe at h2
        rw [List.getElem?_set_ne hv] at h2
        exact h2
theorem lc_read {wm : WM} {g : TG} {put : Dm.D → Rho → Res Rho} {own : List Nat} {mt : TM} {me : EM} {Q : VK} (hput : PutC K mg E g put own) (h : tE K mg E W (mComp put own wm mt me) σ H Q) :
    tLc (tI K mg E W wm) g (tT K mg E W0 mt) (tE K mg E W0 me) own σ H Q := by
  obtain ⟨B, ρ, S, h⟩ := h
  refine ⟨B, ρ, S, ?_⟩
  have h := h.gg
  unfold mComp at h
  cases e : wm ρ with
  | ex C => rw [e] at h; exact h
  | bad => rw [e] at h; exact h
  | ok p =>
    obtain ⟨ds, o⟩ := p
    rw [e, Res.bind_ok] at h
    have hno : noOw own ρ = true := by
      cases en : noOw own ρ with
      | true => rfl
      | false =>
        rw [en] at h
        exact h.elim
    rw [hno] at h
    intro J H1 e1 S1 wk D hD
    have h2 : ∃ ys, comp put mt me (wipeR ρ own) ds = .ok ys ∧ ds.length < lim ∧ ∀ v H', Same H H' → RT K mg B ρ σ H H' (.seq .lst ys) .fr v → Q v H' := by
      cases ec : comp put mt me (wipeR ρ own) ds with
      | ok ys =>
        rw [ec] at h
        have h3 : GG mg W σ H (PV K mg B ρ σ H Q) (if ds.length < lim then .ok (.seq .lst ys, .fr) else .bad) := h
        split at h3
        · rename_i hl
          exact ⟨ys, rfl, hl, h3⟩
        · exact h3.elim
      | ex C =>
        exfalso
        have nex : ∀ (l : List Dm.D) C, comp put mt me (wipeR ρ own) l ≠ .ex C := by
          intro l
          induction l with
          | nil => intro C z; cases z
          | cons x xs ih =>
            intro C z
            unfold comp at z
            have ne1 : ∀ {α β : Type} (r : Res α) (f : α → Res β), (noEx r).bind f = .ex C → ∃ a, r = .ok a ∧ f a = .ex C := fun {α β} r f q => by
              cases r with
              | ok a => exact ⟨a, rfl, q⟩
              | ex C' => cases q
              | bad => cases q
            obtain ⟨ρ', _, z⟩ := ne1 _ _ z
            obtain ⟨k, _, z⟩ := ne1 _ _ z
            split at z
            · obtain ⟨y, _, z⟩ := ne1 _ _ z
              split at z
              · cases ec : comp put mt me (wipeR ρ own) xs with
                | ok ys => rw [ec] at z; cases z
                | ex C' => exact ih C' ec
                | bad => rw [ec] at z; cases z
              · cases z
            · exact ih C z
        exact nex ds C ec
      | bad => rw [ec] at h; exact h.elim
    obtain ⟨ys, hys, hlen, hQ⟩ := h2
    have SD : SR K mg E (B.add D) (wipeR ρ own) (wipe σ own) (upd H1 D (.lst [])) := (S1.add hD (Same.upd hD) upd_same).wipe own
    have hHD : ∀ {H' : Hp}, Same H1 H' → H' D = H' D := fun _ => rfl
    refine ⟨fun i m H' => m = ds.length - i ∧ i ≤ ds.length ∧ Same H1 H' ∧ SR K mg E (B.add D) (wipeR ρ own) (wipe σ own) H' ∧ ∃ ys1 ys2 vs1, H' D = some (.lst vs1) ∧ vs1.length ≤ i ∧ Reps K mg (ar (B.add D) ρ σ H') ys1 vs1 ∧ comp put mt me (wipeR ρ own) (ds.drop i) = .ok ys2 ∧ ys1 ++ ys2 = ys,
      ⟨ds.length, by simp, Nat.zero_le _, Same.upd hD, SD, [], ys, [], upd_same, Nat.le_refl _, .nil, hys, rfl⟩, ?_⟩
    rintro i m H' ⟨rfl, hi, sH, S', ys1, ys2, vs1, hv1, hl1, r1, hc, hy⟩
    have hb : Same (hid B (frzO o ρ) σ H1) H' := hid_sub.trans sH
    by_cases hlt : i < ds.length
    · refine .inr ⟨wk.go i H' hb hlt, ?_⟩
      have hdr : ds.drop i = ds[i] :: ds.drop (i + 1) := List.drop_eq_getElem_cons hlt
      rw [hdr] at hc
      refine ⟨fun H2 => Same H1 H2 ∧ SR K mg E (B.add D) (wipeR ρ own) (wipe σ own) H2 ∧ ∃ ys1 ys2 vs1, H2 D = some (.lst vs1) ∧ vs1.length ≤ i + 1 ∧ Reps K mg (ar (B.add D) ρ σ H2) ys1 vs1 ∧ comp put mt me (wipeR ρ own) (ds.drop (i + 1)) = .ok ys2 ∧ ys1 ++ ys2 = ys,
        fun H2 n => ⟨ds.length - (i + 1), by omega, rfl, hlt, n⟩, fun x H2 y => ?_⟩
      obtain ⟨s2, d, ed, rd⟩ := wk.yld i H' x H2 hb hlt y
      rw [List.getElem?_eq_getElem hlt] at ed
      cases ed
      have S2 := S'.mono s2
      have hneD : ∀ {u : HO}, ar B ρ σ H1 D ≠ some u := fun {u} z => by
        have := S1.sub _ _ z
        rw [hD] at this
        cases this
      have rd' : Rep K mg (ar (B.add D) (wipeR ρ own) (wipe σ own) H2) ds[i] x := rd.mono fun b ob q => by
        by_cases hn : H' b = none
        · have hb' : H2 b = some ob := by simpa [hn] using q
          have hx : ¬ ((B.add D).X b ∨ Own (wipeR ρ own) (wipe σ own) b) := fun z => by
            rcases z with z | z
            · obtain ⟨u, q⟩ := S'.xt b z
              rw [hn] at q; cases q
            · obtain ⟨u, q⟩ := S'.there z
              rw [hn] at q; cases q
          rw [ar_none hx (S'.newB hn)]
          exact hb'
        · have hb' : ar B ρ σ H1 b = some ob := by simpa [hn] using q
          have hbD : b ≠ D := fun z => by subst z; exact hneD hb'
          have h4 : ar (B.add D) ρ σ H1 b = some ob := by rw [← ar_add_ne hbD]; exact hb'
          exact ar_own (fun _ z => wipeR_own z) _ _ (ar_mono (sH.trans s2) _ _ h4)
      unfold comp at hc
      cases ep : put ds[i] (wipeR ρ own) with
      | ex C => rw [ep] at hc; cases hc
      | bad => rw [ep] at hc; cases hc
      | ok ρ2 =>
        rw [ep] at hc
        replace hc : (noEx (mt ρ2)).bind (fun k => if k then (noEx (me ρ2)).bind fun y => if y.2.free || y.1.sc then (comp put mt me (wipeR ρ own) (ds.drop (i + 1))).bind fun ys => .ok (y.1 :: ys) else .bad else comp put mt me (wipeR ρ own) (ds.drop (i + 1))) = .ok ys2 := hc
        refine hput (B.add D) (wipeR ρ own) ρ2 σ H2 ds[i] x _ S2 (fun k hk _ es => wipeR_no hk) rd' ep fun σ3 ew S3 hown => ⟨ew, ?_⟩
        cases et : mt ρ2 with
        | ex C => rw [et] at hc; cases hc
        | bad => rw [et] at hc; cases hc
        | ok k =>
          rw [et] at hc
          refine ⟨B.add D, ρ2, S3, ?_⟩
          rw [et]
          intro H3 s3
          have S3' : SR K mg E (B.add D) (wipeR ρ own) (wipe σ own) H3 := S2.mono s3
          have hv3 : H3 D = some (.lst vs1) := s3 _ _ (s2 _ _ hv1)
          have r3 : Reps K mg (ar (B.add D) ρ σ H3) ys1 vs1 := r1.mono (ar_mono (s2.trans s3))
          cases k with
          | false =>
            refine iteF ⟨(sH.trans s2).trans s3, S3', ys1, ys2, vs1, hv3, Nat.le_succ_of_le hl1, r3, hc, hy⟩
          | true =>
            replace hc : (noEx (me ρ2)).bind (fun y => if y.2.free || y.1.sc then (comp put mt me (wipeR ρ own) (ds.drop (i + 1))).bind fun ys => .ok (y.1 :: ys) else .bad) = .ok ys2 := hc
            refine iteT ?_
            cases ee : me ρ2 with
            | ex C => rw [ee] at hc; cases hc
            | bad => rw [ee] at hc; cases hc
            | ok y =>
              obtain ⟨dy, ty⟩ := y
              rw [ee] at hc
              replace hc : (if ty.free || dy.sc then (comp put mt me (wipeR ρ own) (ds.drop (i + 1))).bind fun ys => .ok (dy :: ys) else .bad) = Res.ok ys2 := hc
              split at hc
              · rename_i hk
                cases ec : comp put mt me (wipeR ρ own) (ds.drop (i + 1)) with
                | ex C => rw [ec] at hc; cases hc
                | bad => rw [ec] at hc; cases hc
                | ok ys3 =>
                  rw [ec] at hc
                  cases hc
                  refine ⟨B.add D, ρ2, S3.mono s3, ?_⟩
                  rw [ee]
                  intro v H4 s4 rt
                  have hv4 : H4 D = some (.lst vs1) := s4 _ _ hv3
                  refine ⟨vs1, hv4, by rw [lim_eq]; omega, ?_⟩
                  have S4 : SR K mg E (B.add D) (wipeR ρ own) (wipe σ own) H4 := S3'.mono s4
                  have S5 : SR K mg E (B.add D) (wipeR ρ own) (wipe σ own) (upd H4 D (.lst (vs1 ++ [v]))) := S4.updX (.inl rfl)
                  have sD : Same H1 (upd H4 D (.lst (vs1 ++ [v]))) := fun b o q => by
                    have : b ≠ D := ne_of_none q hD
                    rw [upd_ne this]
                    exact s4 _ _ (s3 _ _ (s2 _ _ (sH _ _ q)))
                  have are : ar (B.add D) ρ σ (upd H4 D (.lst (vs1 ++ [v]))) = ar (B.add D) ρ σ H4 := ar_upd (.inl (.inl rfl))
                  refine ⟨sD, S5, ys1 ++ [dy], ys3, vs1 ++ [v], upd_same, by rw [List.length_append]; simp; omega, ?_, rfl, by rw [← hy]; simp⟩
                  rw [are]
                  refine (r3.mono (ar_mono s4)).app (.cons ?_ .nil)
                  have q := rt.keep (S3.mono s3) s4 (by simpa using hk)
                  exact q.mono (ar_own fun b ho => hown b (own_wipe hno ho))
              · cases hc
    · have hi' : i = ds.length := by omega
      subst hi'
      refine .inl ⟨wk.stop _ H' hb (Nat.le_refl _), ?_⟩
      rw [List.drop_length] at hc
      cases hc
      rw [List.append_nil] at hy
      subst hy
      refine hQ (.ref D) H' (e1.trans sH) ⟨D, _, .lst, ys1, vs1, rfl, rfl, ?_, hv1, rfl, r1⟩
      exact e1.free hD
end
end Dm
namespace Dm
open PySem PySem.Spec L2 TL
section
variable {X : Cx} {E : ExE} {W : WX} {elt tg iter c : Expr} {ifs : List Expr} {scope : Scope} {own : List (Str × Nat)} {pos : Pos} {g : TG} {put : D → Rho → Res Rho} {wm : WM} {mt : TM} {me : EM}
theorem PTs.imp {X : Cx} {ifs : List Expr} {t t' : TT} (h : PTs X ifs t) (k : ∀ σ H Q, t' σ H Q → t σ H Q) : PTs X ifs t' := ⟨fun pins s σ H Q I h' => h.run pins s σ H Q I (k σ H Q h')⟩
theorem ptsm_nil : PTs X [] (tT X.K X.mg E W tmYes) := PTs.imp pts_nil fun σ H Q ⟨B, ρ, S, h⟩ => h H (Same.refl H)
theorem ptsm_one (h : PMT X E W c mt) : PTs X [c] (tT X.K X.mg E W mt) := pts_one h
theorem pm_lc (hc : X.calm = true) (hN : X.N.Nodup) (hi : PMI X E W tg iter wm) (ok : BlkOk X.N X.env.scope scope own) (hput : PutC X.K X.mg E g put (own.map (·.2)))
    (hg : ∀ (s : Shared) (H : Hp) (C : Addr) (cl : List (Str × Addr)) (fp : List Addr), PG (X.blk s H scope (compEnvC scope cl C X.env) fp) tg g)
    (ht : ∀ (s : Shared) (H : Hp) (C : Addr) (cl : List (Str × Addr)) (fp : List Addr), PTs (X.blk s H scope (compEnvC scope cl C X.env) fp) ifs (tT X.K X.mg E W0 mt))
    (he : ∀ (s : Shared) (H : Hp) (C : Addr) (cl : List (Str × Addr)) (fp : List Addr), PE (X.blk s H scope (compEnvC scope cl C X.env) fp) elt (tE X.K X.mg E W0 me))
    (hs : ∀ x, foldedSetIterable iter X.env x = pure x := by intro _; rfl) :
    PM X E W (.ListComp elt [⟨tg, iter, ifs, 0⟩] scope pos) (mComp put (own.map (·.2)) wm mt me) :=
  PE.imp (pe_lc hc hN hi ok hg ht he hs) fun σ H Q h => lc_read hput h
theorem psm_setLc (i : Nat) {y : Str} {py spos : Pos} (hc : X.calm = true) (hN : X.N.Nodup) (hsw : swapsWith (.ListComp elt [⟨tg, iter, ifs, 0⟩] scope pos) (some (.Name y py)) spos.line X.env = pure true) (hi : PMI X E W tg iter wm) (ok : BlkOk X.N X.env.scope scope own) (hput : PutC X.K X.mg E g put (own.map (·.2)))
    (hg : ∀ (s : Shared) (H : Hp) (C : Addr) (cl : List (Str × Addr)) (fp : List Addr), PG (X.blk s H scope (compEnvC scope cl C X.env) fp) tg g)
    (ht : ∀ (s : Shared) (H : Hp) (C : Addr) (cl : List (Str × Addr)) (fp : List Addr), PTs (X.blk s H scope (compEnvC scope cl C X.env) fp) ifs (tT X.K X.mg E W0 mt))
    (he : ∀ (s : Shared) (H : Hp) (C : Addr) (cl : List (Str × Addr)) (fp : List Addr), PE (X.blk s H scope (compEnvC scope cl C X.env) fp) elt (tE X.K X.mg E W0 me))
    (hy : X.N[i]? = some y := by rfl) (hyl : X.env.scope.names.lookup y = some .local := by rfl) (hs : ∀ x, foldedSetIterable iter X.env x = pure x := by intro _; rfl) :
    PSM X E W (.Assign [.Name y py] (.ListComp elt [⟨tg, iter, ifs, 0⟩] scope pos) spos) (smSet i (mComp put (own.map (·.2)) wm mt me)) :=
  PS.imp (ps_setLc hc hN hy hyl hsw hi ok hg ht he hs) fun D σ H ⟨B, ρ, S, h⟩ => by
    refine lc_read hput (GS.bindE S h fun x tx vx H1 rx e1 S1 h1 => ?_)
    show D.nx (σ.set i (some vx)) H1
    cases e : putV i (x, tx) ρ with
    | ok ρ' =>
      rw [e] at h1
      exact h1 _ H1 (putV_ok S e1 rx e)
    | ex C => rw [e] at h1; exact h1.elim
    | bad => rw [e] at h1; exact h1.elim
end
end Dm
end

section
set_option Elab.async false
set_option linter.all false
set_option maxRecDepth 100000
set_option maxHeartbeats 4000000
/-! Dm: a def as a fact; the last words. -/
namespace Dm
open PySem PySem.Spec L2 TL

/-- what a def's exceptions are: any (false); such without a context (true) -/
def CXm (m : Bool) (P : Program) (w : World) : CXT := match m with
  | true => L2N.CX P w
  | false => L2.CX P w
def Tks (m : Bool) (X : Cx) (W : WX) : Prop := match m with
  | true => L2N.Takes X W
  | false => L2.Takes X W
theorem Tks.pass {m : Bool} {X : Cx} {W : WX} (tk : Tks m X W) : ∀ σ, PassesAt (CXm m X.prog X.w) X σ (WE W σ) := by
  cases m
  · exact fun σ => L2.passAt tk σ
  · exact fun σ => L2N.passAt tk σ
theorem tks0 {m : Bool} {X : Cx} : Tks m X (fun _ _ _ _ => False) := by
  cases m
  · exact L2.takes0
  · exact fun _ _ x => by
      obtain ⟨_, _, _, _, _, _, _, _, _, _, _, _, _, _, _, _, z⟩ := x
      exact z.elim
theorem takes_m {m : Bool} {X : Cx} {E : XK} (hs : X.stack = X.env :: X.outer) (hf : X.env.frame = some X.env.locals) (hex : X.ex = []) {E₁ : Value → Shared → Prop}
    (hx : X.xe = fun e s' => wpAny (model X.prog X.w) X.A (leaving X.env e) (fun _ s'' => CXm m X.prog X.w X.outer X.H_0 X.s_0 E e s'') E₁ s') : Tks m X (fun cls d _ H => E cls d H) := by
  cases m
  · exact L2.takes_of hs hf hex hx
  · exact L2N.takes_of hs hf hex hx
/-- a def stands behind the module's name x and does what its mirror does -/
structure DefOk (P : Program) (w : World) (K : PySem.W.Frag) (mg : Str → Option Value) (base : Heap) (b : Bool) (x : Str) (k : Nat) (n : Nat) (m : FM) : Prop where
  ex : ∃ (f : Addr) (fd : FuncData) (ps : List Str), mg x = some (.ref f) ∧ PySem.W.keepIn K (.ref f) = true ∧ Binds K fd ps [] ∧ FnOk P w K mg base (CXm b P w) k f fd ps (spM K mg n m)
/-- an exception class of the program, without an own __init__, over ValueError -/
structure ExcOk (K : PySem.W.Frag) (mg : Str → Option Value) (C : String) : Prop where
  ex : ∃ c : Addr, mg (C : Str) = some (.ref c) ∧ PySem.W.excIn K c [.type "ValueError", .type "Exception", .type "BaseException", .type "object"] "ValueError.__new__" = true ∧ PySem.W.keepIn K (.ref c) = true ∧
    PySem.W.subIn K (.ref c) (.type "BaseException") = some true ∧ PySem.W.typeIn K (.ref c) = some (.type "type")
section
variable {X : Cx} {E : ExE} {W : WX} {pos p : Pos} {a b c e : Expr} {ma mb mc : EM} {es : List Expr} {am : AM} {ta : TM}
theorem pm_def {m : Bool} {k k' n : Nat} {g : FM} {x : Str} (G : DefOk X.prog X.w X.K X.mg X.base m x k n g) (tk : Tks m X W) (hr : Room k' X.A) (ha : PMA X E W (e :: es) am) (hn : AMn am n) (hk : k ≤ k' := by decide) (hg : Gl X x := by rfl) (hdb : (x == ("__debug__" : Str)) = false := by decide)
    (he : starEach (e :: es) X.env = (false, eval e X.env) :: starEach es X.env := by rfl) (hpl : (backTo pos (starEach es X.env)).any (·.1) = false := by rfl) :
    PM X E W (.Call (.Name x p) (e :: es) [] pos) (mCall g am) := by
  obtain ⟨f, fd, ps, hm, hkp, hb, F⟩ := G.ex
  exact pm_call F tk.pass (hr.mono hk) hm hkp hb ha hn hg hdb he hpl
theorem psm_raiseC {mo : Bool} {C : String} {m : Str} {j : Nat} {p2 pos2 : Pos} (T : ExcOk X.K X.mg C) (hc : X.calm = true) (tk : Tks mo X W) (hg : Gl X (C : Str) := by rfl) (hdb : ((C : Str) == ("__debug__" : Str)) = false := by decide) :
    PSM X E W (.Raise (some (.Call (.Name (C : Str) p) [.Constant (.str m) j p2] [] pos2)) none pos) (smRaise C) := by
  obtain ⟨c, gC, xC, kC, bC, tC⟩ := T.ex
  have e : clsV X.mg C = .ref c := by
    unfold clsV
    rw [gC]
    rfl
  cases mo
  · refine psm_raise hc tk ?_
    rw [e]
    exact pmk_own PySem.F.excBase_ValueError xC gC kC (raises_own bC tC) hg hdb
  · refine PS.imp (L2N.ps_raise (t := fun _ H Q => Q (clsV X.mg C) none H) hc tk ?_) fun D σ H ⟨B, ρ, S, h⟩ => h σ H S
    rw [e]
    exact L2N.pmk_own PySem.F.excBase_ValueError xC gC kC (raises_own bC tC) hg hdb
theorem mTB_gm {K : PySem.W.Frag} {mg : Str → Option Value} {B : Bs} {ρ : Rho} {σ : St} {H : Hp} {m : EM} {Q : Bool → Hp → Prop} (h : GG mg W σ H (fun b => ∀ H', Same H H' → Q b H') (mTB m ρ)) : GM K mg W B ρ σ H (m ρ) (fun v H' => ∃ k, v = .bl k ∧ Q k H') := by
  unfold mTB at h
  cases e : m ρ with
  | ok x =>
    rw [e] at h
    intro v H' s r
    obtain ⟨d, t⟩ := x
    replace h : GG mg W σ H (fun b => ∀ H', Same H H' → Q b H') d.isB := h
    cases d <;> first | exact h.elim | skip
    case bl k =>
      cases t with
      | cl => cases r; exact ⟨k, rfl, h H' s⟩
      | own i => obtain ⟨l, _, _, z, _⟩ := r; cases l <;> cases z
      | fr => obtain ⟨_, _, l, _, _, z, _⟩ := r; cases l <;> cases z
  | ex C => rw [e] at h; exact h
  | bad => rw [e] at h; exact h
theorem pmt_cmp {op : CmpOp} {r : R2} {f : D → D → Res Bool} (ho : OpR X (compareOp op) r) (hf : CmpM X E W r f) (hm : Mild f) (ha : PM X E W a ma) (hb : PM X E W b mb) (hb' : behindInMarks op b = false) :
    PMT X E W (.Compare a [op] [b] pos) (mTB (mCmp f ma mb)) :=
  PT.imp (pt_cmpR ho ha hb hb') fun σ H Q ⟨B, ρ, S, h⟩ => by
    refine GM.bind S (mTB_gm (K := X.K) (B := B) h) fun x tx vx H1 rx e1 S1 h1 => GM.bind S1 h1 fun y ty vy H2 ry e2 S2 h2 => ?_
    refine hf B ρ σ H2 x y vx vy _ S2 ((rx.rp S1).mono e2) (ry.rp S2) (fun k e => ?_) (mild_ok hm h2)
    rw [e] at h2
    exact GM.sc (d := .bl k) h2 (.bl k)
theorem pmt_chain {op op' : CmpOp} {r r' : R2} {f f' : D → D → Res Bool} (ho : OpR X (compareOp op) r) (ho' : OpR X (compareOp op') r') (hf : CmpM X E W r f) (hf' : CmpM X E W r' f') (hm : Mild f) (hm' : Mild f')
    (ha : PM X E W a ma) (hb : PM X E W b mb) (hc : PM X E W c mc) (hl : lastMarks [op, op'] [b, c] = false := by with_unfolding_all rfl) :
    PMT X E W (.Compare a [op, op'] [b, c] pos) (mTB (mChain f f' ma mb mc)) :=
  PT.imp (pt_chain ho ho' ha hb hc hl) fun σ H Q ⟨B, ρ, S, h⟩ => by
    refine GM.bind S (mTB_gm (K := X.K) (B := B) h) fun x tx vx H1 rx e1 S1 h1 => GM.bind S1 h1 fun y ty vy H2 ry e2 S2 h2 => ?_
    refine hf B ρ σ H2 x y vx vy _ S2 ((rx.rp S1).mono e2) (ry.rp S2) (fun k e => ⟨k, rfl, ?_⟩) (mild_ok hm h2)
    rw [e] at h2
    cases k with
    | false => exact GM.sc (d := .bl false) h2 (.bl false)
    | true =>
      refine GM.bind S2 h2 fun z tz vz H3 rz e3 S3 h3 => ?_
      refine hf' B ρ σ H3 y z vy vz _ S3 ((ry.rp S2).mono e3) (rz.rp S3) (fun l e => ?_) (mild_ok hm' h3)
      rw [e] at h3
      exact GM.sc (d := .bl l) h3 (.bl l)
theorem pmt_lt (ha : PM X E W a ma) (hb : PM X E W b mb) : PMT X E W (.Compare a [.Lt] [b] pos) (mTB (mCmp cLt ma mb)) := pmt_cmp (OpR.or op_lt op_lt_str) cm_lt mild_lt ha hb (nomark _)
theorem pmt_le (ha : PM X E W a ma) (hb : PM X E W b mb) : PMT X E W (.Compare a [.LtE] [b] pos) (mTB (mCmp cLe ma mb)) := pmt_cmp (OpR.or op_le op_le_str) cm_le mild_le ha hb (nomark _)
theorem pmt_gt (ha : PM X E W a ma) (hb : PM X E W b mb) : PMT X E W (.Compare a [.Gt] [b] pos) (mTB (mCmp cGt ma mb)) := pmt_cmp (OpR.or op_gt op_gt_str) cm_gt mild_gt ha hb (nomark _)
theorem pmt_ge (ha : PM X E W a ma) (hb : PM X E W b mb) : PMT X E W (.Compare a [.GtE] [b] pos) (mTB (mCmp cGe ma mb)) := pmt_cmp (OpR.or op_ge op_ge_str) cm_ge mild_ge ha hb (nomark _)
theorem pmt_eq (hu : X.A.units + 64 < cLine) (ha : PM X E W a ma) (hb : PM X E W b mb) : PMT X E W (.Compare a [.Eq] [b] pos) (mTB (mCmp cEq ma mb)) := pmt_cmp (OpR.or op_eq (op_eqD hu)) cm_eq mild_eq ha hb (nomark _)
theorem pmt_ne (hu : X.A.units + 64 < cLine) (ha : PM X E W a ma) (hb : PM X E W b mb) : PMT X E W (.Compare a [.NotEq] [b] pos) (mTB (mCmp cNe ma mb)) := pmt_cmp (OpR.or op_ne (op_neD hu)) cm_ne mild_ne ha hb (nomark _)
theorem pmt_isN (ha : PM X E W a ma) (hb : PM X E W b mb) : PMT X E W (.Compare a [.Is] [b] pos) (mTB (mCmp cIsN ma mb)) := pmt_cmp op_isN cm_isN mild_isN ha hb (nomark _)
theorem pmt_notN (ha : PM X E W a ma) (hb : PM X E W b mb) : PMT X E W (.Compare a [.IsNot] [b] pos) (mTB (mCmp cNotN ma mb)) := pmt_cmp op_notN cm_notN mild_notN ha hb (nomark _)
theorem pmt_in (hu : X.A.units + 65 < cLine) (ha : PM X E W a ma) (hb : PM X E W b mb) (hm : behindInMarks .In b = false := by rfl) : PMT X E W (.Compare a [.In] [b] pos) (mTB (mCmp cIn ma mb)) := pmt_cmp (OpR.or op_in_sign (OpR.or op_in_seq (op_inD hu))) cm_in mild_in ha hb hm
theorem pmt_notIn (hu : X.A.units + 65 < cLine) (ha : PM X E W a ma) (hb : PM X E W b mb) (hm : behindInMarks .NotIn b = false := by rfl) : PMT X E W (.Compare a [.NotIn] [b] pos) (mTB (mCmp cNotIn ma mb)) := pmt_cmp (OpR.or op_notIn_sign (OpR.or op_notIn_seq (op_notInD hu))) cm_notIn mild_notIn ha hb hm
/-! a walk over a list, a tuple or a text -/
def iAny (K : PySem.W.Frag) (tl : TE) : TI := fun σ H R => tl σ H fun x H1 => (∃ a, x = .ref a ∧ (∃ xs, SqL K H1 a xs) ∧ R (Itl K a) H1) ∨ (∃ a, x = .ref a ∧ (∃ xs, SqT K H1 a xs) ∧ R (Itt K a) H1) ∨ ∃ z, x = .str z ∧ R (Its z) H1
variable {tg : Expr}
theorem pi_any {l : Expr} {tl : TE} (hl : PE X l tl) : PI X tg l (iAny X.K tl) := by
  refine ⟨fun pins s σ H R I h => ?_⟩
  refine thn (hl.run pins s σ H _ I h) fun v s1 ⟨x, H1, I1, r1, q1⟩ => ?_
  rcases q1 with ⟨a, e, ⟨xs, hq⟩, q⟩ | ⟨a, e, ⟨xs, hq⟩, q⟩ | ⟨z, e, q⟩
  · subst e
    cases r1
    obtain ⟨its, rv, p, hz⟩ := I1.list hq
    refine wpAny_pyIter_list p.isList ?_
    refine ⟨s1.heap.objs.size, [s1.heap.objs.size], _, _, H1, rfl, I1.kept (t' := s1.toks) fun b o e => Heap.get?_push_of_some _ e, turn_list a _, ⟨_, Heap.get?_push_size _ rfl, rfl, rfl⟩, fun b hb => ?_, q⟩
    have e : b = s1.heap.objs.size := by simpa using hb
    subst e
    exact I1.fpOk (Nat.le_refl _) (I1.hok.fresh (Nat.le_refl _))
  · subst e
    cases r1
    obtain ⟨its, rv, p, hz⟩ := I1.tuple hq
    refine wpAny_pyIter_tuple (show s1.heap.IsTuple a its.toArray from p) ?_
    refine ⟨s1.heap.objs.size, [s1.heap.objs.size], _, _, H1, rfl, I1.kept (t' := s1.toks) fun b o e => Heap.get?_push_of_some _ e, turn_tuple a _, ⟨_, Heap.get?_push_size _ rfl, rfl, rfl⟩, fun b hb => ?_, q⟩
    have e : b = s1.heap.objs.size := by simpa using hb
    subst e
    exact I1.fpOk (Nat.le_refl _) (I1.hok.fresh (Nat.le_refl _))
  · subst e
    obtain ⟨t, rfl⟩ := r1
    cases ha : z.cps.all (· < 128)
    · exact wpAny_pyIter_wide ha (pi_one (tk := s1.toks) I1 _ (turn_str _ z t "str_iterator" (.inr rfl)) ⟨_, Heap.get?_push_size _ rfl, rfl, rfl⟩ q)
    · exact wpAny_pyIter_ascii ha (pi_one (tk := s1.toks) I1 _ (turn_str _ z t "str_ascii_iterator" (.inl rfl)) ⟨_, Heap.get?_push_size _ rfl, rfl, rfl⟩ q)
theorem pmi_any (ha : PM X E W e ma) : PMI X E W tg e (wmA ma) :=
  PI.imp (pi_any ha) fun σ H R ⟨B, ρ, S, h⟩ => GG.bindE S h fun x tx vx H1 rx e1 S1 h1 => by
    have fin : ∀ (k : SK) (ds : List D) (q : Addr) (vs : List V), x = .seq k ds → k ≠ .tup → vx = .ref q → SqL X.K (hid B (frzO tx.slot ρ) σ H1) q vs → Reps X.K X.mg (ar B ρ σ H1) ds vs →
        ((∃ a, vx = .ref a ∧ (∃ xs, SqL X.K H1 a xs) ∧ R (Itl X.K a) H1) ∨ (∃ a, vx = .ref a ∧ (∃ xs, SqT X.K H1 a xs) ∧ R (Itt X.K a) H1) ∨ ∃ z, vx = .str z ∧ R (Its z) H1) := by
      intro k ds q vs ex hk ev hq r
      subst ex ev
      refine .inl ⟨q, rfl, ⟨vs, hid_sub.seq hq⟩, ?_⟩
      have h2 : ∀ J H1, Same H H1 → SR X.K X.mg E B ρ σ H1 → Wk X.K X.mg (ar B ρ σ H1) (hid B (frzO tx.slot ρ) σ H1) J ds → R J H1 := by
        cases k <;> first | exact h1 | exact absurd rfl hk
      exact h2 _ H1 e1 S1 (wk_list hq r fun H' s => (ar_hid S1 fun _ z => own_frzO z).trans s)
    cases tx with
    | cl =>
      have rr : Rep X.K X.mg (ar B ρ σ H1) x vx := rx
      cases rr <;> first | exact False.elim h1 | skip
      case lst q ds vs hv r => exact fin .lst ds q vs rfl (by simp) rfl (.of (ar_hid S1 (fun _ z => own_frzO z) _ _ hv)) r
      case rol q ds vs hv r => exact fin .rol ds q vs rfl (by simp) rfl ((ar_hid S1 fun _ z => own_frzO z).seq hv) r
      case tup q ds vs hv r => exact .inr (.inl ⟨q, rfl, ⟨vs, same_tup S1.sub hv⟩, h1 _ H1 e1 S1 (wk_tup (same_tup (ar_hid S1 fun _ z => z) hv) r fun H' s => (ar_hid S1 fun _ z => z).trans s)⟩)
      case str s => exact .inr (.inr ⟨_, rfl, h1 _ H1 e1 S1 (wk_str s)⟩)
    | own i =>
      obtain ⟨l, ds, q1, rfl, q3⟩ := rx
      cases l <;> first | exact h1.elim | skip
      obtain ⟨q, vs, e2, e3, e4⟩ := S1.owl i ds q1
      rw [q3] at e2
      cases e2
      refine fin .lst ds q vs rfl (by simp) rfl (.of ?_) e4
      have S2 := S1.frz i
      have hf : (Dm.frz i ρ)[i]? = some (.fz (.seq .lst ds)) := by
        unfold Dm.frz
        rw [q1]
        exact List.getElem?_set_self (List.getElem?_eq_some_iff.mp q1).1
      obtain ⟨v, h3, h4⟩ := S2.fz i _ hf
      rw [q3] at h3
      cases h3
      cases h4 with
      | lst hv r' =>
        have := S2.sub _ _ hv
        rw [e3] at this
        cases this
        exact ar_hid S2 (fun _ z => z) _ _ hv
    | fr =>
      obtain ⟨q, o, l, ds, vs, rfl, rfl, q3, q4, hk, q5⟩ := rx
      cases l <;> first | exact h1.elim | skip
      cases hk
      refine fin .lst ds q vs rfl (by simp) rfl (.of ?_) (q5.mono ar_add)
      have hx : ¬ (B.X q ∨ Own ρ σ q) := fun z => by
        rcases z with z | z
        · obtain ⟨o, e⟩ := S.xt q z
          rw [q3] at e; cases e
        · obtain ⟨vs, e⟩ := S.there z
          rw [q3] at e; cases e
      show hid B ρ σ H1 q = _
      unfold hid
      rw [if_neg hx]
      exact q4
end

/-! ### the law -/
theorem ints_rep {K : PySem.W.Frag} {mg : Str → Option Value} {G : Hp} : ∀ ns : List Int, Reps K mg G (ns.map .int) (ns.map .int)
  | [] => .nil
  | n :: ns => .cons (.int n) (ints_rep ns)
/-- what the law's call promises -/
theorem law_sp {K : PySem.W.Frag} {mg : Str → Option Value} {m : FM} {H : Hp} {a : Addr} {ns : List Int} (h : m [.seq .rol (ns.map .int)] = .ok (.bl true, false)) (hS : SqL K H a (ns.map V.int)) :
    spM K mg 1 m [.ref a] H (fun v _ => v = .bl true) fun _ _ _ => False := by
  refine ⟨rfl, H, [.seq .rol (ns.map .int)], Same.refl H, .cons (.rol hS (ints_rep ns)) .nil, ?_⟩
  rw [h]
  intro v H' s r
  have r' : Rep K mg _ (.bl true) v := r
  cases r'
  rfl
theorem law_cx {P : Program} {w : World} {H : Hp} {s : Shared} {e : Value} {s' : Shared} (h : L2.CX P w [] H s (fun _ _ _ => False) e s') : False := by
  obtain ⟨_, _, _, _, _, _, _, _, _, _, _, _, z⟩ := h
  exact z
end Dm
end

section
set_option Elab.async false
set_option linter.all false
set_option maxRecDepth 100000
set_option maxHeartbeats 4000000
/-! Dm: small words for the printed text. -/
namespace Dm
open PySem PySem.Spec L2 TL
theorem hu65_of {A : Around} {k : Nat} (r : Room k A) : A.units + 65 < cLine := by have := r.un; omega
theorem is_int : ∀ t ∈ ["NoneType", "bool", "int", "str", "tuple", "list", "dict"], kitB t "int" = some (isT t "int") := by decide +kernel
theorem is_bool : ∀ t ∈ ["NoneType", "bool", "int", "str", "tuple", "list", "dict"], kitB t "bool" = some (isT t "bool") := by decide +kernel
theorem is_str : ∀ t ∈ ["NoneType", "bool", "int", "str", "tuple", "list", "dict"], kitB t "str" = some (isT t "str") := by decide +kernel
theorem is_tuple : ∀ t ∈ ["NoneType", "bool", "int", "str", "tuple", "list", "dict"], kitB t "tuple" = some (isT t "tuple") := by decide +kernel
theorem is_list : ∀ t ∈ ["NoneType", "bool", "int", "str", "tuple", "list", "dict"], kitB t "list" = some (isT t "list") := by decide +kernel
theorem is_dict : ∀ t ∈ ["NoneType", "bool", "int", "str", "tuple", "list", "dict"], kitB t "dict" = some (isT t "dict") := by decide +kernel
/-- a whole number, a text, of the module -/
def GInt (mg : Str → Option Value) (x : Str) (i : Int) : Prop := ∃ t, mg x = some (.int i t)
def GStr (mg : Str → Option Value) (x : Str) (s : List Nat) : Prop := ∃ t, mg x = some (.str ⟨s.toArray⟩ t)
theorem gstr_mk {mg : Str → Option Value} {x z : Str} {s : List Nat} {t : Tok} (h : mg x = some (.str z t)) (e : z = ⟨s.toArray⟩) : GStr mg x s := by
  subst e
  exact ⟨t, h⟩
section
variable {X : Cx} {E : ExE} {W : WX} {pos : Pos} {x : Str}
theorem GInt.pm {i : Int} (g : GInt X.mg x i) (hg : Gl X x) (hd : (x == ("__debug__" : Str)) = false := by decide) : PM X E W (.Name x pos) (mC (.int i)) := by
  obtain ⟨t, h⟩ := g
  exact pm_glob (v := .int i) hg h ⟨t, rfl⟩ (.int i) hd
theorem GStr.pm {s : List Nat} (g : GStr X.mg x s) (hg : Gl X x) (hd : (x == ("__debug__" : Str)) = false := by decide) : PM X E W (.Name x pos) (mC (.str s)) := by
  obtain ⟨t, h⟩ := g
  exact pm_glob (v := .str ⟨s.toArray⟩) hg h ⟨t, rfl⟩ (.str s) hd
end
/-- law's: a list of at most 63 ints is handed in, True comes out -/
def spLaw (K : PySem.W.Frag) : Sp := fun vs H Q _ => ∃ (a : Addr) (ns : List Int), vs = [.ref a] ∧ SqL K H a (ns.map V.int) ∧ ns.length ≤ 63 ∧ ∀ H', Q (.bl true) H'
theorem law_fn {P : Program} {w : World} {K : PySem.W.Frag} {mg : Str → Option Value} {base : Heap} {k : Nat} {f : Addr} {fd : FuncData} {ps : List Str} {m : FM} (F : FnOk P w K mg base (L2.CX P w) k f fd ps (spM K mg 1 m))
    (h : ∀ ns : List Int, ns.length ≤ 63 → m [.seq .rol (ns.map .int)] = .ok (.bl true, false)) : FnOk P w K mg base (L2.CX P w) k f fd ps (spLaw K) :=
  F.imp fun vs H Q E ⟨a, ns, ev, hS, hl, q⟩ => by
    subst ev
    refine ⟨rfl, H, [.seq .rol (ns.map .int)], Same.refl H, .cons (.rol hS (ints_rep ns)) .nil, ?_⟩
    rw [h ns hl]
    intro v H' s r
    have r' : Rep K mg _ (.bl true) v := r
    cases r'
    exact q H'
end Dm
end

section
set_option Elab.async false
set_option linter.all false
set_option maxRecDepth 100000
set_option maxHeartbeats 4000000
/-! Dm: try with a clause 'except C as e'. -/
namespace Dm
open PySem PySem.Spec L2 TL
section
variable {K : PySem.W.Frag} {mg : Str → Option Value} {B : Bs} {ρ : Rho} {σ : St} {H : Hp}
/-- the exception comes into slot i -/
theorem SR.come (S : SR K mg none B ρ σ H) (i : Nat) (C : String) (a : Addr) : SR K mg (some (i, C, a)) B (ρ.set i (.ex C)) (σ.set i (some (.ref a))) H := by
  have S' : SR K mg (some (i, C, a)) B ρ σ H := ⟨S.len, S.fz, S.ow, S.dj, (fun j D h => by
    obtain ⟨b, e, _⟩ := S.ex j D h
    cases e), S.gh, S.bh, S.new, S.xo, S.xt⟩
  exact S'.put i (fun _ _ e => nomatch e) (fun D e => by cases e; exact ⟨a, rfl, rfl⟩) (fun _ e => nomatch e)
/-- and goes -/
theorem SR.gone {i : Nat} {C : String} {a : Addr} (S : SR K mg (some (i, C, a)) B ρ σ H) : SR K mg none B (ρ.set i .no) (σ.set i none) H := by
  have T := S.setNo i none
  refine ⟨T.len, T.fz, T.ow, T.dj, fun j D h => ?_, T.gh, T.bh, T.new, T.xo, T.xt⟩
  obtain ⟨b, e, h2⟩ := T.ex j D h
  cases e
  exfalso
  by_cases hl : i < ρ.length
  · rw [List.getElem?_set_self hl] at h; cases h
  · rw [List.getElem?_eq_none (by simpa using hl)] at h; cases h
end
section
variable {X : Cx} {W : WX} {pos pos' np : Pos} {x n : Str} {c : Value} {body suite : List Stmt} {b₀ : Stmt} {mb mh : SM} {U cs : List String}
def tHand (K : PySem.W.Frag) (mg : Str → Option Value) (i : Nat) (U : List String) (mh : SM) : Addr → Value → Option Addr → TS := fun a cls d D σ H =>
  ∃ C, C ∈ U ∧ cls = clsV mg C ∧ d = none ∧ tS K mg (some (i, C, a)) (fun _ _ _ _ => False) mh D σ H
theorem psm_tryAs (i : Nat) (hN : X.N.Nodup) (tk : Takes X W) (hc : Names X x c) (hx : ∀ C ∈ U, PySem.W.exmOne X.K (clsV X.mg C) c = some (cs.contains C))
    (hb : ∀ (W' : WX) (pn : List (Addr × Obj)) (xe : Value → Shared → Prop), Takes (X.tr pn xe) W' → PassesOwn (model X.prog X.w) X.A X.env xe → PSsM (X.tr pn xe) none W' body mb)
    (hsu : ∀ C ∈ U, ∀ (a : Addr) (oe : Obj) (pn : List (Addr × Obj)), Zc (clsV X.mg C) none oe → (∃ vs, oe.data = .fields vs) → PSsM (X.suite a ((a, oe) :: pn)) (some (i, C, a)) (fun _ _ _ _ => False) (b₀ :: suite) mh)
    (hs : X.stack = X.env :: X.outer := by rfl) (hf : X.env.frame = some X.env.locals := by rfl) (hi : X.N[i]? = some n := by rfl) (hln : X.env.kindOf n = some .local := by rfl) :
    PSM X none W (.Try body [.ExceptHandler (some (.Name x np)) (some n) (b₀ :: suite) pos'] [] [] pos) (smTry U cs i mb mh) :=
  PS.imp (ps_try_as (i := i) (ts := tHand X.K X.mg i U mh) (tb := fun W' => tS X.K X.mg none W' mb) hs hf hN hi hln hc tk hb fun a oe cls d pn hz hv => ⟨fun pins s σ H D I h => by
      obtain ⟨C, hC, rfl, rfl, q⟩ := h
      exact (hsu C hC a oe pn hz hv).run pins s σ H D I q⟩) fun D σ H ⟨B, ρ, S, h⟩ => by
    refine ⟨B, ρ, S, ?_⟩
    unfold smTry at h
    cases e : mb ρ with
    | bad => rw [e] at h; exact h
    | ex C => rw [e] at h; exact h.elim
    | ok o =>
      rw [e, Res.bind_ok] at h
      cases o with
      | nx ρ' => exact h
      | rt d fr => exact h
      | bk ρ' => exact h
      | ct ρ' => exact h
      | ex C ρ' =>
        intro σ1 H1 S1
        replace h : GS X.K X.mg none W B D (if U.contains C then (if cs.contains C then (mh (ρ'.set i (.ex C))).bind (smEnd i) else .ok (.ex C ρ')) else .bad) := h
        by_cases hU : U.contains C = true
        · rw [if_pos hU] at h
          have hC : C ∈ U := by simpa using hU
          refine ⟨cs.contains C, hx C hC, fun hk a ha => ⟨C, hC, rfl, rfl, B, _, S1.come i C a, ?_⟩, fun hk => ?_⟩
          · rw [if_pos hk] at h
            cases e2 : mh (ρ'.set i (.ex C)) with
            | bad => rw [e2] at h; exact h
            | ex C => rw [e2] at h; exact h.elim
            | ok o =>
              rw [e2, Res.bind_ok] at h
              cases o with
              | nx ρ2 => exact fun σ2 H2 S2 => h _ _ S2.gone
              | rt d fr => exact h
              | bk ρ2 => exact fun σ2 H2 S2 => h _ _ S2.gone
              | ct ρ2 => exact fun σ2 H2 S2 => h _ _ S2.gone
              | ex C2 ρ2 => exact h.elim
          · rw [if_neg (by rw [hk]; exact Bool.false_ne_true)] at h
            exact h σ1 H1 S1
        · rw [if_neg hU] at h
          exact h.elim
end
/-! isinstance of the exception that a suite holds -/
section
variable {X : Cx}
theorem call_isET {a D : Addr} {oe : Obj} {pn : List (Addr × Obj)} (C : ExcC X.K D) (hz : Zc (.ref D) none oe) (hf : ∃ vs, oe.data = .fields vs) : CallR (X.suite a ((a, oe) :: pn)) (.builtin "isinstance")
    (fun xs H Q => ∃ (tp : Addr) (cs : List V) (us : List Value) (b : Bool), xs = [.ref a, .ref tp] ∧ H tp = some (.tup cs) ∧ Paired ClsV cs us ∧ PySem.W.kitAny X.K (.ref D) us = some b ∧ Q (.bl b) H) := by
  intro pins s σ H xs us Q I r h
  obtain ⟨tp, cs, ws, b, rfl, hT, k, e, q⟩ := h
  obtain ⟨u1, u2, rfl, r1, r2⟩ := vals2 r
  cases (show u1 = Value.ref a from r1)
  cases (show u2 = Value.ref tp from r2)
  obtain ⟨hget, _⟩ := I.pin (a, oe) (List.mem_append.mpr (.inl List.mem_cons_self))
  obtain ⟨vs, hv⟩ := hf
  have J : PySem.W.InstAt s.heap a oe D none := by
    obtain ⟨oc, od, oda, osl⟩ := oe
    obtain ⟨h1, h2⟩ := hz
    dsimp only at h1 h2 hv
    subst h1 h2 hv
    exact ⟨hget, rfl, rfl, trivial⟩
  obtain ⟨_, its, rv, o, h1, h2, n, h3⟩ := (show ObjOk X.prog X.w H s.heap tp (.tup cs) from I.hok tp _ hT)
  have e3 := ClsV.all k rv
  subst e3
  obtain ⟨oc, od, dt, sl⟩ := o
  simp only at h2 h3
  subst h2 h3
  exact PySem.W.kia_tup (PySem.W.handS_kitx_exc C.hg C.hk C.hs C.hd C.ha C.hn C.ht C.hm) I.kIn J h1 e (fun z => nomatch z) fun tk => ⟨.bl b, H, I.tok tk, rfl, q⟩
end
/-- the class C of the program is one whose instances isinstance asks rightly -/
structure ExD (K : PySem.W.Frag) (mg : Str → Option Value) (C : String) : Prop where
  ex : ∃ c : Addr, mg (C : Str) = some (.ref c) ∧ ExcC K c
/-- expressions that stand for classes -/
structure ClsP (X : Cx) (es : List Expr) (vs : List V) (us : List Value) : Prop where
  pa : PA X es (fun _ H Q => Q vs H)
  cl : Paired ClsV vs us
section
variable {X : Cx} {E : ExE} {W : WX} {e : Expr} {es : List Expr} {v : V} {u : Value} {vs : List V} {us : List Value} {pos p p1 p2 : Pos} {n : Str}
theorem clp_nil : ClsP X [] [] [] := ⟨PA.imp pa_nil fun _ _ _ h => h, .nil⟩
theorem clp_cons (he : PE X e (tC v)) (hc : ClsV v u) (hr : ClsP X es vs us) (hs : starEach (e :: es) X.env = (false, eval e X.env) :: starEach es X.env := by rfl) : ClsP X (e :: es) (v :: vs) (u :: us) :=
  ⟨PA.imp (pa_cons he hr.pa hs) fun _ _ _ h => h, .cons hc hr.cl⟩
theorem cl_own {x : Str} {c : Addr} {pos : Pos} (hm : X.mg x = some (.ref c)) (hg : Gl X x := by rfl) (hd : (x == ("__debug__" : Str)) = false := by decide) : PE X (.Name x pos) (tC (.ref c)) := pe_glob hg hm rfl hd
theorem cl_blt {x : Str} {T : String} {pos : Pos} (hm : X.mg x = none) (hv : bootBuiltins x = some (.type T)) (hg : Gl X x := by rfl) (hn : x ≠ "__name__" := by decide) (hd : (x == ("__debug__" : Str)) = false := by decide) : PE X (.Name x pos) (tC (.ty T)) := pe_bltn hg hm hv rfl hn hd
/-- isinstance(e, C), e the exception of the suite -/
theorem pm_exIs {i : Nat} {C : String} {a : Addr} {oe : Obj} {pn : List (Addr × Obj)} {tb : List (String × Bool)} {b : Bool} (F : ExD X.K X.mg C) (hz : Zc (clsV X.mg C) none oe) (hf : ∃ ws, oe.data = .fields ws)
    (he0 : PE (X.suite a ((a, oe) :: pn)) e (tC v)) (hcl : ClsV v u) (kit : PySem.W.kitOne X.K (clsV X.mg C) u = some b) (hb : tb.lookup C = some b) (hm : X.mg "isinstance" = none) (hg : Gl X "isinstance" := by rfl)
    (hN : X.N[i]? = some n := by rfl) (hv : Vis X.env.scope n := by first | exact Or.inl rfl | exact Or.inr (Or.inl rfl) | exact Or.inr (Or.inr rfl)) (hd : (n == ("__debug__" : Str)) = false := by decide) (hcd : (n == ("__classdict__" : Str)) = false := by decide)
    (he : starEach [.Name n p1, e] X.env = (false, eval (.Name n p1) X.env) :: starEach [e] X.env := by rfl) (he2 : starEach [e] X.env = (false, eval e X.env) :: starEach [] X.env := by rfl) (hpl : (backTo pos (starEach [e] X.env)).any (·.1) = false := by rfl) :
    PM (X.suite a ((a, oe) :: pn)) (some (i, C, a)) W (.Call (.Name "isinstance" p) [.Name n p1, e] [] pos) (mExIs i tb) := by
  obtain ⟨c, gC, xC⟩ := F.ex
  have ec : clsV X.mg C = .ref c := by
    unfold clsV
    rw [gC]
    rfl
  rw [ec] at hz kit
  refine PE.imp (pe_callB (X := X.suite a ((a, oe) :: pn)) (call_isE xC hz hf) hg hm (by decide +kernel) (pa_cons (pe_var hN hv hd hcd) (pa_cons he0 pa_nil he2) he) (he := he) (hpl := hpl)) fun σ H Q ⟨B, ρ, S, h⟩ => ?_
  unfold mExIs at h
  split at h
  · rename_i C' e'
    obtain ⟨a', e1, e2⟩ := S.ex i C' e'
    cases e1
    rw [hb] at h
    exact ⟨_, e2, v, u, b, rfl, fun w r => hcl.eq r, kit, GM.sc (d := .bl b) h (.bl b)⟩
  · exact h.elim
theorem pm_exIsT {i : Nat} {C : String} {a : Addr} {oe : Obj} {pn : List (Addr × Obj)} {tb : List (String × Bool)} {b : Bool} {x1 : Nat} {p3 : Pos} (F : ExD X.K X.mg C) (hz : Zc (clsV X.mg C) none oe) (hf : ∃ ws, oe.data = .fields ws)
    (hcl : ClsP (X.suite a ((a, oe) :: pn)) es vs us) (kit : PySem.W.kitAny X.K (clsV X.mg C) us = some b) (hb : tb.lookup C = some b) (hl : vs.length ≤ 1000) (hm : X.mg "isinstance" = none) (hg : Gl X "isinstance" := by rfl)
    (hN : X.N[i]? = some n := by rfl) (hv : Vis X.env.scope n := by first | exact Or.inl rfl | exact Or.inr (Or.inl rfl) | exact Or.inr (Or.inr rfl)) (hd : (n == ("__debug__" : Str)) = false := by decide) (hcd : (n == ("__classdict__" : Str)) = false := by decide)
    (he : starEach [.Name n p1, .Tuple es x1 p3] X.env = (false, eval (.Name n p1) X.env) :: starEach [.Tuple es x1 p3] X.env := by rfl) (he2 : starEach [.Tuple es x1 p3] X.env = (false, eval (.Tuple es x1 p3) X.env) :: starEach [] X.env := by rfl) (hpl : (backTo pos (starEach [.Tuple es x1 p3] X.env)).any (·.1) = false := by rfl) :
    PM (X.suite a ((a, oe) :: pn)) (some (i, C, a)) W (.Call (.Name "isinstance" p) [.Name n p1, .Tuple es x1 p3] [] pos) (mExIs i tb) := by
  obtain ⟨c, gC, xC⟩ := F.ex
  have ec : clsV X.mg C = .ref c := by
    unfold clsV
    rw [gC]
    rfl
  rw [ec] at hz kit
  refine PE.imp (pe_callB (X := X.suite a ((a, oe) :: pn)) (call_isET xC hz hf) hg hm (by decide +kernel) (pa_cons (pe_var hN hv hd hcd) (pa_cons (pe_tup hcl.pa) pa_nil he2) he) (he := he) (hpl := hpl)) fun σ H Q ⟨B, ρ, S, h⟩ => ?_
  unfold mExIs at h
  split at h
  · rename_i C' e'
    obtain ⟨a', e1, e2⟩ := S.ex i C' e'
    cases e1
    rw [hb] at h
    refine ⟨_, e2, by rw [sizeLine_eq]; omega, fun q hq => ⟨q, vs, us, b, rfl, upd_same, hcl.cl, kit, ?_⟩⟩
    have h2 : GM X.K X.mg W B ρ σ H (.ok (.bl b, .cl)) Q := h
    exact h2 (.bl b) _ (Same.upd hq) (.bl b)
  · exact h.elim
end
/-! the facts of the classes, and the rule for the printed walk -/
def ClsN (mg : Str → Option Value) (D : String) : Prop := ∃ d : Addr, mg (D : Str) = some (.ref d)
def clsW (mg : Str → Option Value) (D : String) : V := match mg (D : Str) with
  | some (.ref d) => .ref d
  | _ => .non
theorem clsV_of {mg : Str → Option Value} {D : String} {d : Addr} (h : mg (D : Str) = some (.ref d)) : clsV mg D = .ref d := by
  unfold clsV
  rw [h]
  rfl
theorem clsW_of {mg : Str → Option Value} {D : String} {d : Addr} (h : mg (D : Str) = some (.ref d)) : clsW mg D = .ref d := by
  unfold clsW
  rw [h]
theorem cl_n {X : Cx} {D : String} {pos : Pos} (h : ClsN X.mg D) (hg : Gl X (D : Str) := by rfl) (hd : ((D : Str) == ("__debug__" : Str)) = false := by decide) : PE X (.Name (D : Str) pos) (tC (clsW X.mg D)) := by
  obtain ⟨d, h⟩ := h
  rw [clsW_of h]
  exact cl_own h hg hd
theorem cv_n {mg : Str → Option Value} {D : String} (h : ClsN mg D) : ClsV (clsW mg D) (clsV mg D) := by
  obtain ⟨d, h⟩ := h
  rw [clsW_of h, clsV_of h]
  exact .own d
theorem fa_nil {P : String → Prop} : ∀ C ∈ ([] : List String), P C := fun _ h => nomatch h
theorem fa_cons {P : String → Prop} {x : String} {xs : List String} (h : P x) (t : ∀ C ∈ xs, P C) : ∀ C ∈ x :: xs, P C := fun C hC => by
  rcases List.mem_cons.mp hC with rfl | hC
  · exact h
  · exact t C hC
theorem kan_nil {K : PySem.W.Frag} {t : Value} : PySem.W.kitAny K t [] = some false := rfl
theorem kan_f {K : PySem.W.Frag} {t c : Value} {cs : List Value} {b : Bool} (h : PySem.W.kitOne K t c = some false) (r : PySem.W.kitAny K t cs = some b) : PySem.W.kitAny K t (c :: cs) = some b := by
  unfold PySem.W.kitAny
  rw [h]
  exact r
theorem kan_t {K : PySem.W.Frag} {t c : Value} {cs : List Value} (h : PySem.W.kitOne K t c = some true) : PySem.W.kitAny K t (c :: cs) = some true := by
  unfold PySem.W.kitAny
  rw [h]
theorem psm_try {X : Cx} {W : WX} {pos pos' np : Pos} {n : Str} {P : String} {body suite : List Stmt} {b₀ : Stmt} {mb mh : SM} (U cs : List String) (i : Nat) (hN : X.N.Nodup) (tk : Takes X W) (hP : ClsN X.mg P) (hx : ∀ C ∈ U, PySem.W.exmOne X.K (clsV X.mg C) (clsV X.mg P) = some (cs.contains C))
    (hb : ∀ (W' : WX) (pn : List (Addr × Obj)) (xe : Value → Shared → Prop), Takes (X.tr pn xe) W' → PassesOwn (model X.prog X.w) X.A X.env xe → PSsM (X.tr pn xe) none W' body mb)
    (hsu : ∀ C ∈ U, ∀ (a : Addr) (oe : Obj) (pn : List (Addr × Obj)), Zc (clsV X.mg C) none oe → (∃ vs, oe.data = .fields vs) → PSsM (X.suite a ((a, oe) :: pn)) (some (i, C, a)) (fun _ _ _ _ => False) (b₀ :: suite) mh)
    (hg : Gl X (P : Str) := by rfl) (hd : ((P : Str) == ("__debug__" : Str)) = false := by decide)
    (hs : X.stack = X.env :: X.outer := by rfl) (hf : X.env.frame = some X.env.locals := by rfl) (hi : X.N[i]? = some n := by rfl) (hln : X.env.kindOf n = some .local := by rfl) :
    PSM X none W (.Try body [.ExceptHandler (some (.Name (P : Str) np)) (some n) (b₀ :: suite) pos'] [] [] pos) (smTry U cs i mb mh) := by
  obtain ⟨q, h⟩ := hP
  refine psm_tryAs i hN tk (c := clsV X.mg P) ⟨hg, hd, .inl ?_⟩ hx hb hsu hs hf hi hln
  rw [clsV_of h]
  exact h
theorem kit_of {K : PySem.W.Frag} {C D : Addr} {b : Bool} (hd : PySem.W.hasDictIn K D = true) (ty : PySem.W.typeIn K (.ref D) = some (.type "type")) (su : PySem.W.subIn K (.ref C) (.ref D) = some b) (ss : PySem.W.subIn K (.ref C) (.ref C) = some true) : PySem.W.kitOne K (.ref C) (.ref D) = some b := by
  unfold PySem.W.kitOne
  by_cases h : (Value.ref C == Value.ref D) = true
  · rw [if_pos h]
    have e : C = D := by
      have := eq_of_beq h
      injection this
    subst e
    rw [ss] at su
    exact su
  · rw [if_neg h]
    obtain ⟨cd, hc, _⟩ := PySem.W.any_some hd
    have e2 : ((PySem.W.clsIn K D).isSome && PySem.W.typeIn K (.ref D) == some (.type "type")) = true := by rw [hc, ty] <;> rfl
    show (if ((PySem.W.clsIn K D).isSome && PySem.W.typeIn K (.ref D) == some (.type "type")) = true then PySem.W.subIn K (.ref C) (.ref D) else none) = some b
    rw [if_pos e2]
    exact su
theorem kit_ty_of {K : PySem.W.Frag} {C : Addr} {T : String} {b : Bool} (hm : PySem.W.kitMeta T = true) (su : PySem.W.subIn K (.ref C) (.type T) = some b) : PySem.W.kitOne K (.ref C) (.type T) = some b := by
  unfold PySem.W.kitOne
  have e : (Value.ref C == Value.type T) = false := beq_eq_false_iff_ne.mpr (fun z => nomatch z)
  rw [e]
  show (if PySem.W.kitMeta T = true then PySem.W.subIn K (.ref C) (.type T) else none) = some b
  rw [if_pos hm]
  exact su
end Dm
end

section
set_option Elab.async false
set_option linter.all false
set_option maxRecDepth 100000
set_option maxHeartbeats 4000000
/-! Dm: try with clauses that have no name; a suite that raises. -/
namespace Dm
open PySem PySem.Spec L2 TL
section
variable {X : Cx} {W : WX} {pos pos' np : Pos} {P : String} {body suite : List Stmt} {b₀ : Stmt} {mb mh : SM} {U cs : List String} {K : PySem.W.Frag} {mg : Str → Option Value} {B : Bs} {D : Ends}
/-- what flies on, or is caught: the body's word -/
theorem try_read {C2 : Out → Res Out} {W' : WX} {σ : St} {H : Hp} (hnx : ∀ ρ, C2 (.nx ρ) = .ok (.nx ρ)) (hrt : ∀ d f, C2 (.rt d f) = .ok (.rt d f)) (hbk : ∀ ρ, C2 (.bk ρ) = .ok (.bk ρ)) (hct : ∀ ρ, C2 (.ct ρ) = .ok (.ct ρ))
    (hex : ∀ (B : Bs) (C : String) (ρ' : Rho) (σ1 : St) (H1 : Hp), SR K mg none B ρ' σ1 H1 → GS K mg none W B D (C2 (.ex C ρ')) → W' (clsV mg C) none σ1 H1)
    (h : tS K mg none W (fun ρ => (mb ρ).bind C2) D σ H) : tS K mg none W' mb D σ H := by
  obtain ⟨B, ρ, S, h⟩ := h
  refine ⟨B, ρ, S, ?_⟩
  replace h : GS K mg none W B D ((mb ρ).bind C2) := h
  cases e : mb ρ with
  | bad => rw [e] at h; exact h
  | ex C => rw [e] at h; exact h.elim
  | ok o =>
    rw [e, Res.bind_ok] at h
    cases o with
    | nx ρ' => rw [hnx] at h; exact h
    | rt d fr => rw [hrt] at h; exact h
    | bk ρ' => rw [hbk] at h; exact h
    | ct ρ' => rw [hct] at h; exact h
    | ex C ρ' => exact fun σ1 H1 S1 => hex B C ρ' σ1 H1 S1 h
theorem psm_tryX {N : String} {m : Str} {j : Nat} {p p2 pos2 pos3 : Pos} {E₁ : Value → Shared → Prop} {Kx : Value → Shared → Prop} (tk : Tks false X W) (hP : ClsN X.mg P) (hx : ∀ C ∈ U, PySem.W.exmOne X.K (clsV X.mg C) (clsV X.mg P) = some (cs.contains C)) (T : ExcOk X.K X.mg N)
    (hxe : X.xe = fun e s' => wpAny (model X.prog X.w) X.A (leaving X.env e) (fun _ s'' => Kx e s'') E₁ s')
    (hb : ∀ (W' : WX) (pn : List (Addr × Obj)) (xe : Value → Shared → Prop), Tks true (X.tr pn xe) W' → PassesOwn (model X.prog X.w) X.A X.env xe → PSsM (X.tr pn xe) none W' body mb)
    (hg : Gl X (P : Str) := by rfl) (hd : ((P : Str) == ("__debug__" : Str)) = false := by decide)
    (hgN : Gl X (N : Str) := by rfl) (hdN : ((N : Str) == ("__debug__" : Str)) = false := by decide)
    (hs : X.stack = X.env :: X.outer := by rfl) (hf : X.env.frame = some X.env.locals := by rfl) :
    PSM X none W (.Try body [.ExceptHandler (some (.Name (P : Str) np)) none [.Raise (some (.Call (.Name (N : Str) p) [.Constant (.str m) j p2] [] pos2)) none pos3] pos'] [] [] pos) (smTryX U cs N mb) := by
  obtain ⟨q, hq⟩ := hP
  obtain ⟨c, gC, xC, kC, bC, tC⟩ := T.ex
  have e : clsV X.mg N = .ref c := by
    unfold clsV
    rw [gC]
    rfl
  refine PS.imp (L2H.ps_try_onlyX (c := clsV X.mg P) (ts := fun _ _ _ _ σ H => W (clsV X.mg N) none σ H) (tb := fun W' => tS X.K X.mg none W' mb) hs hf ⟨hg, hd, .inl ?_⟩ (fun hd => L2H.passesAt_of hxe hd) tk (fun W' pn xe t1 _ po => hb W' pn xe t1 po) ?_) ?_
  · rw [clsV_of hq]
    exact hq
  · intro a oe cls d pn _ _ tkS hot
    refine pss_one (PS.imp (L2H.ps_raiseH (t := fun _ H Q => Q (.ref c) none H) hot tkS (L2N.pmk_own PySem.F.excBase_ValueError xC gC kC (raises_own bC tC) hgN hdN)) ?_)
    intro D σ H h
    rw [e] at h
    exact h
  · intro D σ H h
    refine try_read (C2 := smCatchX U cs N) (fun _ => rfl) (fun _ _ => rfl) (fun _ => rfl) (fun _ => rfl) (fun B C ρ' σ1 H1 S1 g => ?_) h
    replace g : GS X.K X.mg none W B D (if U.contains C then (if cs.contains C then .ok (.ex N ρ') else .ok (.ex C ρ')) else .bad) := g
    by_cases hU : U.contains C = true
    · rw [if_pos hU] at g
      have hC : C ∈ U := by simpa using hU
      refine ⟨cs.contains C, hx C hC, fun hk a ha => ?_, fun hk => ?_⟩
      · rw [if_pos hk] at g
        exact g σ1 H1 S1
      · rw [if_neg (by rw [hk]; exact Bool.false_ne_true)] at g
        exact g σ1 H1 S1
    · rw [if_neg hU] at g
      exact g.elim
/-- clauses without a name -/
inductive HdM (X : Cx) (U : List String) : List ExceptHandler → List (List String × SM) → List (Value × (Addr → Value → Option Addr → TS)) → Prop
  | nil : HdM X U [] [] []
  | cons {P : String} {cs : List String} {b₀ : Stmt} {suite : List Stmt} {mh : SM} {np pos' : Pos} {hds : List ExceptHandler} {cl : List (List String × SM)} {l : List (Value × (Addr → Value → Option Addr → TS))} (hP : ClsN X.mg P)
      (hx : ∀ C ∈ U, PySem.W.exmOne X.K (clsV X.mg C) (clsV X.mg P) = some (cs.contains C)) (hg : Gl X (P : Str)) (hd : ((P : Str) == ("__debug__" : Str)) = false)
      (hsu : ∀ (a : Addr) (oe : Obj) (pn : List (Addr × Obj)), PSsM (X.suite a ((a, oe) :: pn)) none (fun _ _ _ _ => False) (b₀ :: suite) mh) (r : HdM X U hds cl l) :
      HdM X U (.ExceptHandler (some (.Name (P : Str) np)) none (b₀ :: suite) pos' :: hds) ((cs, mh) :: cl) ((clsV X.mg P, fun _ _ _ => tS X.K X.mg none (fun _ _ _ _ => False) mh) :: l)
theorem HdM.ok {hds : List ExceptHandler} {cl : List (List String × SM)} {l : List (Value × (Addr → Value → Option Addr → TS))} (h : HdM X U hds cl l) : HdsOk X hds l := by
  induction h with
  | nil => exact .nil
  | cons hP hx hg hd hsu r ih =>
    refine .cons ⟨hg, hd, .inl ?_⟩ (fun a oe cls d pn _ _ => hsu a oe pn) ih
    obtain ⟨q, hq⟩ := hP
    rw [clsV_of hq]
    exact hq
theorem HdM.read {hds : List ExceptHandler} {cl : List (List String × SM)} {l : List (Value × (Addr → Value → Option Addr → TS))} (h : HdM X U hds cl l) {C : String} (hC : C ∈ U) {ρ' : Rho} {σ1 : St} {H1 : Hp} (S1 : SR X.K X.mg none B ρ' σ1 H1)
    (g : GS X.K X.mg none W B D (catchM cl C ρ')) : wMany X.K W D l (clsV X.mg C) none σ1 H1 := by
  induction h with
  | nil => exact g σ1 H1 S1
  | cons hP hx hg hd hsu r ih =>
    rename_i cs _ _ mh _ _ _ cl _
    replace g : GS X.K X.mg none W B D (if cs.contains C then (mh ρ').bind noExO else catchM cl C ρ') := g
    refine ⟨cs.contains C, hx C hC, fun hk a ha => ⟨B, ρ', S1, ?_⟩, fun hk => ih ?_⟩
    · rw [if_pos hk] at g
      cases e2 : mh ρ' with
      | bad => rw [e2] at g; exact g
      | ex C => rw [e2] at g; exact g.elim
      | ok o =>
        rw [e2, Res.bind_ok] at g
        cases o with
        | ex C2 ρ2 => exact g.elim
        | _ => exact g
    · rw [if_neg (by rw [hk]; exact Bool.false_ne_true)] at g
      exact g
theorem psm_tryM {h₀ : ExceptHandler} {hds : List ExceptHandler} {cl : List (List String × SM)} {l : List (Value × (Addr → Value → Option Addr → TS))} (U : List String) (tk : Tks false X W)
    (hb : ∀ (W' : WX) (pn : List (Addr × Obj)) (xe : Value → Shared → Prop), Tks false (X.tr pn xe) W' → PassesOwn (model X.prog X.w) X.A X.env xe → PSsM (X.tr pn xe) none W' body mb)
    (hh : HdM X U (h₀ :: hds) cl l) (hs : X.stack = X.env :: X.outer := by rfl) (hf : X.env.frame = some X.env.locals := by rfl) :
    PSM X none W (.Try body (h₀ :: hds) [] [] pos) (smTryM U cl mb) := by
  refine PS.imp (ps_try_many (tb := fun W' => tS X.K X.mg none W' mb) hs hf tk hb hh.ok) ?_
  intro D σ H h
  refine try_read (C2 := smCatchM U cl) (fun _ => rfl) (fun _ _ => rfl) (fun _ => rfl) (fun _ => rfl) (fun B C ρ' σ1 H1 S1 g => ?_) h
  replace g : GS X.K X.mg none W B D (if U.contains C then catchM cl C ρ' else .bad) := g
  by_cases hU : U.contains C = true
  · rw [if_pos hU] at g
    exact hh.read (by simpa using hU) S1 g
  · rw [if_neg hU] at g
    exact g.elim
end
end Dm
end

section
set_option Elab.async false
set_option linter.all false
set_option maxRecDepth 100000
set_option maxHeartbeats 4000000
/-! Dm: the module's own dicts, which are only read. -/
namespace Dm
open PySem PySem.Spec L2 TL
/-- entries with texts as keys -/
def entsW (w : World) : List Str → List Tok → List Value → List DictEntry
  | k :: ks, t :: ts, v :: vs => ⟨PyData.keyHash w.params k, .str k t, v⟩ :: entsW w ks ts vs
  | _, _, _ => []
inductive ValsD (K : PySem.W.Frag) (mg : Str → Option Value) : List Value → List D → List V → Prop
  | nil : ValsD K mg [] [] []
  | cons {u : Value} {d : D} {v : V} {us : List Value} {ds : List D} {vs : List V} : RelV v u → Rep K mg (fun _ => none) d v → ValsD K mg us ds vs → ValsD K mg (u :: us) (d :: ds) (v :: vs)
/-- the module's dict behind the name x -/
structure GDic (P : Program) (w : World) (K : PySem.W.Frag) (mg : Str → Option Value) (x : Str) (ks : List (List Nat)) (ds : List D) : Prop where
  ex : ∃ (d : Addr) (vs : List V) (us : List (Key × Value)), mg x = some (.ref d) ∧ (d == sysModules) = false ∧ vs.length = ks.length ∧ Reps K mg (fun _ => none) ds vs ∧ KV ((ks.map fun k => (Sum.inr ⟨k.toArray⟩ : Key)).zip vs) us ∧
    ∀ h : Heap, K.In h → h.DictOf (mixKind P w) d us
theorem entsW_ok {P : Program} {w : World} : ∀ {ks : List Str} {ts : List Tok} {us : List Value}, ts.length = ks.length → us.length = ks.length →
    KeysOf (mixKind P w) (entsW w ks ts us).toArray ∧ Pairs (mixKind P w) (entsW w ks ts us) ((ks.map fun k => (Sum.inr k : Key)).zip us)
  | [], _, _, _, _ => ⟨fun e he => by simp [entsW] at he, .nil⟩
  | k :: ks, [], _, h, _ => by simp at h
  | k :: ks, _ :: _, [], _, h => by simp at h
  | k :: ks, t :: ts, u :: us, h1, h2 => by
    obtain ⟨a, b⟩ := entsW_ok (P := P) (w := w) (ks := ks) (ts := ts) (us := us) (by simpa using h1) (by simpa using h2)
    refine ⟨fun e he => ?_, .cons (mixKind_str P w k t) rfl b⟩
    have he' : e ∈ (⟨PyData.keyHash w.params k, .str k t, u⟩ : DictEntry) :: entsW w ks ts us := by simpa [entsW] using he
    rcases List.mem_cons.mp he' with rfl | he'
    · exact ⟨Sum.inr k, mixKind_str P w k t, rfl⟩
    · exact a e (by simpa using he')
theorem vals_kv {K : PySem.W.Frag} {mg : Str → Option Value} : ∀ {ks : List Key} {us : List Value} {ds : List D} {vs : List V}, us.length = ks.length → ValsD K mg us ds vs → vs.length = ks.length ∧ Reps K mg (fun _ => none) ds vs ∧ KV (ks.zip vs) (ks.zip us)
  | [], _, _, _, h, r => by
    cases r with
    | nil => exact ⟨rfl, .nil, .nil⟩
    | cons _ _ _ => simp at h
  | k :: ks, _, _, _, h, r => by
    cases r with
    | nil => simp at h
    | cons a b c =>
      obtain ⟨x, y, z⟩ := vals_kv (ks := ks) (by simpa using h) c
      exact ⟨by simp [x], .cons b y, .cons ⟨rfl, a⟩ z⟩
theorem gdic_mk {P : Program} {w : World} {K : PySem.W.Frag} {mg : Str → Option Value} {x : Str} {d : Addr} {n : Nat} {Ks : List Str} {ks : List (List Nat)} {ts : List Tok} {us : List Value} {ds : List D} {vs : List V} (hm : mg x = some (.ref d))
    (lk : K.lookup d = some { cls := .type "dict", data := .dict (entsW w Ks ts us).toArray n }) (hd : (d == sysModules) = false) (hk : Ks = ks.map fun k => ⟨k.toArray⟩) (hn : Ks.Nodup) (ht : ts.length = Ks.length) (hu : us.length = Ks.length) (r : ValsD K mg us ds vs) : GDic P w K mg x ks ds := by
  obtain ⟨a, b⟩ := entsW_ok (P := P) (w := w) ht hu
  obtain ⟨e1, e2, e3⟩ := vals_kv (ks := Ks.map fun k => (Sum.inr k : Key)) (by simpa using hu) r
  refine ⟨d, vs, _, hm, hd, by rw [e1, hk]; simp, e2, ?_, fun h hh => ⟨_, _, _, hh _ _ lk, ⟨rfl, rfl, rfl⟩, rfl, a, b, ?_⟩⟩
  · rw [show (ks.map fun k => (Sum.inr ⟨k.toArray⟩ : Key)) = Ks.map fun k => (Sum.inr k : Key) by rw [hk, List.map_map]; rfl]
    exact e3
  · have : ((Ks.map fun k => (Sum.inr k : Key)).zip us).map (·.1) = Ks.map fun k => (Sum.inr k : Key) := by
      rw [List.map_fst_zip]
      rw [List.length_map, hu]
      exact Nat.le_refl _
    rw [this]
    exact List.Pairwise.map _ (fun a b hab z => hab (by injection z)) hn
section
variable {X : Cx} {E : ExE} {W : WX} {pos p : Pos} {i : Expr} {mi : EM} {ks : List (List Nat)} {ds : List D} {x : Str} {ti : TE}
theorem pe_dixK {d : Addr} {kvs : List (Key × V)} {us : List (Key × Value)} (hu : X.A.units + 1 < cLine) (hg : Gl X x) (hm : X.mg x = some (.ref d)) (hv : KV kvs us) (kd : ∀ h : Heap, X.K.In h → h.DictOf (mixKind X.prog X.w) d us) (hi : PE X i ti) (hs : NoSl i)
    (hd : (x == ("__debug__" : Str)) = false := by decide) : PE X (.Subscript (.Name x p) i pos) (fun σ H Q => ti σ H fun y H2 => ∃ k v, y = kV k ∧ valV kvs k = some v ∧ Q v H2) := by
  refine ⟨fun pins s σ H Q I h => ?_⟩
  refine subD_of PySem.F.slot_dict_getitem.lookup hs (thn ((pe_glob (v := .ref d) (pos := p) hg hm rfl hd).run pins s σ H (fun x H1 => x = .ref d ∧ H1 = H) I ⟨rfl, rfl⟩) fun u s1 ⟨x1, H1, I1, rx, ex, eH⟩ => ?_)
  subst ex
  obtain rfl : u = Value.ref d := rx
  rw [eH] at I1
  refine thn (hi.run pins s1 σ H _ I1 h) fun iv s2 ⟨y, H2, I2, ry, k, v, ey, e, q2⟩ => ?_
  subst ey
  have dd := kd _ I2.kIn
  obtain ⟨w', hw, rw'⟩ := RelO.some_of (v := v) (o := valueAt us k) (by rw [← e]; exact hv.val k)
  exact ⟨dd.typeIs, wpAny_getItem_of (kV_is ry) dd.mapOf hw ⟨v, H2, I2.tok _, rw', q2⟩⟩
theorem keyD_eqv (k j : Key) : D.eqv (keyD k) (keyD j) = decide (k = j) := by
  cases k with
  | inl i =>
    cases j with
    | inl l =>
      have : D.eqv (keyD (.inl i)) (keyD (.inl l)) = (i == l) := rfl
      rw [this]
      by_cases h : i = l <;> simp [h]
    | inr l => rw [decide_eq_false (by simp)]; rfl
  | inr i =>
    cases j with
    | inl l => rw [decide_eq_false (by simp)]; rfl
    | inr l =>
      have : D.eqv (keyD (.inr i)) (keyD (.inr l)) = (i.cps.toList == l.cps.toList) := rfl
      rw [this]
      by_cases h : i = l
      · subst h; simp
      · rw [decide_eq_false (by simpa using h)]
        simp only [beq_eq_false_iff_ne, ne_eq]
        intro z
        apply h
        obtain ⟨i⟩ := i
        obtain ⟨l⟩ := l
        have z' : i.toList = l.toList := z
        rw [Array.toList_inj.mp z']
theorem dFind_val {K : PySem.W.Frag} {mg : Str → Option Value} {G : Hp} (j : Key) : ∀ {kk : List Key} {ds : List D} {vs : List V} {o : Option D}, vs.length = kk.length → Reps K mg G ds vs → dFind (kk.map keyD) ds (keyD j) = o →
    (∀ d, o = some d → ∃ v, valV (kk.zip vs) j = some v ∧ Rep K mg G d v) ∧ (o = none → valV (kk.zip vs) j = none)
  | [], ds, vs, o, _, r, h => by
    have h' : none = o := by rw [← h]; cases ds <;> rfl
    subst h'
    exact ⟨fun d e => (nomatch e), fun _ => rfl⟩
  | k :: kk, ds, vs, o, hl, r, h => by
    cases r with
    | nil => simp at hl
    | cons r1 r2 =>
      rename_i d1 v1 ds vs
      have h' : (if D.eqv (keyD k) (keyD j) then some d1 else dFind (kk.map keyD) ds (keyD j)) = o := h
      rw [keyD_eqv] at h'
      by_cases hk : k = j
      · subst hk
        rw [decide_eq_true rfl, if_pos rfl] at h'
        subst h'
        exact ⟨fun d e => by cases e; exact ⟨v1, valV_pos rfl, r1⟩, fun e => (nomatch e)⟩
      · rw [decide_eq_false hk, if_neg (by simp)] at h'
        have e0 : valV ((k :: kk).zip (v1 :: vs)) j = valV (kk.zip vs) j := valV_neg hk
        rw [e0]
        exact dFind_val j (by simpa using hl) r2 h'
theorem key_rep {K : PySem.W.Frag} {mg : Str → Option Value} {B : Bs} {ρ : Rho} {σ : St} {H : Hp} {y : D} {v : V} (r : RP K mg B ρ σ H y v) (h : y.key = true) : ∃ j : Key, y = keyD j ∧ v = kV j := by
  cases r <;> first | (simp [D.key] at h; done) | skip
  case int i => exact ⟨.inl i, rfl, rfl⟩
  case str s => exact ⟨.inr ⟨s.toArray⟩, by simp [keyD], rfl⟩
theorem dGet_mild {x y : D} {C : String} : dGet x y ≠ .ex C := by
  unfold dGet
  split
  · split
    · split <;> simp
    · simp
  · simp
theorem pm_dix (g : GDic X.prog X.w X.K X.mg x ks ds) (hu : X.A.units + 64 < cLine) (hi : PM X E W i mi) (hs : NoSl i := by intro _ _; rfl) (hg : Gl X x := by rfl) (hd : (x == ("__debug__" : Str)) = false := by decide) :
    PM X E W (.Subscript (.Name x p) i pos) (mDix ks ds mi) := by
  obtain ⟨d, vs, us, hm, _, hl, hr, hv, kd⟩ := g.ex
  refine PE.imp (pe_dixK (Nat.lt_of_le_of_lt (by omega) hu) hg hm hv kd hi hs hd) fun σ H Q ⟨B, ρ, S, h⟩ => GM.bind S h fun y ty vy H1 ry e1 S1 h1 => ?_
  replace h1 : GM X.K X.mg W B ρ σ H1 ((if y.key then (match dFind (ks.map .str) ds y with | some d => Res.ok d | none => .bad) else .bad).bind fun d => .ok (d, .cl)) Q := h1
  by_cases hy : y.key = true
  · rw [if_pos hy] at h1
    obtain ⟨j, rfl, rfl⟩ := key_rep (ry.rp S1) hy
    have ek : ks.map D.str = (ks.map fun k => (Sum.inr ⟨k.toArray⟩ : Key)).map keyD := by
      rw [List.map_map]
      exact List.map_congr_left fun k _ => by simp [keyD]
    rw [ek] at h1
    cases e : dFind ((ks.map fun k => (Sum.inr ⟨k.toArray⟩ : Key)).map keyD) ds (keyD j) with
    | none => rw [e] at h1; exact h1.elim
    | some r =>
      rw [e] at h1
      obtain ⟨v, q1, q2⟩ := (dFind_val j (by rw [List.length_map]; exact hl) hr e).1 r rfl
      exact ⟨j, v, rfl, q1, h1.sc q2⟩
  · rw [if_neg hy] at h1
    exact h1.elim
end
end Dm
end

section
set_option Elab.async false
set_option linter.all false
set_option maxRecDepth 100000
set_option maxHeartbeats 4000000
/-! Dm: dicts of one's own. -/
namespace Dm
open PySem PySem.Spec L2 TL
section
variable {X : Cx} {E : ExE} {W : WX} {pos p : Pos} {a b c e : Expr} {ma mb mc : EM} {es : List Expr} {am : AM}
/-- d[k] -/
theorem pm_ixd (hu : X.A.units + 64 < cLine) (ha : PM X E W a ma) (hb : PM X E W b mb) (hs : NoSl b := by intro _ _; rfl) : PM X E W (.Subscript a b pos) (mIxD ma mb) :=
  PE.imp (pe_dget (Nat.lt_of_le_of_lt (by omega) hu) ha hb hs) fun σ H Q ⟨B, ρ, S, h⟩ => GM.bind S h fun x tx vx H1 rx e1 S1 h1 => GM.bind S1 h1 fun y ty vy H2 ry e2 S2 h2 => by
    have rpx := (rx.rp S1).mono e2
    cases rpx <;> first | exact h2.elim | skip
    case dic q kk ds vs hv hl r =>
      replace h2 : GM X.K X.mg W B ρ σ H2 ((if y.key then (match dFind (kk.map keyD) ds y with | some d => Res.ok d | none => .bad) else .bad).bind fun d => .ok (d, .cl)) Q := h2
      by_cases hy : y.key = true
      · rw [if_pos hy] at h2
        obtain ⟨j, rfl, rfl⟩ := key_rep (ry.rp S2) hy
        cases e : dFind (kk.map keyD) ds (keyD j) with
        | none => rw [e] at h2; exact h2.elim
        | some d =>
          rw [e] at h2
          obtain ⟨v, q1, q2⟩ := (dFind_val j hl r e).1 d rfl
          refine ⟨q, v, rfl, ?_, GM.pure h2 q2⟩
          rw [← q1]
          exact DGet.k hv
      · rw [if_neg hy] at h2
        exact h2.elim
/-! {k: v, ..} -/
inductive DpM (X : Cx) (E : ExE) (W : WX) (pos : Pos) : List (Option Expr) → List Expr → List Key → AM → List (TE × TE) → Prop
  | nil : DpM X E W pos [] [] [] amNil []
  | cons {k v : Expr} {ks : List (Option Expr)} {vs : List Expr} {j : Key} {kk : List Key} {mv : EM} {am : AM} {trs : List (TE × TE)} (hk : PE X k (tC (kV j))) (hv : PM X E W v mv) (r : DpM X E W pos ks vs kk am trs) :
      DpM X E W pos (some k :: ks) (v :: vs) (j :: kk) (amCons mv am) ((tC (kV j), tE X.K X.mg E W mv) :: trs)
variable {keys : List (Option Expr)} {values : List Expr} {kk : List Key} {trs : List (TE × TE)}
theorem DpM.pps (h : DpM X E W pos keys values kk am trs) : PPs X pos keys values trs := by
  induction h with
  | nil => exact pps_nil
  | cons hk hv _ ih => exact pps_cons hk hv ih
theorem DpM.len (h : DpM X E W pos keys values kk am trs) : keys.length = values.length ∧ kk.length = keys.length ∧ keys.all (·.isSome) = true := by
  induction h with
  | nil => exact ⟨rfl, rfl, rfl⟩
  | cons hk hv _ ih => exact ⟨by simp [ih.1], by simp [ih.2.1], by simpa using ih.2.2⟩
theorem DpM.read {α : Type} {B : Bs} {ρ : Rho} {P : α → Prop} (hd : DpM X E W pos keys values kk am trs) : ∀ {σ : St} {H : Hp} {f : List Val → Res α} {R : List (V × V) → Hp → Prop}, SR X.K X.mg E B ρ σ H → GG X.mg W σ H P ((am ρ).bind f) →
    (∀ (xs : List Val) (vs : List V) (H1 : Hp), RTs X.K X.mg B ρ σ H H1 xs vs → xs.length = kk.length → Same H H1 → SR X.K X.mg E B ρ σ H1 → GG X.mg W σ H1 P (f xs) → R ((kk.map kV).zip vs) H1) → tPairs trs σ H R := by
  induction hd with
  | nil => exact fun S h k => k [] [] _ .nil rfl (Same.refl _) S h
  | cons hk hv r ih =>
    rename_i k0 v0 ks0 vs0 j0 kk0 mv0 am0 trs0
    intro σ H f R S h k
    show tE X.K X.mg E W mv0 σ H _
    refine GG.bindE (f := fun x => (am0 ρ).bind fun xs => f (x :: xs)) S ?_ fun x tx vx H1 rx e1 S1 h1 => ih S1 (GG.mono h1 e1 fun _ q => q) fun xs vs H2 rs hl e2 S2 h2 => ?_
    · have : ((amCons mv0 am0) ρ).bind f = (mv0 ρ).bind fun x => (am0 ρ).bind fun xs => f (x :: xs) := by
        unfold amCons
        cases mv0 ρ with
        | ok x =>
          rw [Res.bind_ok, Res.bind_ok]
          cases am0 ρ <;> rfl
        | ex C => rfl
        | bad => rfl
      rw [← this]
      exact h
    · exact k ((x, tx) :: xs) (vx :: vs) H2 (.cons (rx.mono e2) (rs.base e1)) (by simp [hl]) (e1.trans e2) S2 h2
theorem mergeK_nodup : ∀ (kvs acc : List (Key × V)), ((acc ++ kvs).map (·.1)).Nodup → mergeK acc kvs = acc ++ kvs
  | [], acc, _ => by simp [mergeK]
  | (k, v) :: kvs, acc, h => by
    have hk : (acc.any fun kv => decide (kv.1 = k)) = false := by
      rw [List.any_eq_false]
      intro kv hkv
      simp only [decide_eq_true_eq]
      intro z
      rw [List.map_append, List.nodup_append] at h
      exact h.2.2 kv.1 (List.mem_map_of_mem hkv) k (by simp) z
    have e : putK acc k v = acc ++ [(k, v)] := by
      unfold putK
      rw [if_neg (by rw [hk]; simp)]
    show mergeK (putK acc k v) kvs = _
    rw [e, mergeK_nodup kvs (acc ++ [(k, v)]) (by simpa using h)]
    simp
theorem zip_kv : ∀ (kk : List Key) (vs : List V), (kk.map kV).zip vs = (kk.zip vs).map fun kv => (kV kv.1, kv.2)
  | [], _ => rfl
  | _ :: _, [] => rfl
  | k :: kk, v :: vs => by
    rw [List.map_cons, List.zip_cons_cons, List.zip_cons_cons, List.map_cons, zip_kv kk vs]
theorem pm_disp (hd : DpM X E W pos keys values kk am trs) (h0 : keys ≠ []) (h15 : keys.length ≤ 15) (hn : kk.Nodup) : PM X E W (.Dict keys values pos) (mDisp (kk.map keyD) am) := by
  obtain ⟨l1, l2, l3⟩ := hd.len
  refine PE.imp (pe_disp hd.pps l3 l1 h0 h15) fun σ H Q ⟨B, ρ, S, h⟩ p hp => ?_
  have S' : SR X.K X.mg E (B.add p) ρ σ (upd H p (.dK [])) := S.add hp (Same.upd hp) upd_same
  have h1 : GG X.mg W σ (upd H p (.dK [])) (PV X.K X.mg B ρ σ H Q) ((am ρ).bind fun xs => (kept xs).bind fun ds => if ds.length = (kk.map keyD).length then .ok (.dic (kk.map keyD) ds, .fr) else .bad) := GG.mono h.gg (Same.upd hp) fun _ q => q
  refine hd.read (α := Val) (f := fun xs => (kept xs).bind fun ds => if ds.length = (kk.map keyD).length then Res.ok ((.dic (kk.map keyD) ds, .fr) : Val) else .bad) S' h1 fun xs vs H2 rs hl e2 S2 h2 => ?_
  obtain ⟨hk, h3⟩ := kept_split h2
  have r := rs.keep S' e2 (kept_ok hk).2
  have hlv : vs.length = kk.length := by rw [← r.length, List.length_map, hl]
  rw [if_pos (by rw [List.length_map, List.length_map, hl])] at h3
  have hp2 : H2 p = some (.dK []) := e2 _ _ upd_same
  have hkeys : (kk.zip vs).map (·.1) = kk := List.map_fst_zip (by omega)
  refine ⟨hp2, kk.zip vs, zip_kv kk vs, by rw [List.length_zip]; omega, ?_⟩
  rw [mergeK_nodup _ [] (by simpa [hkeys] using hn), List.nil_append]
  have sH : Same H (upd H2 p (.dK (kk.zip vs))) := fun b o e => by
    have hb : b ≠ p := ne_of_none e hp
    rw [upd_ne hb]
    exact e2 _ _ (Same.upd hp _ _ e)
  refine h3 (.ref p) _ sH ⟨p, _, .dic (kk.map keyD), xs.map (·.1), vs, rfl, rfl, hp, upd_same, ⟨kk, rfl, hlv, rfl, hn⟩, ?_⟩
  have same : ar (B.add p) ρ σ (upd H2 p (.dK (kk.zip vs))) = ar (B.add p) ρ σ H2 := ar_upd (.inl (.inl rfl))
  rw [same]
  exact r
theorem pe_strk {x : Str} {s : List Nat} {j : Nat} (hs : x = ⟨s.toArray⟩) : PE X (.Constant (.str x) j pos) (tC (kV (.inr ⟨s.toArray⟩))) := by
  subst hs
  exact pe_str
theorem pe_intk {i : Int} {j : Nat} : PE X (.Constant (.int i) j pos) (tC (kV (.inl i))) := pe_int
theorem pm_dispK {ks : List D} (hks : ks = kk.map keyD) (hd : DpM X E W pos keys values kk am trs) (h0 : keys ≠ []) (h15 : keys.length ≤ 15) (hn : kk.Nodup) : PM X E W (.Dict keys values pos) (mDisp ks am) := by
  subst hks
  exact pm_disp hd h0 h15 hn
end
/-! the module's dicts, as they stand -/
theorem vd_str {K : PySem.W.Frag} {mg : Str → Option Value} {x : Str} {s : List Nat} {t : Tok} {us : List Value} {ds : List D} {vs : List V} (h : x = ⟨s.toArray⟩) (r : ValsD K mg us ds vs) : ValsD K mg (.str x t :: us) (.str s :: ds) (.str x :: vs) := by
  subst h
  exact .cons ⟨t, rfl⟩ (.str s) r
theorem vd_vals {K : PySem.W.Frag} {mg : Str → Option Value} {us : List Value} {ds : List D} {vs : List V} (r : ValsD K mg us ds vs) : Vals vs us ∧ Reps K mg (fun _ => none) ds vs := by
  induction r with
  | nil => exact ⟨.nil, .nil⟩
  | cons a b _ ih => exact ⟨.cons a ih.1, .cons b ih.2⟩
theorem vd_tup {K : PySem.W.Frag} {mg : Str → Option Value} {p : Addr} {od : Option Addr} {n : Nat} {sl : Array (Option Value)} {ws us : List Value} {es ds : List D} {xs vs : List V} (lk : K.lookup p = some ⟨.type "tuple", od, .seq ws.toArray n, sl⟩) (hl : ws.length ≤ 100) (rw : ValsD K mg ws es xs) (r : ValsD K mg us ds vs) :
    ValsD K mg (.ref p :: us) (.seq .tup es :: ds) (.ref p :: vs) := by
  obtain ⟨a, b⟩ := vd_vals rw
  refine .cons rfl (.tup (.inr ⟨_, _, _, lk, rfl, rfl, ?_, by simpa using a⟩) b) r
  rw [sizeLine_eq]
  simp
  omega
end Dm
end

section
set_option Elab.async false
set_option linter.all false
set_option maxRecDepth 100000
set_option maxHeartbeats 4000000
/-! Dm: dicts of one's own are written, and asked. -/
namespace Dm
open PySem PySem.Spec L2 TL
theorem dPut_rep {K : PySem.W.Frag} {mg : Str → Option Value} {G : Hp} (j : Key) {z : D} {w : V} (rz : Rep K mg G z w) : ∀ {kk : List Key} {ds : List D} {vs : List V}, vs.length = kk.length → kk.Nodup → Reps K mg G ds vs →
    ∃ (kk' : List Key) (vs' : List V), putK (kk.zip vs) j w = kk'.zip vs' ∧ (dPut (kk.map keyD) ds (keyD j) z).1 = kk'.map keyD ∧ vs'.length = kk'.length ∧ kk'.Nodup ∧ Reps K mg G (dPut (kk.map keyD) ds (keyD j) z).2 vs' ∧ ∀ x ∈ kk', x ∈ kk ∨ x = j
  | [], ds, vs, hl, hn, r => by
    have hv : vs = [] := List.length_eq_zero_iff.mp hl
    subst hv
    cases r
    exact ⟨[j], [w], rfl, rfl, rfl, by simp, .cons rz .nil, by simp⟩
  | k :: kk, ds, vs, hl, hn, r => by
    cases r with
    | nil => simp at hl
    | cons r1 r2 =>
      rename_i d v ds vs
      have hl' : vs.length = kk.length := by simpa using hl
      obtain ⟨hk, hn'⟩ := List.nodup_cons.mp hn
      have e1 : dPut ((k :: kk).map keyD) (d :: ds) (keyD j) z = if D.eqv (keyD k) (keyD j) then (keyD k :: kk.map keyD, z :: ds) else (keyD k :: (dPut (kk.map keyD) ds (keyD j) z).1, d :: (dPut (kk.map keyD) ds (keyD j) z).2) := rfl
      rw [e1, keyD_eqv]
      by_cases hkj : k = j
      · subst hkj
        rw [decide_eq_true rfl, if_pos rfl]
        refine ⟨k :: kk, w :: vs, ?_, rfl, by simp [hl'], hn, .cons rz r2, fun x hx => .inl hx⟩
        unfold putK
        rw [List.zip_cons_cons]
        rw [if_pos (by simp)]
        rw [List.map_cons, if_pos rfl, List.zip_cons_cons]
        congr 1
        have : ∀ kv ∈ kk.zip vs, kv.1 ≠ k := fun kv hkv e => hk (e ▸ (List.of_mem_zip hkv).1)
        have e2 : (kk.zip vs).map (fun kv => if kv.1 = k then (kv.1, w) else kv) = (kk.zip vs).map id := List.map_congr_left fun kv hkv => if_neg (this kv hkv)
        rw [e2, List.map_id]
      · rw [decide_eq_false hkj, if_neg (by simp)]
        obtain ⟨kk', vs', p1, p2, p3, p4, p5, p6⟩ := dPut_rep j rz hl' hn' r2
        refine ⟨k :: kk', v :: vs', ?_, by rw [List.map_cons, ← p2], by simp [p3], ?_, .cons r1 p5, ?_⟩
        · rw [List.zip_cons_cons, List.zip_cons_cons, ← p1]
          unfold putK
          by_cases ha : ((kk.zip vs).any fun kv => decide (kv.1 = j)) = true
          · rw [if_pos ha, if_pos (by simp [ha]), List.map_cons, if_neg hkj]
          · rw [if_neg ha, if_neg (by rw [List.any_cons, decide_eq_false hkj, Bool.false_or]; exact ha), List.cons_append]
        · rw [List.nodup_cons]
          refine ⟨fun hx => ?_, p4⟩
          rcases p6 k hx with h | h
          · exact hk h
          · exact hkj h
        · intro x hx
          rcases List.mem_cons.mp hx with h | hx
          · exact .inl (h ▸ List.mem_cons_self ..)
          · exact (p6 x hx).imp (List.mem_cons_of_mem _) id
theorem dPut_new (y z : D) : ∀ (ks ds : List D), ds.length = ks.length → dFind ks ds y = none → dPut ks ds y z = (ks ++ [y], ds ++ [z])
  | [], ds, hl, _ => by
    have : ds = [] := List.length_eq_zero_iff.mp hl
    subst this
    rfl
  | k :: ks, [], hl, _ => by simp at hl
  | k :: ks, d :: ds, hl, h => by
    have h' : (if D.eqv k y then some d else dFind ks ds y) = none := h
    have e1 : dPut (k :: ks) (d :: ds) y z = if D.eqv k y then (k :: ks, z :: ds) else (k :: (dPut ks ds y z).1, d :: (dPut ks ds y z).2) := rfl
    by_cases hk : D.eqv k y = true
    · rw [if_pos hk] at h'
      cases h'
    · rw [if_neg hk] at h'
      rw [e1, if_neg hk, dPut_new y z ks ds (by simpa using hl) h']
      rfl
section
variable {X : Cx} {E : ExE} {W : WX} {pos p : Pos} {a b c e : Expr} {ma mb mc me : EM} {ta : TM} {body : List Stmt} {ms : SM}
theorem pm_d0 : PM X E W (.Dict [] [] pos) mD0 :=
  PE.imp pe_dnewK fun σ H Q ⟨B, ρ, S, h⟩ p hp => h (.ref p) _ (Same.upd hp) ⟨p, _, .dic [], [], [], rfl, rfl, hp, upd_same, ⟨[], rfl, rfl, rfl, List.nodup_nil⟩, .nil⟩
theorem psm_putD (i : Nat) {x : Str} {p1 : Pos} (hu : X.A.units + 64 < cLine) (hb : PM X E W b mb) (hc : PM X E W c mc) (hN : X.N[i]? = some x := by rfl) (hv : Vis X.env.scope x := by first | exact Or.inl rfl | exact Or.inr (Or.inl rfl) | exact Or.inr (Or.inr rfl)) (hd : (x == ("__debug__" : Str)) = false := by decide)
    (hcd : (x == ("__classdict__" : Str)) = false := by decide) (hs : swapsWith c (some (.Subscript (.Name x p1) b p)) pos.line X.env = pure false := by rfl) : PSM X E W (.Assign [.Subscript (.Name x p1) b p] c pos) (smPutD i mb mc) :=
  PS.imp (ps_dput (Nat.lt_of_le_of_lt (by omega) hu) (pe_var hN hv hd hcd) hb hc hs) fun D σ H ⟨B, ρ, S, h⟩ => by
    refine GS.bindE S h fun z tz vz H1 rz e1 S1 h1 => ?_
    split at h1
    · rename_i ks ds eo
      obtain ⟨q, o, vs, g1, g2, hk, r⟩ := S1.ow i (.dic ks) ds eo
      obtain ⟨kk, rfl, hl, rfl, hn⟩ := hk
      refine ⟨.ref q, g1, GS.bindE S1 h1 fun y ty vy H2 ry e2 S2 h2 => ?_⟩
      by_cases hc : (y.key && (tz.free || z.sc) && decide (ds.length < lim)) = true
      · rw [if_pos hc] at h2
        simp only [Bool.and_eq_true, Bool.or_eq_true, decide_eq_true_eq] at hc
        obtain ⟨⟨hy, hf⟩, hlen⟩ := hc
        obtain ⟨j, rfl, rfl⟩ := key_rep (ry.rp S2) hy
        have rz2 : Rep X.K X.mg (ar B ρ σ H2) z vz := (rz.mono e2).keep S (e1.trans e2) hf
        obtain ⟨kk', vs', p1, p2, p3, p4, p5, _⟩ := dPut_rep j rz2 hl hn (r.mono (ar_mono e2))
        refine ⟨q, _, rfl, DPut.k (e2 _ _ g2) (by rw [List.length_zip, hl, Nat.min_self, ← hl, ← r.length, lim_eq]; exact hlen), ?_⟩
        refine h2 _ _ (S2.updO eo g1 ⟨kk', p2, p3, ?_, p4⟩ p5)
        rw [p1]
      · rw [if_neg hc] at h2
        exact h2.elim
    · exact h1.elim
/-- k in d -/
theorem pmt_din (hu : X.A.units + 64 < cLine) (ha : PM X E W a ma) (hb : PM X E W b mb) (hm : behindInMarks .In b = false := by rfl) : PMT X E W (.Compare a [.In] [b] pos) (mTB (mCmp dIn ma mb)) :=
  PT.imp (pt_cmp (pc_din (Nat.lt_of_le_of_lt (by omega) hu) ha hb) hm) fun σ H Q ⟨B, ρ, S, h⟩ => by
    refine GM.bind S (mTB_gm (K := X.K) (B := B) h) fun x tx vx H1 rx e1 S1 h1 => GM.bind S1 h1 fun y ty vy H2 ry e2 S2 h2 => ?_
    have rpy := ry.rp S2
    cases rpy <;> first | exact h2.elim | skip
    case dic q kk ds vs hv hl r =>
      replace h2 : GM X.K X.mg W B ρ σ H2 ((if x.key then Res.ok (dFind (kk.map keyD) ds x).isSome else .bad).bind fun k => .ok (.bl k, .cl)) (fun v H' => ∃ k, v = .bl k ∧ Q k H') := h2
      by_cases hy : x.key = true
      · rw [if_pos hy] at h2
        obtain ⟨j, rfl, rfl⟩ := key_rep ((rx.rp S1).mono e2) hy
        refine ⟨q, valV (kk.zip vs) j, rfl, DGet.k hv, ?_⟩
        obtain ⟨q1, q2⟩ := dFind_val j hl r (rfl : dFind (kk.map keyD) ds (keyD j) = _)
        have : (valV (kk.zip vs) j).isSome = (dFind (kk.map keyD) ds (keyD j)).isSome := by
          cases e : dFind (kk.map keyD) ds (keyD j) with
          | none => rw [q2 e]; rfl
          | some d =>
            obtain ⟨v, e3, _⟩ := q1 d e
            rw [e3]
            rfl
        rw [this]
        exact GM.sc (d := .bl _) h2 (.bl _)
      · rw [if_neg hy] at h2
        exact h2.elim
theorem pmt_dnin (hu : X.A.units + 64 < cLine) (ha : PM X E W a ma) (hb : PM X E W b mb) (hm : behindInMarks .NotIn b = false := by rfl) : PMT X E W (.Compare a [.NotIn] [b] pos) (mTB (mCmp dNotIn ma mb)) :=
  PT.imp (pt_cmp (pc_dnotin (Nat.lt_of_le_of_lt (by omega) hu) ha hb) hm) fun σ H Q ⟨B, ρ, S, h⟩ => by
    refine GM.bind S (mTB_gm (K := X.K) (B := B) h) fun x tx vx H1 rx e1 S1 h1 => GM.bind S1 h1 fun y ty vy H2 ry e2 S2 h2 => ?_
    have rpy := ry.rp S2
    cases rpy <;> first | exact h2.elim | skip
    case dic q kk ds vs hv hl r =>
      replace h2 : GM X.K X.mg W B ρ σ H2 (((if x.key then Res.ok (dFind (kk.map keyD) ds x).isSome else .bad).bind fun b => .ok (!b)).bind fun k => .ok (.bl k, .cl)) (fun v H' => ∃ k, v = .bl k ∧ Q k H') := h2
      by_cases hy : x.key = true
      · rw [if_pos hy] at h2
        obtain ⟨j, rfl, rfl⟩ := key_rep ((rx.rp S1).mono e2) hy
        refine ⟨q, valV (kk.zip vs) j, rfl, DGet.k hv, ?_⟩
        obtain ⟨q1, q2⟩ := dFind_val j hl r (rfl : dFind (kk.map keyD) ds (keyD j) = _)
        have : (valV (kk.zip vs) j).isSome = (dFind (kk.map keyD) ds (keyD j)).isSome := by
          cases e : dFind (kk.map keyD) ds (keyD j) with
          | none => rw [q2 e]; rfl
          | some d =>
            obtain ⟨v, e3, _⟩ := q1 d e
            rw [e3]
            rfl
        rw [this]
        exact GM.sc (d := .bl _) h2 (.bl _)
      · rw [if_neg hy] at h2
        exact h2.elim
/-- d.get(k, e) -/
theorem pm_get2 {apos : Pos} (hu : X.A.units + 64 < cLine) (ha : PM X E W a ma) (hb : PM X E W b mb) (hc : PM X E W c mc) (m : M2 X a "get" apos b c pos := by exact ⟨rfl, rfl, rfl, rfl⟩) : PM X E W (.Call (.Attribute a "get" apos) [b, c] [] pos) (mGet2 ma mb mc) :=
  PE.imp (pe_dget2 (Nat.lt_of_le_of_lt (by omega) hu) ha hb hc m) fun σ H Q ⟨B, ρ, S, h⟩ => GM.bind S h fun x tx vx H1 rx e1 S1 h1 => by
    have rpx := rx.rp S1
    cases rpx <;> first | exact h1.elim | skip
    case dic q kk ds vs hv hl r =>
      refine ⟨q, rfl, .inl ⟨_, .inl hv⟩, GM.bind (f := fun y => (mc ρ).bind fun z => if y.1.key && (z.2.free || z.1.sc) then .ok ((dFind (kk.map keyD) ds y.1).getD z.1, .cl) else .bad) S1 h1 fun y ty vy H2 ry e2 S2 h2 => GM.bind (f := fun z => if y.key && (z.2.free || z.1.sc) then .ok ((dFind (kk.map keyD) ds y).getD z.1, .cl) else .bad) S2 h2 fun z tz vz H3 rz e3 S3 h3 => ?_⟩
      by_cases hc : (y.key && (tz.free || z.sc)) = true
      · rw [if_pos hc] at h3
        simp only [Bool.and_eq_true, Bool.or_eq_true] at hc
        obtain ⟨j, rfl, rfl⟩ := key_rep ((ry.rp S2).mono e3) hc.1
        have hv3 := e3 _ _ (e2 _ _ hv)
        refine ⟨valV (kk.zip vs) j, DGet.k hv3, ?_⟩
        have r3 := (r.mono (ar_mono e2)).mono (ar_mono e3)
        obtain ⟨q1, q2⟩ := dFind_val j hl r3 (rfl : dFind (kk.map keyD) ds (keyD j) = _)
        cases ef : dFind (kk.map keyD) ds (keyD j) with
        | none =>
          rw [ef] at h3
          rw [q2 ef]
          exact GM.pure h3 (rz.keep S2 e3 hc.2)
        | some d =>
          rw [ef] at h3
          obtain ⟨v, e5, e6⟩ := q1 d ef
          rw [e5]
          exact GM.pure h3 e6
      · rw [if_neg hc] at h3
        exact h3.elim
/-- if t or d.setdefault(k, v) != e: s -/
theorem psm_ifSetd (i : Nat) {x : Str} {p1 apos cpos cp bp : Pos} {t : Expr} (hu : X.A.units + 64 < cLine) (ht : PMT X E W t ta) (hb : PM X E W b mb) (hc : PM X E W c mc) (he : PM X E W e me) (hs : PSsM X E W body ms)
    (m : M2 X (.Name x p1) "setdefault" apos b c cpos := by exact ⟨rfl, rfl, rfl, rfl⟩) (hN : X.N[i]? = some x := by rfl) (hv : Vis X.env.scope x := by first | exact Or.inl rfl | exact Or.inr (Or.inl rfl) | exact Or.inr (Or.inr rfl)) (hd : (x == ("__debug__" : Str)) = false := by decide)
    (hcd : (x == ("__classdict__" : Str)) = false := by decide) : PSM X E W (.If (.BoolOp .Or [t, .Compare (.Call (.Attribute (.Name x p1) "setdefault" apos) [b, c] [] cpos) [.NotEq] [e] cp] bp) body [] pos) (smIfSetd i ta mb mc me ms) :=
  PS.imp (ps_if (PW.pt (pw_or ht (pw_or1 (pt_cmpR op_ne (pe_dsetd (pe_var hN hv hd hcd) hb hc m) he (nomark _))))) hs pss_nil) fun D σ H ⟨B, ρ, S, h⟩ => by
    refine GS.bindT S h fun k H1 e1 S1 h1 => ?_
    cases k with
    | true => exact iteT ⟨B, ρ, S1, h1⟩
    | false =>
      refine iteF ?_
      replace h1 : GS X.K X.mg E W B D (match ρ[i]? with
  | some (.oo (.dic ks) ds) => (mb ρ).st ρ fun y => (mc ρ).st ρ fun z => if y.1.key && z.1.sc && decide (ds.length < lim) then (match dFind ks ds y.1 with
    | some d => (me ρ).st ρ fun w => (cNeS d w.1).bind fun k => if k then ms ρ else .ok (.nx ρ)
    | none => (me (ρ.set i (.oo (.dic (ks ++ [y.1])) (ds ++ [z.1])))).st (ρ.set i (.oo (.dic (ks ++ [y.1])) (ds ++ [z.1]))) fun w => (cNeS z.1 w.1).bind fun k => if k then ms (ρ.set i (.oo (.dic (ks ++ [y.1])) (ds ++ [z.1]))) else .ok (.nx (ρ.set i (.oo (.dic (ks ++ [y.1])) (ds ++ [z.1]))))) else .bad
  | _ => .bad) := h1
      split at h1
      · rename_i ks ds eo
        obtain ⟨q, o, vs, g1, g2, hk, r⟩ := S1.ow i (.dic ks) ds eo
        obtain ⟨kk, rfl, hl, rfl, hn⟩ := hk
        refine ⟨.ref q, g1, q, rfl, .inl ⟨_, .inl g2⟩, GS.bindE S1 h1 fun y ty vy H2 ry e2 S2 h2 => GS.bindE S2 h2 fun z tz vz H3 rz e3 S3 h3 => ?_⟩
        by_cases hc : (y.key && z.sc && decide (ds.length < lim)) = true
        · rw [if_pos hc] at h3
          simp only [Bool.and_eq_true, decide_eq_true_eq] at hc
          obtain ⟨⟨hy, hf⟩, hlen⟩ := hc
          obtain ⟨j, rfl, rfl⟩ := key_rep ((ry.rp S2).mono e3) hy
          have g3 := e3 _ _ (e2 _ _ g2)
          have r3 := (r.mono (ar_mono e2)).mono (ar_mono e3)
          obtain ⟨q1, q2⟩ := dFind_val j hl r3 (rfl : dFind (kk.map keyD) ds (keyD j) = _)
          have rz3 : Rep X.K X.mg (ar B ρ σ H3) z vz := rz.keep S2 e3 (.inr hf)
          have last : ∀ {ρ' : Rho} {H4 : Hp} {d : Dm.D} {v : V} {R : Bool → Hp → Prop}, SR X.K X.mg E B ρ' σ H4 → Rep X.K X.mg (ar B ρ' σ H4) d v → GS X.K X.mg E W B D ((me ρ').st ρ' fun w => (cNeS d w.1).bind fun k => if k then ms ρ' else .ok (.nx ρ')) →
              (∀ H5, SR X.K X.mg E B ρ' σ H5 → GS X.K X.mg E W B D (ms ρ') → R true H5) → (∀ H5, SR X.K X.mg E B ρ' σ H5 → GS X.K X.mg E W B D (.ok (.nx ρ')) → R false H5) →
              tE X.K X.mg E W me σ H4 fun y H5 => rNe v y H5 fun x H' => ∃ k, x = .bl k ∧ R k H' := by
            intro ρ' H4 d v R T rd hh hR1 hR0
            refine GS.bindE T hh fun w tw vw H5 rw5 e5 T5 h5 => ?_
            cases eq : dEqS d w with
            | none =>
              have h6 : GS X.K X.mg E W B D ((match dEqS d w with | some k => Res.ok (!k) | none => .bad).bind fun k => if k then ms ρ' else .ok (.nx ρ')) := h5
              rw [eq] at h6
              exact h6.elim
            | some k =>
              have h6 : GS X.K X.mg E W B D ((match dEqS d w with | some k => Res.ok (!k) | none => .bad).bind fun k => if k then ms ρ' else .ok (.nx ρ')) := h5
              rw [eq, Res.bind_ok] at h6
              obtain ⟨q1, q2⟩ := eqS_ok (Rep.rp T5 (rd.mono (ar_mono e5))) (rw5.rp T5) eq
              refine ⟨q1, !k, by rw [q2], ?_⟩
              cases k with
              | true => exact hR0 H5 T5 h6
              | false => exact hR1 H5 T5 h6
          have len : (kk.zip vs).length < sizeLine := by rw [List.length_zip, hl, Nat.min_self, ← hl, ← r.length, lim_eq]; exact hlen
          refine ⟨kk.zip vs, j, g3, rfl, len, fun v e4 => ?_, fun e4 => ?_⟩
          · cases ef : dFind (kk.map keyD) ds (keyD j) with
            | none =>
              rw [q2 ef] at e4
              cases e4
            | some d =>
              rw [ef] at h3
              obtain ⟨v', e5, e6⟩ := q1 d ef
              rw [e4] at e5
              cases e5
              exact last S3 e6 h3 (fun H5 T g => iteT ⟨B, ρ, T, g⟩) (fun H5 T g => iteF (g σ H5 T))
          · cases ef : dFind (kk.map keyD) ds (keyD j) with
            | some d =>
              obtain ⟨v', e5, e6⟩ := q1 d ef
              rw [e4] at e5
              cases e5
            | none =>
              rw [ef] at h3
              obtain ⟨kk', vs', p1, p2, p3, p4, p5, _⟩ := dPut_rep (ds := ds) j rz3 hl hn r3
              have en := dPut_new (keyD j) z (kk.map keyD) ds (by rw [show ds.length = vs.length from r.length, List.length_map]; exact hl) ef
              rw [en] at p2 p5
              have T := S3.updO (k1 := .dic (kk.map keyD ++ [keyD j])) (ds' := ds ++ [z]) (o0 := .dK (putK (kk.zip vs) j vz)) eo g1 ⟨kk', p2, p3, by rw [p1], p4⟩ p5
              dsimp only at h3
              exact last T (Rep.sc rz3 hf) h3 (fun H5 T g => iteT ⟨B, _, T, g⟩) (fun H5 T g => iteF (g σ H5 T))
        · rw [if_neg hc] at h3
          exact h3.elim
      · exact h1.elim
end
end Dm
end

section
set_option Elab.async false
set_option linter.all false
set_option maxRecDepth 100000
set_option maxHeartbeats 4000000
/-! Dm: texts turned about, ranges downwards, insert, sorted. -/
namespace Dm
open PySem PySem.Spec L2 TL
section
variable {X : Cx} {E : ExE} {W : WX} {pos p : Pos} {a b c e tg : Expr} {ma mb mc : EM} {es : List Expr} {am : AM}
/-! ### text[::-1] -/
theorem rev_cps (s : List Nat) (u : Tok) : Txt.sliceBy (⟨s.toArray⟩ : Str) none none (-1, u) = (⟨s.reverse.toArray⟩ : Str) := by
  have h := PyProof.Rows.step_rev_list (⟨s.toArray⟩ : Str) u
  generalize Txt.sliceBy (⟨s.toArray⟩ : Str) none none (-1, u) = y at h
  obtain ⟨⟨l⟩⟩ := y
  have h' : l = (List.range s.length).map fun k => s.toArray.getD (s.length - 1 - k) 0 := h
  have : l = s.reverse := by
    rw [h']
    refine List.ext_getElem (by simp) fun i h1 h2 => ?_
    have hi : i < s.length := by simpa using h1
    rw [List.getElem_map, List.getElem_range, List.getElem_reverse]
    have : s.length - 1 - i < s.length := by omega
    simp [Array.getD, this]
  rw [this]
def tRevS (te : TE) : TE := fun σ H Q => te σ H fun x H1 => ∃ s : List Nat, x = .str ⟨s.toArray⟩ ∧ s.length ≤ sizeLine ∧ Q (.str ⟨s.reverse.toArray⟩) H1
theorem pe_revS {te : TE} {k : Nat} {p1 p2 p3 pos : Pos} (he : PE X e te) : PE X (.Subscript e (.Slice none none (some (.UnaryOp .USub (.Constant (.int 1) k p1) p2)) p3) pos) (tRevS te) := by
  refine ⟨fun pins s σ H Q I h => ?_⟩
  refine PyProof.Rows.Subscript_ (thn (he.run pins s σ H _ I h) fun v s1 ⟨x, H1, I1, r1, q1⟩ => ?_)
  obtain ⟨t, ex, hl, q⟩ := q1
  subst ex
  obtain ⟨tk, rfl⟩ := r1
  have hst : PO X (some (.UnaryOp .USub (.Constant (.int 1) k p1) p2)) (tPart (tUn (rU fun i => .int (-i)) (tC (.int 1)))) := po_some (pe_un un_neg pe_int)
  refine wpAny_Slice (thn (po_none.run pins s1 σ H1 (fun o H2 => o = none ∧ H2 = H1) I1 ⟨rfl, rfl⟩) fun vl s2 ⟨l, H2, I2, pl, el, e2⟩ => ?_)
  subst el e2
  refine thn (po_none.run pins s2 σ H2 (fun o H3 => o = none ∧ H3 = H2) I2 ⟨rfl, rfl⟩) fun vu s3 ⟨u, H3, I3, pu, eu, e3⟩ => ?_
  subst eu e3
  refine thn (hst.run pins s3 σ H3 (fun o H4 => o = some (-1) ∧ H4 = H3) I3 ⟨1, rfl, -1, rfl, rfl, rfl⟩) fun vs s4 ⟨o, H4, I4, ps, eo, e4⟩ => ?_
  subst eo e4
  have I5 : Inv X pins σ H4 { s4 with heap := s4.heap.push { cls := .type "slice", data := .fields #[vl, vu, vs] } } := I4.kept (t' := s4.toks) fun b ob q => Heap.get?_push_of_some _ q
  cases pl
  cases pu
  cases ps
  rename_i uk _
  have hk : ((-1 : Int) == 0) = false := by decide
  refine PyProof.Rows.tail_any (T := "str") (ops := [.ref s4.heap.objs.size, .str ⟨t.toArray⟩ tk]) (PySem.typeIs_str _ _ _) (PySem.F.slot_str_getitem.lookup) (PySem.wpAny_getItem_str_slice (l := none) (u := none) (st := some (-1, uk)) ⟨_, Heap.get?_push_size _ rfl, rfl, rfl⟩ hk
    (PySem.post_val_or_str ⟨Nat.le_trans (Txt.sliceBy_le (⟨t.toArray⟩ : Str) none none (-1, uk) (by simp)) hl, fun t' c => ?_⟩)) (by with_unfolding_all rfl)
  refine ⟨.str ⟨t.reverse.toArray⟩, H4, I5.tok _, ?_, q⟩
  exact ⟨t', congrArg (Value.str · t') (rev_cps t uk)⟩
theorem pm_revS {k : Nat} {p1 p2 p3 pos : Pos} (ha : PM X E W a ma) : PM X E W (.Subscript a (.Slice none none (some (.UnaryOp .USub (.Constant (.int 1) k p1) p2)) p3) pos) (mRevS ma) :=
  PE.imp (pe_revS ha) fun σ H Q ⟨B, ρ, S, h⟩ => GM.bind S h fun x tx vx H1 rx e1 S1 h1 => by
    have rpx := rx.rp S1
    cases rpx <;> first | exact False.elim h1 | skip
    case str s =>
      have h2 : GM X.K X.mg W B ρ σ H1 (if s.length ≤ lim then .ok (.str s.reverse, .cl) else .bad) Q := h1
      split at h2
      · rename_i hl
        exact ⟨s, rfl, Nat.le_trans hl lim_le, GM.sc (d := .str _) h2 (.str _)⟩
      · exact False.elim h2
/-! ### range(i, j, -1) -/
theorem wk_rangeD {K : PySem.W.Frag} {mg : Str → Option Value} {A Hb : Hp} (hi : Int) (n : Nat) : Wk K mg A Hb (Itc hi (-1) n) (rangeD hi n) where
  go := fun i H s h => by
    show i < n
    simpa [rangeD] using h
  stop := fun i H s h => by
    show n ≤ i
    simpa [rangeD] using h
  yld := fun i H x H' s h y => by
    obtain ⟨rfl, rfl⟩ := y
    have h' : i < n := by simpa [rangeD] using h
    refine ⟨Same.refl _, .int (hi - i), by simp [rangeD, h'], ?_⟩
    have e : hi + (i : Int) * (-1) = hi - i := by omega
    rw [e]
    exact .int _
theorem pmi_r3 (ha : PM X E W a ma) (hb : PM X E W b mb) (hc : PM X E W c mc) (hm : X.mg "range" = none) (hg : Gl X "range" := by rfl)
    (hs : starEach [a, b, c] X.env = (false, eval a X.env) :: starEach [b, c] X.env := by rfl) (hs2 : starEach [b, c] X.env = (false, eval b X.env) :: starEach [c] X.env := by rfl) (hs3 : starEach [c] X.env = (false, eval c X.env) :: starEach [] X.env := by rfl)
    (hpl : (backTo pos (starEach [b, c] X.env)).any (·.1) = false := by rfl) : PMI X E W tg (.Call (.Name "range" p) [a, b, c] [] pos) (wmR3 ma mb mc) :=
  PI.imp (pi_range3 hg hm (pa_cons ha (pa_cons hb (pa_cons hc pa_nil hs3) hs2) hs) hs hpl) fun σ H R ⟨B, ρ, S, h⟩ => GG.bindE S h fun x tx vx H1 rx e1 S1 h1 => by
    have h1' := GG.mono h1 e1 fun _ q => q
    refine GG.bindE S1 h1' fun y ty vy H2 ry e2 S2 h2 => ?_
    have h2' := GG.mono h2 e2 fun _ q => q
    refine GG.bindE S2 h2' fun z tz vz H3 rz e3 S3 h3 => ?_
    have rpx := rx.rp S1
    have rpy := ry.rp S2
    have rpz := rz.rp S3
    cases rpx <;> first | exact False.elim h3 | skip
    cases rpy <;> first | exact False.elim h3 | skip
    cases rpz <;> first | exact False.elim h3 | skip
    case int.int.int i j k =>
      have h4 : GG X.mg W σ H2 (fun p => ∀ J H1, Same H H1 → SR X.K X.mg E B ρ σ H1 → Wk X.K X.mg (ar B ρ σ H1) (hid B (frzO p.2 ρ) σ H1) J p.1 → R J H1) (if rgOk i && rgOk j && decide (k = -1) then .ok (rangeD i (i - j).toNat, none) else .bad) := h3
      split at h4
      · rename_i hr
        rw [Bool.and_eq_true, Bool.and_eq_true, decide_eq_true_eq] at hr
        obtain ⟨a1, a2⟩ := rg_ok hr.1.1
        obtain ⟨b1, b2⟩ := rg_ok hr.1.2
        obtain rfl := hr.2
        exact ⟨i, j, -1, (i - j).toNat, rfl, RgC.neg a1 a2 b1 b2, h4 _ H3 ((e1.trans e2).trans e3) S3 (wk_rangeD i (i - j).toNat)⟩
      · exact False.elim h4
/-! ### sorted(e) of whole numbers -/
theorem intsV_rep {G : Hp} {K : PySem.W.Frag} {mg : Str → Option Value} : ∀ {ds : List D} {vs : List V} {ns : List Int}, Reps K mg G ds vs → intsOf ds = some ns → vs = ns.map V.int
  | [], _, ns, .nil, h => by
    cases h
    rfl
  | d :: ds, _, ns, .cons r rs, h => by
    cases r <;> first | (cases h; done) | skip
    case int i =>
      cases e : intsOf ds with
      | none => simp [intsOf, e] at h
      | some ms =>
        have hn : ns = i :: ms := by simpa [intsOf, e] using h.symm
        subst hn
        rw [intsV_rep rs e]
        rfl
theorem repsI_of {G : Hp} {K : PySem.W.Frag} {mg : Str → Option Value} : ∀ ns : List Int, Reps K mg G (ns.map .int) (ns.map V.int)
  | [] => .nil
  | n :: ns => .cons (.int n) (repsI_of ns)
theorem sort_uniq {ns ms : List Int} (hp : ms.Perm ns) (hs : ms.Pairwise (· ≤ ·)) : ms = ns.mergeSort leI := by
  have t : ∀ a b c : Int, leI a b = true → leI b c = true → leI a c = true := fun a b c h1 h2 => by
    unfold leI at *
    simp only [decide_eq_true_eq] at *
    omega
  have t2 : ∀ a b : Int, (leI a b || leI b a) = true := fun a b => by
    unfold leI
    simp only [Bool.or_eq_true, decide_eq_true_eq]
    omega
  have h1 := List.pairwise_mergeSort t t2 ns
  have h2 := (List.mergeSort_perm ns leI)
  refine List.Perm.eq_of_pairwise (le := fun a b => a ≤ b) (fun a b _ _ h h' => Int.le_antisymm h h') hs (h1.imp fun {a b} h => by unfold leI at h; simpa using h) (hp.trans h2.symm)
theorem le_trS (a b c : List Nat) : ¬ b < a → ¬ c < b → ¬ c < a := fun h1 h2 => List.not_lt.mpr (List.le_trans (List.not_lt.mp h1) (List.not_lt.mp h2))
theorem le_totS (a b : List Nat) : ¬ b < a ∨ ¬ a < b := by
  rcases List.le_total a b with h | h
  · exact .inl (List.not_lt.mpr h)
  · exact .inr (List.not_lt.mpr h)
theorem le_antiS (a b : List Nat) : ¬ b < a → ¬ a < b → a = b := fun h1 h2 => List.le_antisymm (List.not_lt.mp h1) (List.not_lt.mp h2)
theorem sort_uniqS {ts us : List (List Nat)} (hp : us.Perm ts) (hs : us.Pairwise fun a b => ¬ b < a) : us = ts.mergeSort leS := by
  have t : ∀ a b c : List Nat, leS a b = true → leS b c = true → leS a c = true := fun a b c h1 h2 => by
    unfold leS at *
    simp only [decide_eq_true_eq] at *
    exact le_trS a b c h1 h2
  have t2 : ∀ a b : List Nat, (leS a b || leS b a) = true := fun a b => by
    unfold leS
    simp only [Bool.or_eq_true, decide_eq_true_eq]
    exact le_totS a b
  have h1 := List.pairwise_mergeSort t t2 ts
  have h2 := (List.mergeSort_perm ts leS)
  refine List.Perm.eq_of_pairwise (le := fun a b => ¬ b < a) (fun a b _ _ h h' => le_antiS a b h h') hs (h1.imp fun {a b} h => by unfold leS at h; simpa using h) (hp.trans h2.symm)
theorem rising_pair : ∀ (p : Str) (xs : List Str), PyProof.Rows.risingS p xs = true → (∀ x ∈ xs, ¬ x.cps.toList < p.cps.toList) ∧ xs.Pairwise fun a b => ¬ b.cps.toList < a.cps.toList
  | _, [], _ => ⟨by simp, .nil⟩
  | p, x :: r, h => by
    have h' : (!PySem.Spec.ltCps x.cps.toList p.cps.toList && PyProof.Rows.risingS x r) = true := h
    rw [Bool.and_eq_true] at h'
    obtain ⟨i1, i2⟩ := rising_pair x r h'.2
    have hx : ¬ x.cps.toList < p.cps.toList := by
      have := h'.1
      rw [PyProof.Rows.ltCps_eq] at this
      simpa using this
    refine ⟨fun y hy => ?_, .cons i1 i2⟩
    rcases List.mem_cons.mp hy with rfl | hy
    · exact hx
    · exact le_trS _ _ _ hx (i1 y hy)
theorem sorted_pair (xs : List Str) (h : PyProof.Rows.sortedS xs = true) : xs.Pairwise fun a b => ¬ b.cps.toList < a.cps.toList := by
  cases xs with
  | nil => exact .nil
  | cons x r =>
    obtain ⟨i1, i2⟩ := rising_pair x r h
    exact .cons i1 i2
def rSortedSA (K : PySem.W.Frag) : List V → Hp → VK → Prop := fun vs H Q => ∃ (a : Addr) (xs : List Str), vs = [V.ref a] ∧ SqL K H a (xs.map V.str) ∧
  ∀ (ys : List Str) (p : Addr), ys.Perm xs → PyProof.Rows.sortedS ys = true → H p = none → Q (.ref p) (upd H p (.lst (ys.map V.str)))
theorem cr_sortedSA : CallR X (.builtin "sorted") (rSortedSA X.K) := by
  intro pins s σ H vs us Q I r h
  obtain ⟨a, xs, rfl, hs, q⟩ := h
  obtain ⟨its, rv, hl, hz⟩ := I.list hs
  rw [Vals.ref1 r]
  have hlen0 := rv.length
  rw [List.length_map] at hlen0
  refine PyProof.Rows.sorted_strsAny hl.isList rv.strs (by rw [← hlen0]; rw [List.length_map] at hz; exact hz) fun out ys h1 h2 h3 => ?_
  obtain ⟨ep, he'⟩ := PyProof.Rows.sortedAll_at s.heap its out
  have hlen : (ys.map V.str).length ≤ sizeLine := by
    rw [List.length_map, h2.length_eq]
    rw [List.length_map] at hz
    exact hz
  exact ⟨.ref _, upd H (s.heap.objs.size + 1) (.lst (ys.map V.str)), I.laid (t' := s.toks) (fun _ _ => PyProof.Rows.sortedAll_old) (Nat.le_succ _) ⟨hlen, out.toList, ep, vals_of_strs h1, he'⟩, rfl, q ys _ h2 h3 (I.hok.fresh (Nat.le_succ _))⟩
theorem strsV_rep {G : Hp} {K : PySem.W.Frag} {mg : Str → Option Value} : ∀ {ds : List D} {vs : List V} {ts : List (List Nat)}, Reps K mg G ds vs → strsOf ds = some ts → vs = (ts.map fun t => (⟨t.toArray⟩ : Str)).map V.str
  | [], _, ns, .nil, h => by
    cases h
    rfl
  | d :: ds, _, ns, .cons r rs, h => by
    cases r <;> first | (cases h; done) | skip
    case str i =>
      cases e : strsOf ds with
      | none => simp [strsOf, e] at h
      | some ms =>
        have hn : ns = i :: ms := by simpa [strsOf, e] using h.symm
        subst hn
        rw [strsV_rep rs e]
        rfl
theorem repsS_of {G : Hp} {K : PySem.W.Frag} {mg : Str → Option Value} : ∀ ts : List (List Nat), Reps K mg G (ts.map .str) ((ts.map fun t => (⟨t.toArray⟩ : Str)).map V.str)
  | [] => .nil
  | t :: ts => .cons (.str t) (repsS_of ts)
theorem pm_sorted (hm : X.mg "sorted" = none) (ha : PMA X E W [e] am) (hg : Gl X "sorted" := by rfl)
    (he : starEach [e] X.env = (false, eval e X.env) :: starEach [] X.env := by rfl) (hpl : (backTo pos (starEach [] X.env)).any (·.1) = false := by rfl) : PM X E W (.Call (.Name "sorted" p) [e] [] pos) (mSorted am) :=
  PE.imp (pe_callB (CallR.or cr_sortedI cr_sortedSA) hg hm (by decide +kernel) ha (by decide) (by decide) he hpl) fun σ H Q ⟨B, ρ, S, h⟩ => GG.bindA S h.gg fun xs vs H1 rs e1 S1 h1 => by
    match xs, vs, rs, h1 with
    | [], _, _, h1 => exact False.elim h1
    | _ :: _ :: _, _, _, h1 => exact False.elim h1
    | [x], [u], .cons r .nil, h1 =>
      have h2 : GM X.K X.mg W B ρ σ H1 (mSortOf x.1) Q := PV.move e1 h1
      obtain ⟨x, tx⟩ := x
      have rp := r.rp S1
      have key : ∀ {l : Addr} {ds : List D} {ys : List V}, SqL X.K H1 l ys → Reps X.K X.mg (ar B ρ σ H1) ds ys → GM X.K X.mg W B ρ σ H1 (match intsOf ds with | some ns => Res.ok (.seq .lst ((ns.mergeSort leI).map .int), .fr) | none => (match strsOf ds with | some ts => Res.ok (.seq .lst ((ts.mergeSort leS).map .str), .fr) | none => .bad)) Q →
          (∃ (a : Addr) (ns : List Int), [V.ref l] = [V.ref a] ∧ SqL X.K H1 a (ns.map V.int) ∧ ∀ (ns' : List Int) (p : Addr), ns'.Perm ns → ns'.Pairwise (· ≤ ·) → H1 p = none → Q (.ref p) (upd H1 p (.lst (ns'.map V.int)))) ∨
          (∃ (a : Addr) (xs : List Str), [V.ref l] = [V.ref a] ∧ SqL X.K H1 a (xs.map V.str) ∧ ∀ (ys : List Str) (p : Addr), ys.Perm xs → PyProof.Rows.sortedS ys = true → H1 p = none → Q (.ref p) (upd H1 p (.lst (ys.map V.str)))) := by
        intro l ds ys hx rr h3
        cases e : intsOf ds with
        | none =>
          rw [e] at h3
          replace h3 : GM X.K X.mg W B ρ σ H1 (match strsOf ds with | some ts => Res.ok (.seq .lst ((ts.mergeSort leS).map .str), .fr) | none => .bad) Q := h3
          cases es : strsOf ds with
          | none => rw [es] at h3; exact h3.elim
          | some ts =>
            rw [es] at h3
            have hy := strsV_rep rr es
            subst hy
            refine .inr ⟨l, _, rfl, hx, fun ys p h4 h5 hp => ?_⟩
            have hpw := sorted_pair ys h5
            have hperm : (ys.map fun y => y.cps.toList).Perm ts := by
              have := h4.map (fun y : Str => y.cps.toList)
              rw [List.map_map] at this
              have e0 : ((fun y : Str => y.cps.toList) ∘ fun t : List Nat => (⟨t.toArray⟩ : Str)) = id := by
                funext t
                simp
              rw [e0, List.map_id] at this
              exact this
            have hu := sort_uniqS hperm (List.pairwise_map.mpr hpw)
            have hy2 : ys.map V.str = ((ts.mergeSort leS).map fun t => (⟨t.toArray⟩ : Str)).map V.str := by
              rw [← hu, List.map_map, List.map_map]
              refine List.map_congr_left fun y _ => ?_
              simp
            rw [hy2]
            exact GM.fresh S1 h3 (repsS_of _) hp
        | some ns =>
          rw [e] at h3
          have hy := intsV_rep rr e
          subst hy
          refine .inl ⟨l, ns, rfl, hx, fun ns' p h4 h5 hp => ?_⟩
          have := sort_uniq h4 h5
          subst this
          exact GM.fresh S1 h3 (repsI_of _) hp
      cases rp <;> first | exact False.elim h2 | skip
      case lst hx rr => exact key (.of hx) rr h2
      case rol hx rr => exact key hx rr h2
/-! ### x.insert(i, e) -/
theorem psm_ins (i : Nat) {x : Str} {p1 p2 : Pos} (hb : PM X E W b mb) (ha : PM X E W a ma) (hN : X.N[i]? = some x := by rfl) (hv : Vis X.env.scope x := by first | exact Or.inl rfl | exact Or.inr (Or.inl rfl) | exact Or.inr (Or.inr rfl)) (hd : (x == ("__debug__" : Str)) = false := by decide)
    (hcd : (x == ("__classdict__" : Str)) = false := by decide) (hbase : attributeBase (.Name x p1) "insert" X.env (eval (.Name x p1) X.env) = eval (.Name x p1) X.env := by rfl)
    (hfew : ((backTo p (starEach [b, a] X.env)).all (fun x => !x.1) && (backToKw p (keywordEach [] X.env)).all (fun x => x.1.isSome) && decide ([b, a].length + ([] : List Keyword).length + (if ([] : List Keyword).isEmpty then 0 else 1) < 30)) = true := by rfl)
    (hline : (p2.endLine == p.line) = true := by rfl) (hs1 : starEach [b, a] X.env = (false, eval b X.env) :: starEach [a] X.env := by rfl) (hs2 : starEach [a] X.env = (false, eval a X.env) :: starEach [] X.env := by rfl) (hplain : (backTo p (starEach [a] X.env)).any (·.1) = false := by rfl)
    (hs : swapsWith (.Call (.Attribute (.Name x p1) "insert" p2) [b, a] [] p) none pos.line X.env = pure false := by rfl) :
    PSM X E W (.Expr (.Call (.Attribute (.Name x p1) "insert" p2) [b, a] [] p) pos) (smIns i mb ma) :=
  PS.imp (ps_expr (pe_bm PySem.F.plainAttrs_list PySem.F.slot_list_insert PySem.F.type_list_insert mt_insert (pe_var hN hv hd hcd) (pa_cons hb (pa_cons ha pa_nil hs2) hs1) hbase hfew hline hs1 hplain) hs) fun D σ H ⟨B, ρ, S, h⟩ => by
    unfold smIns at h
    split at h
    · rename_i ds e
      obtain ⟨l, vs, e1, e2, e3⟩ := S.owl i ds e
      refine ⟨.ref l, e1, .inl ⟨rfl, vs, .of e2⟩, GS.bindE S h fun z tz vz H0 rz s0 S0 h0 => GS.bindE S0 h0 fun y ty vy H1 ry s1 S1 h1 => ?_⟩
      have rpz := (rz.rp S0)
      cases rpz <;> first | exact False.elim h1 | skip
      case int j =>
        have h2 : GS X.K X.mg E W B D (if (ty.free || y.sc) && decide (ds.length < lim) && rgOk j && decide (0 ≤ j) then .ok (.nx (ρ.set i (.ow (ds.take j.toNat ++ [y] ++ ds.drop j.toNat)))) else .bad) := h1
        split at h2
        · rename_i hc
          rw [Bool.and_eq_true, Bool.and_eq_true, Bool.and_eq_true, Bool.or_eq_true, decide_eq_true_eq, decide_eq_true_eq] at hc
          obtain ⟨⟨⟨c1, c2⟩, c3⟩, c4⟩ := hc
          obtain ⟨g1, g2⟩ := rg_ok c3
          have e4 := e3.mono (ar_mono (s0.trans s1))
          refine ⟨l, vs, j, vy, rfl, rfl, (s0.trans s1) _ _ e2, by rw [← e3.length]; exact Nat.lt_of_lt_of_le c2 lim_le, c4, by omega, h2 σ _ ?_⟩
          exact S1.updOw e e1 (((e4.take _).app (.cons (ry.keep S0 s1 c1) .nil)).app (e4.drop _))
        · exact h2.elim
    · exact h.elim
end
end Dm
end

section
set_option Elab.async false
set_option linter.all false
set_option maxRecDepth 100000
set_option maxHeartbeats 4000000
/-! Dm: objects: fields, methods, isinstance; calls without arguments. -/
namespace Dm
open PySem PySem.Spec L2 TL
theorem ofString_inj {a b : String} (h : Str.ofString a = Str.ofString b) : a = b := by
  rw [Str.ofString_eq_toList, Str.ofString_eq_toList] at h
  injection h with h
  have h2 : a.toList.map Char.toNat = b.toList.map Char.toNat := by
    have := congrArg Array.toList h
    simpa using this
  have inj : ∀ (x y : List Char), x.map Char.toNat = y.map Char.toNat → x = y := by
    intro x
    induction x with
    | nil => intro y e; cases y with
      | nil => rfl
      | cons _ _ => simp at e
    | cons c x ih =>
      intro y e
      cases y with
      | nil => simp at e
      | cons d y =>
        simp only [List.map_cons, List.cons.injEq] at e
        rw [ih y e.2, Char.toNat_inj.mp e.1]
  exact String.toList_inj.mp (inj _ _ h2)
theorem fGet_val {K : PySem.W.Frag} {mg : Str → Option Value} {G : Hp} (f : String) : ∀ {ns : List String} {ds : List D} {vs : List V}, vs.length = ns.length → Reps K mg G ds vs →
    (∀ d, fGet ns ds f = some d → ∃ v, ((ns.map Str.ofString).zip vs).lookup (f : Str) = some v ∧ Rep K mg G d v) ∧ (fGet ns ds f = none → ((ns.map Str.ofString).zip vs).lookup (f : Str) = none)
  | [], ds, vs, hl, r => ⟨(fun d e => by
      have e' : (none : Option D) = some d := by rw [← e]; cases ds <;> rfl
      cases e'), fun _ => rfl⟩
  | n :: ns, ds, vs, hl, r => by
    cases r with
    | nil => simp at hl
    | cons r1 r2 =>
      rename_i d1 v1 ds vs
      obtain ⟨q1, q2⟩ := fGet_val f (ns := ns) (ds := ds) (vs := vs) (by simpa using hl) r2
      by_cases hn : n = f
      · subst hn
        refine ⟨fun d e => ?_, fun e => ?_⟩
        · have e' : (if n = n then some d1 else fGet ns ds n) = some d := e
          rw [if_pos rfl] at e'
          cases e'
          exact ⟨v1, by simp [List.lookup], r1⟩
        · have e' : (if n = n then some d1 else fGet ns ds n) = none := e
          rw [if_pos rfl] at e'
          cases e'
      · have hne : ((f : Str) == Str.ofString n) = false := by
          rw [beq_eq_false_iff_ne]
          intro z
          exact hn (ofString_inj z).symm
        have e0 : (((n :: ns).map Str.ofString).zip (v1 :: vs)).lookup (f : Str) = ((ns.map Str.ofString).zip vs).lookup (f : Str) := by
          rw [List.map_cons, List.zip_cons_cons, List.lookup_cons, hne]
        rw [e0]
        have e1 : fGet (n :: ns) (d1 :: ds) f = fGet ns ds f := if_neg hn
        rw [e1]
        exact ⟨q1, q2⟩
/-- a class of the program whose objects are plain; f is no attribute of the class -/
def ClsA (K : PySem.W.Frag) (mg : Str → Option Value) (f : String) (C : String) : Prop := ∃ c : Addr, mg (C : Str) = some (.ref c) ∧ Cls K c ∧ NoAttr K c (f : Str)
/-- a method of a class -/
structure MethOk (P : Program) (w : World) (K : PySem.W.Frag) (mg : Str → Option Value) (base : Heap) (b : Bool) (C m : String) (k : Nat) (n : Nat) (g : FM) : Prop where
  ex : ∃ (c f : Addr) (fd : FuncData) (ps : List Str), mg (C : Str) = some (.ref c) ∧ Cls K c ∧ Meth K c (m : Str) f ∧ Binds K fd ps [] ∧ FnOk P w K mg base (CXm b P w) k f fd ps (spM K mg n g)
/-- a class whose objects isinstance asks rightly -/
def ClsI (K : PySem.W.Frag) (mg : Str → Option Value) (C : String) : Prop := ∃ c : Addr, mg (C : Str) = some (.ref c) ∧ Cls K c ∧ PySem.W.findIn K (.ref c) "__class__" = some (some (.builtin "object.__class__")) ∧
  PySem.W.specialIn K (.builtin "object.__class__") "__get__" = some (some (.builtin "getset_descriptor.__get__")) ∧ PySem.W.takesIn K (.builtin "object.__class__") = some true ∧ PySem.W.mroIn K c (.type "object") = some true
section
variable {X : Cx} {E : ExE} {W : WX} {pos p : Pos} {a e o : Expr} {ma mo : EM} {es : List Expr} {am : AM}
theorem pm_fld {Cs : List String} {f : String} (h : ∀ C ∈ Cs, ClsA X.K X.mg f C) (ha : PM X E W a ma) (hb : attributeBase a (f : Str) X.env (eval a X.env) = eval a X.env := by rfl) : PM X E W (.Attribute a (f : Str) pos) (mFld Cs f ma) :=
  PE.imp (pe_fld ha hb) fun σ H Q ⟨B, ρ, S, hh⟩ => GM.bind S hh fun x tx vx H1 rx e1 S1 h1 => by
    have rp := rx.rp S1
    cases rp <;> first | exact h1.elim | skip
    case obj C c q dx ns ds vs hm hq hl r =>
      replace h1 : GM X.K X.mg W B ρ σ H1 (if Cs.contains C then (match fGet ns ds f with | some d => .ok (d, .cl) | none => .bad) else .bad) Q := h1
      by_cases hC : Cs.contains C = true
      · rw [if_pos hC] at h1
        obtain ⟨c', m', cl, na⟩ := h C (by simpa using hC)
        rw [hm] at m'
        cases m'
        cases ef : fGet ns ds f with
        | none => rw [ef] at h1; exact h1.elim
        | some d =>
          rw [ef] at h1
          obtain ⟨v, e2, e3⟩ := (fGet_val f hl r).1 d ef
          exact ⟨q, c, dx, _, v, rfl, hq, cl, na, e2, GM.pure h1 e3⟩
      · rw [if_neg hC] at h1
        exact h1.elim
/-! methods -/
def tMethSD (C : Addr) (m : Str) (sp : Sp) (E : St → XK) (ta : TE) (t : TA) : TE := fun σ H Q => ta σ H fun x H1 => ∃ a dx fs, x = .ref a ∧ H1 a = some (.ins C dx fs) ∧ fs.lookup m = none ∧ t σ H1 fun vs H2 => sp (x :: vs) H2 Q (E σ)
theorem pe_methSD {CX : CXT} {k : Nat} {C f : Addr} {fd : FuncData} {ps : List Str} {sp : Sp} {E : St → XK} {m : Str} {apos : Pos} {ta : TE} {t : TA} {pl : Sem Bool} (he : PE X o ta) (c : Cls X.K C) (hm : Meth X.K C m f) (F : FnOk X.prog X.w X.K X.mg X.base CX k f fd ps sp) (hr : Room k X.A) (hb : Binds X.K fd ps [])
    (hx : ∀ σ, PassesAt CX X σ (E σ)) (ha : PA X (e :: es) t)
    (hst : starEach (e :: es) X.env = (false, eval e X.env) :: starEach es X.env := by rfl) (hpl : (backTo pos (starEach es X.env)).any (·.1) = false := by rfl)
    (ht : eval (.Call (.Attribute o m apos) (e :: es) [] pos) X.env = (do
      let ov ← eval o X.env
      standAt apos.atName
      let (f, first) ← holding [ov] (getMethod ov m pl)
      callWith pos f first (backTo pos (starEach (e :: es) X.env)) (backToKw pos (keywordEach [] X.env))) := by rfl) :
    PE X (.Call (.Attribute o m apos) (e :: es) [] pos) (tMethSD C m sp E ta t) := by
  refine ⟨fun pins s σ H Q I h => ?_⟩
  refine PySem.W.methodCall_KW (pl := pl) (thn (he.run pins s σ H _ I h) fun u s1 ⟨x, H1, I1, rx, a, dx, fs, ex, ea, l, q⟩ => ?_) ht
  subst ex
  obtain rfl : u = Value.ref a := rx
  refine getmeth_ok I1 ea c hm l ?_
  refine PySem.W.callWith_K (first := [.ref a]) (h₀ := X.base) I.ok.mod.kin hm.kp (thn (ha.run pos pins s1 σ H1 _ I1 q) fun us s2 ⟨vs, H2, I2, r, q2⟩ => ⟨I2.kIn, ?_⟩) hst hpl
  exact run_fnS (us := .ref a :: us) (vs := .ref a :: vs) F hr hb (hx σ) I2 (.cons rfl r) q2
theorem pe_methSD0 {CX : CXT} {k : Nat} {C f : Addr} {fd : FuncData} {ps : List Str} {sp : Sp} {E : St → XK} {m : Str} {apos : Pos} {ta : TE} {pl : Sem Bool} (he : PE X o ta) (c : Cls X.K C) (hm : Meth X.K C m f) (F : FnOk X.prog X.w X.K X.mg X.base CX k f fd ps sp) (hr : Room k X.A) (hb : Binds X.K fd ps [])
    (hx : ∀ σ, PassesAt CX X σ (E σ))
    (ht : eval (.Call (.Attribute o m apos) [] [] pos) X.env = (do
      let ov ← eval o X.env
      standAt apos.atName
      let (f, first) ← holding [ov] (getMethod ov m pl)
      callWith pos f first (backTo pos (starEach [] X.env)) (backToKw pos (keywordEach [] X.env))) := by rfl) :
    PE X (.Call (.Attribute o m apos) [] [] pos) (tMethSD C m sp E ta tNil) := by
  refine ⟨fun pins s σ H Q I h => ?_⟩
  refine PySem.W.methodCall_KW (pl := pl) (thn (he.run pins s σ H _ I h) fun u s1 ⟨x, H1, I1, rx, a, dx, fs, ex, ea, l, q⟩ => ?_) ht
  subst ex
  obtain rfl : u = Value.ref a := rx
  refine getmeth_ok I1 ea c hm l ?_
  exact PySem.W.callWith_K0 (first := [.ref a]) I1.kIn hm.kp (run_fnS (us := [.ref a]) (vs := [.ref a]) F hr hb (hx σ) I1 (.cons rfl .nil) q)
/-- the method by the object's class -/
theorem meth_read {b : Bool} {k n : Nat} {m : String} {tbl : List (String × FM)} {t : TA} (hne : ∀ C g, tbl.lookup C = some g → MethOk X.prog X.w X.K X.mg X.base b C m k (n + 1) g) (hn : AMn am n)
    {σ : St} {H : Hp} {Q : VK} (ht : ∀ σ H R, tA X.K X.mg E W am σ H R → t σ H R) (h : tE X.K X.mg E W (mMeth tbl m mo am) σ H Q) :
    ∃ C g c, tbl.lookup C = some g ∧ X.mg (C : Str) = some (.ref c) ∧ tMethSD c (m : Str) (spM X.K X.mg (n + 1) g) (WE W) (tE X.K X.mg E W mo) t σ H Q := by
  obtain ⟨B, ρ, S, h⟩ := h
  unfold mMeth at h
  cases em : mo ρ with
  | ex C => rw [em] at h; exact h.elim
  | bad => rw [em] at h; exact h.elim
  | ok x =>
    obtain ⟨d, tx⟩ := x
    rw [em] at h
    cases d <;> first | exact h.elim | skip
    case obj C ns ds =>
      replace h : GM X.K X.mg W B ρ σ H (if fGet ns ds m = none then (match tbl.lookup C with
    | some g => (am ρ).bind fun xs => (g (.obj C ns ds :: xs.map (·.1))).bind fun r => if r.1.sc then .ok (r.1, .cl) else if ((.obj C ns ds, tx) :: xs).all (fun x => x.2.free || x.1.sc) then .ok (r.1, if r.2 then .fr else .cl) else .bad
    | none => .bad) else .bad) Q := h
      by_cases hf : fGet ns ds m = none
      · rw [if_pos hf] at h
        cases el : tbl.lookup C with
        | none => rw [el] at h; exact h.elim
        | some g =>
          rw [el] at h
          obtain ⟨c, f, fd, ps, hm, cl, mt, hb, F⟩ := (hne C g el).ex
          refine ⟨C, g, c, el, hm, B, ρ, S, ?_⟩
          rw [em]
          intro vx H1 e1 rx
          have S1 := S.mono e1
          have rp := rx.rp S1
          generalize hd : D.obj C ns ds = d0 at rp
          cases rp <;> first | (cases hd; done) | skip
          case obj C' c' q dx ns' ds' vs hm' hq hl r =>
            injection hd with z1 z2 z3
            subst z1 z2 z3
            rw [hm] at hm'
            cases hm'
            refine ⟨q, dx, _, rfl, hq, (fGet_val m hl r).2 hf, ht _ _ _ ⟨B, ρ, S1, ?_⟩⟩
            have h1 := (GM.mono h e1).gg
            cases ea : am ρ with
            | ok xs =>
              intro ws H2 e2 rs
              have rs2 : RTs X.K X.mg B ρ σ H H2 ((.obj C ns ds, tx) :: xs) (.ref q :: ws) := .cons (rx.mono e2) (rs.base e1)
              have h0 := h.gg
              rw [ea] at h0
              exact call_read S (e1.trans e2) (S1.mono e2) rs2 (by simp [hn ρ xs ea]) (fun C H' _ w => w) h0
            | ex C => rw [ea] at h1; exact h1
            | bad => rw [ea] at h1; exact h1
      · rw [if_neg hf] at h
        exact h.elim
end
end Dm
end

section
set_option Elab.async false
set_option linter.all false
set_option maxRecDepth 100000
set_option maxHeartbeats 4000000
/-! Dm: how objects are made. -/
namespace Dm
open PySem PySem.Spec L2 TL
theorem setF_ok {K : PySem.W.Frag} {mg : Str → Option Value} {G : Hp} (f : String) {d : D} {v : V} (rd : Rep K mg G d v) : ∀ {ns : List String} {es : List D} {us : List V}, us.length = ns.length → Reps K mg G es us →
    ∃ us' : List V, putF (f : Str) v ((ns.map Str.ofString).zip us) = ((setF ns es f d).1.map Str.ofString).zip us' ∧ us'.length = (setF ns es f d).1.length ∧ Reps K mg G (setF ns es f d).2 us'
  | [], es, us, hl, r => by
    have hu : us = [] := List.eq_nil_of_length_eq_zero hl
    subst hu
    cases r
    exact ⟨[v], rfl, rfl, .cons rd .nil⟩
  | n :: ns, es, us, hl, r => by
    cases r with
    | nil => simp at hl
    | cons r1 r2 =>
    rename_i d1 v1 ds vs
    obtain ⟨us', q1, q2, q3⟩ := setF_ok f rd (ns := ns) (es := ds) (us := vs) (by simpa using hl) r2
    by_cases hn : n = f
    · subst hn
      have e : setF (n :: ns) (d1 :: ds) n d = (n :: ns, d :: ds) := if_pos rfl
      rw [e]
      exact ⟨v :: vs, by simp [putF], by simpa using hl, .cons rd r2⟩
    · have e : setF (n :: ns) (d1 :: ds) f d = (n :: (setF ns ds f d).1, d1 :: (setF ns ds f d).2) := if_neg hn
      have hne : ¬ Str.ofString n = Str.ofString f := fun z => hn (ofString_inj z)
      rw [e]
      refine ⟨v1 :: us', ?_, by simp [q2], .cons r1 q3⟩
      show putF (Str.ofString f) v ((Str.ofString n, v1) :: (ns.map Str.ofString).zip vs) = (Str.ofString n, v1) :: ((setF ns ds f d).1.map Str.ofString).zip us'
      rw [← q1]
      exact if_neg hne
abbrev Bs.ini (G H0 : Hp) (x : Addr) : Bs := ⟨G, H0, fun a => a = x⟩
/-- what an __init__ does to the object -/
def spI (K : PySem.W.Frag) (mg : Str → Option Value) (C : String) (n : Nat) (g : IF) : Sp := fun vs H Q _ => vs.length = n + 1 ∧ ∃ (G H0 : Hp) (x c dx : Addr) (ws us : List V) (ns : List String) (es ds : List D),
  vs = .ref x :: ws ∧ mg (C : Str) = some (.ref c) ∧ Same G H0 ∧ Same H0 H ∧ H0 x = none ∧ H x = some (.ins c dx ((ns.map Str.ofString).zip us)) ∧ us.length = ns.length ∧ Reps K mg G es us ∧ Reps K mg G ds ws ∧
  (match g ds ns es with
   | .ok (ns', es') => ∀ H' us', Same H0 H' → H' x = some (.ins c dx ((ns'.map Str.ofString).zip us')) → us'.length = ns'.length → Reps K mg (ar (Bs.ini G H0 x) [] [] H') es' us' → Q .non H'
   | _ => False)
section
variable {K : PySem.W.Frag} {mg : Str → Option Value} {E : ExE} {W : WX} {B : Bs} {ρ : Rho} {σ : St} {H H1 H2 : Hp}
/-- behind a call that works on a hidden object alone -/
theorem SR.outX (S : SR K mg E B ρ σ H) {x : Addr} (hx : B.X x) {H' : Hp} (s : ∀ b o, b ≠ x → H b = some o → H' b = some o) (hx' : ∃ o, H' x = some o) : SR K mg E B ρ σ H' := by
  have same : Same (ar B ρ σ H) (ar B ρ σ H') := fun b o h => by
    by_cases hb : B.X b ∨ Own ρ σ b
    · rw [ar_out hb] at h; cases h
    · by_cases hn : B.H b = none
      · rw [ar_none hb hn] at h ⊢
        exact s b o (fun z => hb (.inl (z ▸ hx))) h
      · rw [ar_some hb hn] at h ⊢
        exact h
  refine ⟨S.len, fun j d h => ?_, fun j l es h' => ?_, S.dj, S.ex, S.gh, fun b o' h' => ?_, S.new, S.xo, fun b hb => ?_⟩
  · obtain ⟨v, e1, e2⟩ := S.fz j d h
    exact ⟨v, e1, e2.mono same⟩
  · obtain ⟨b, o1, ws, e1, e2, hk, r'⟩ := S.ow j l es h'
    have : b ≠ x := fun z => by
      subst z
      exact S.xo b hx ⟨j, l, es, h', e1⟩
    exact ⟨b, o1, ws, e1, s b _ this e2, hk, r'.mono same⟩
  · have : b ≠ x := fun z => by
      subst z
      rw [S.new b (.inl hx)] at h'
      cases h'
    exact s b _ this (S.bh _ _ h')
  · by_cases e : b = x
    · subst e
      exact hx'
    · obtain ⟨o', q⟩ := S.xt b hb
      exact ⟨o', s b _ e q⟩
def tIni (K : PySem.W.Frag) (mg : Str → Option Value) (E : ExE) (C : String) (m : IM) : TS := fun D σ H => ∃ (B : Bs) (ρ : Rho) (x c dx : Addr) (ns : List String) (es : List Dm.D) (us : List V),
  SR K mg E B ρ σ H ∧ B.X x ∧ σ[0]? = some (some (.ref x)) ∧ mg (C : Str) = some (.ref c) ∧ H x = some (.ins c dx ((ns.map Str.ofString).zip us)) ∧ us.length = ns.length ∧ Reps K mg (ar B ρ σ H) es us ∧
  (match m ρ ns es with
   | .ok (ns', es') => ∀ H' us', SR K mg E B ρ σ H' → H' x = some (.ins c dx ((ns'.map Str.ofString).zip us')) → us'.length = ns'.length → Reps K mg (ar B ρ σ H') es' us' → D.nx σ H'
   | _ => False)
end
section
variable {X : Cx} {E : ExE} {W : WX} {pos pos' p q apos : Pos} {value : Expr} {ma : EM} {C f : String} {sts : List Stmt} {m : IM} {es : List Expr} {am : AM} {slf : Str}
theorem psi_nil : PSs X [] (tIni X.K X.mg E C imNil) := PSs.imp pss_nil fun D σ H ⟨B, ρ, x, c, dx, ns, es, us, S, hx, h0, hm, ho, hl, r, h⟩ => h H us S ho hl r
theorem psi_fld {mo : Bool} (tk : Tks mo X W) (hf : ClsA X.K X.mg f C) (hv : PM X E W value ma) (rest : PSs X sts (tIni X.K X.mg E C m)) (hN : X.N[0]? = some slf := by rfl) (hvs : Vis X.env.scope slf := by first | exact Or.inl rfl | exact Or.inr (Or.inl rfl) | exact Or.inr (Or.inr rfl))
    (hd : (slf == ("__debug__" : Str)) = false := by decide) (hcd : (slf == ("__classdict__" : Str)) = false := by decide) (hs : swapsWith value (some (.Attribute (.Name slf q) (f : Str) pos')) pos.line X.env = pure false := by rfl) :
    PSs X (.Assign [.Attribute (.Name slf q) (f : Str) pos'] value pos :: sts) (tIni X.K X.mg E C (imFld f ma m)) :=
  PSs.imp (pss_cons (ps_fld (pe_var hN hvs hd hcd) hv hs) rest) fun D σ H ⟨B, ρ, x, c, dx, ns, es, us, S, hx, h0, hm, ho, hl, r, h⟩ => by
    obtain ⟨c', m', cl, na⟩ := hf
    rw [hm] at m'
    cases m'
    unfold imFld at h
    show tE X.K X.mg E W ma σ H _
    refine ⟨B, ρ, S, ?_⟩
    cases e : ma ρ with
    | ex C => rw [e] at h; exact h.elim
    | bad => rw [e] at h; exact h.elim
    | ok y =>
      obtain ⟨d, t⟩ := y
      rw [e] at h
      intro v H1 s rt
      replace h : (match (if (t.free || d.sc) && decide (ns.length < 900) then m ρ (setF ns es f d).1 (setF ns es f d).2 else .bad) with
        | .ok (ns', es') => ∀ H' us', SR X.K X.mg E B ρ σ H' → H' x = some (.ins c dx ((ns'.map Str.ofString).zip us')) → us'.length = ns'.length → Reps X.K X.mg (ar B ρ σ H') es' us' → D.nx σ H'
        | _ => False) := h
      by_cases hc : ((t.free || d.sc) && decide (ns.length < 900)) = true
      · rw [if_pos hc] at h
        rw [Bool.and_eq_true, Bool.or_eq_true, decide_eq_true_eq] at hc
        have S1 := S.mono s
        have rd : Rep X.K X.mg (ar B ρ σ H1) d v := rt.keep S s hc.1
        obtain ⟨us', q1, q2, q3⟩ := setF_ok f rd hl (r.mono (ar_mono s))
        refine ⟨.ref x, h0, x, c, dx, _, rfl, s _ _ ho, cl, na, by simp; omega, ?_⟩
        refine ⟨B, ρ, x, c, dx, (setF ns es f d).1, (setF ns es f d).2, us', S1.updX hx, hx, h0, hm, ?_, q2, ?_, h⟩
        · rw [upd_same, q1]
        · rw [ar_upd (.inl hx)]
          exact q3
      · rw [if_neg hc] at h
        exact h.elim
/-! another class's __init__ -/
theorem pe_base {CX : CXT} {k : Nat} {cF fA : Addr} {mc : Value} {fd : FuncData} {ps : List Str} {sp : Sp} {E : St → XK} {x mt : Str} {e : Expr} {es : List Expr} {t : TA} {pl : Sem Bool} (hm : X.mg x = some (.ref cF)) (hrd : PySem.W.readsIn X.K cF mc = true)
    (hga : PySem.W.specialIn X.K (.ref cF) "__getattribute__" = some (some (.builtin "type.__getattribute__"))) (hat : PySem.W.findCls X.K (.ref cF) mc mt = some (.val (.ref fA))) (hkp : PySem.W.keepIn X.K (.ref fA) = true)
    (F : FnOk X.prog X.w X.K X.mg X.base CX k fA fd ps sp) (hr : Room k X.A) (hb : Binds X.K fd ps []) (hx : ∀ σ, PassesAt CX X σ (E σ)) (ha : PA X (e :: es) t) (hg : Gl X x := by rfl) (hdb : (x == ("__debug__" : Str)) = false := by decide)
    (hst : starEach (e :: es) X.env = (false, eval e X.env) :: starEach es X.env := by rfl) (hpl : (backTo pos (starEach es X.env)).any (·.1) = false := by rfl)
    (ht : eval (.Call (.Attribute (.Name x q) mt apos) (e :: es) [] pos) X.env = (do
      let ov ← eval (.Name x q) X.env
      standAt apos.atName
      let (f, first) ← holding [ov] (getMethod ov mt pl)
      callWith pos f first (backTo pos (starEach (e :: es) X.env)) (backToKw pos (keywordEach [] X.env))) := by rfl) :
    PE X (.Call (.Attribute (.Name x q) mt apos) (e :: es) [] pos) (tCallS sp E t) := by
  refine ⟨fun pins s σ H Q I h => ?_⟩
  refine PySem.W.methodCall_KW (pl := pl) (ld_glob I hg hm ?_ hdb) ht
  refine PySem.W.method_cls I.kIn hga (PySem.W.cls_value I.kIn hrd hat rfl ?_)
  have I' := I.tok (s.toks + 1)
  refine PySem.W.callWith_K (first := []) (h₀ := X.base) I'.ok.mod.kin hkp (thn (ha.run pos pins _ σ H _ I' h) fun us s1 ⟨vs, H1, I1, r, q⟩ => ⟨I1.kIn, ?_⟩) hst hpl
  exact run_fnS F hr hb (hx σ) I1 r q
/-- the class whose __init__ is called by its name -/
structure BaseOk (P : Program) (w : World) (K : PySem.W.Frag) (mg : Str → Option Value) (base : Heap) (mo : Bool) (N C : String) (k n : Nat) (g : IF) : Prop where
  ex : ∃ (cF fA : Addr) (mc : Value) (fd : FuncData) (ps : List Str), mg (N : Str) = some (.ref cF) ∧ PySem.W.readsIn K cF mc = true ∧ PySem.W.specialIn K (.ref cF) "__getattribute__" = some (some (.builtin "type.__getattribute__")) ∧
    PySem.W.findCls K (.ref cF) mc "__init__" = some (.val (.ref fA)) ∧ PySem.W.keepIn K (.ref fA) = true ∧ Binds K fd ps [] ∧ FnOk P w K mg base (CXm mo P w) k fA fd ps (spI K mg C n g)
theorem psi_base {mo : Bool} {N : String} {k k' n : Nat} {g : IF} (b : BaseOk X.prog X.w X.K X.mg X.base mo N C k n g) (tk : Tks mo X W) (hr : Room k' X.A) (ha : PMA X E W es am) (hn : AMn am n) (rest : PSs X sts (tIni X.K X.mg E C m)) (hk : k ≤ k' := by decide)
    (hN : X.N[0]? = some slf := by rfl) (hvs : Vis X.env.scope slf := by first | exact Or.inl rfl | exact Or.inr (Or.inl rfl) | exact Or.inr (Or.inr rfl)) (hd : (slf == ("__debug__" : Str)) = false := by decide) (hcd : (slf == ("__classdict__" : Str)) = false := by decide)
    (hg : Gl X (N : Str) := by rfl) (hdb : ((N : Str) == ("__debug__" : Str)) = false := by decide)
    (hst : starEach (.Name slf p :: es) X.env = (false, eval (.Name slf p) X.env) :: starEach es X.env := by rfl) (hpl : (backTo pos' (starEach es X.env)).any (·.1) = false := by rfl) {pl : Sem Bool}
    (ht : eval (.Call (.Attribute (.Name (N : Str) q) "__init__" apos) (.Name slf p :: es) [] pos') X.env = (do
      let ov ← eval (.Name (N : Str) q) X.env
      standAt apos.atName
      let (f, first) ← holding [ov] (getMethod ov "__init__" pl)
      callWith pos' f first (backTo pos' (starEach (.Name slf p :: es) X.env)) (backToKw pos' (keywordEach [] X.env))) := by rfl)
    (hs : swapsWith (.Call (.Attribute (.Name (N : Str) q) "__init__" apos) (.Name slf p :: es) [] pos') none pos.line X.env = pure false := by rfl) :
    PSs X (.Expr (.Call (.Attribute (.Name (N : Str) q) "__init__" apos) (.Name slf p :: es) [] pos') pos :: sts) (tIni X.K X.mg E C (imBase g am m)) := by
  obtain ⟨cF, fA, mc, fd, ps, hm, hrd, hga, hat, hkp, hb, F⟩ := b.ex
  refine PSs.imp (pss_cons (ps_expr (pe_base hm hrd hga hat hkp F (hr.mono hk) hb (E := WE W) tk.pass (pa_cons (pe_var hN hvs hd hcd) ha hst) hg hdb hst hpl ht) hs) rest) fun D σ H ⟨B, ρ, x, c, dx, ns, es, us, S, hx, h0, hmc, ho, hl, r, h⟩ => ?_
  unfold imBase at h
  refine ⟨.ref x, h0, ?_⟩
  show tA X.K X.mg E W am σ H _
  refine ⟨B, ρ, S, ?_⟩
  cases e : am ρ with
  | ex C => rw [e] at h; exact h.elim
  | bad => rw [e] at h; exact h.elim
  | ok xs =>
    rw [e] at h
    intro ws H1 s rs
    replace h : (match ((kept xs).bind fun ds => (noEx (g ds ns es)).bind fun p => m ρ p.1 p.2) with
        | .ok (ns', es') => ∀ H' us', SR X.K X.mg E B ρ σ H' → H' x = some (.ins c dx ((ns'.map Str.ofString).zip us')) → us'.length = ns'.length → Reps X.K X.mg (ar B ρ σ H') es' us' → D.nx σ H'
        | _ => False) := h
    unfold kept at h
    by_cases hf : xs.all (fun x => x.2.free || x.1.sc) = true
    · rw [if_pos hf] at h
      have S1 := S.mono s
      have rk := rs.keep S s (fun y hy => by have := List.all_eq_true.mp hf y hy; simpa using this)
      have hgx : Same (ar B ρ σ H1) (fun b => if b = x then none else H1 b) := fun b o hb => by
        have : b ≠ x := fun z => by
          subst z
          rw [ar_out (.inl hx)] at hb
          cases hb
        show (if b = x then none else H1 b) = some o
        rw [if_neg this]
        exact S1.sub _ _ hb
      refine ⟨by rw [List.length_cons, ← rs.len, hn ρ xs e], ar B ρ σ H1, fun b => if b = x then none else H1 b, x, c, dx, ws, us, ns, es, xs.map (·.1), rfl, hmc, hgx, fun b o hb => ?_, if_pos rfl, s _ _ ho, hl, r.mono (ar_mono s), rk, ?_⟩
      · replace hb : (if b = x then none else H1 b) = some o := hb
        by_cases z : b = x
        · rw [if_pos z] at hb; cases hb
        · rw [if_neg z] at hb; exact hb
      · cases eg : g (xs.map (·.1)) ns es with
        | ex C => rw [Res.bind_ok, eg] at h; exact h.elim
        | bad => rw [Res.bind_ok, eg] at h; exact h.elim
        | ok y =>
          obtain ⟨ns', es'⟩ := y
          rw [Res.bind_ok, eg] at h
          intro H' us' s' hx' hl' r'
          have out : ∀ b o, b ≠ x → H1 b = some o → H' b = some o := fun b o z hb => s' b o (show (if b = x then none else H1 b) = some o by rw [if_neg z]; exact hb)
          have S' := S1.outX hx out ⟨_, hx'⟩
          refine ⟨B, ρ, x, c, dx, ns', es', us', S', hx, h0, hmc, hx', hl', r'.mono fun b o hb => ?_, h⟩
          have hz : ¬ ((Bs.ini (ar B ρ σ H1) (fun b => if b = x then none else H1 b) x).X b ∨ Own [] [] b) := fun z => by
            rw [ar_out z] at hb
            cases hb
          have hbx : b ≠ x := fun z => hz (.inl z)
          by_cases hn1 : H1 b = none
          · have hn0 : (Bs.ini (ar B ρ σ H1) (fun b => if b = x then none else H1 b) x).H b = none := by
              show (if b = x then none else H1 b) = none
              rw [if_neg hbx]; exact hn1
            rw [ar_none hz hn0] at hb
            have hnB : ¬ (B.X b ∨ Own ρ σ b) := fun z => by
              rcases z with z | z
              · obtain ⟨o', q⟩ := S1.xt b z
                rw [hn1] at q; cases q
              · obtain ⟨o', q⟩ := S1.there z
                rw [hn1] at q; cases q
            have hBH : B.H b = none := by
              cases eb : B.H b with
              | none => rfl
              | some o' =>
                have := S1.bh _ _ eb
                rw [hn1] at this; cases this
            rw [ar_none hnB hBH]
            exact hb
          · have hn0 : ¬ (Bs.ini (ar B ρ σ H1) (fun b => if b = x then none else H1 b) x).H b = none := by
              show ¬ (if b = x then none else H1 b) = none
              rw [if_neg hbx]; exact hn1
            rw [ar_some hz hn0] at hb
            have hb' : ar B ρ σ H1 b = some o := hb
            have hnB : ¬ (B.X b ∨ Own ρ σ b) := fun z => by
              rw [ar_out z] at hb'
              cases hb'
            by_cases hBH : B.H b = none
            · rw [ar_none hnB hBH] at hb' ⊢
              exact out b o hbx hb'
            · rw [ar_some hnB hBH] at hb' ⊢
              exact hb'
    · rw [if_neg hf] at h
      exact h.elim
end
/-! the rule of an __init__ -/
theorem start_ini {K : PySem.W.Frag} {mg : Str → Option Value} {G H0 H : Hp} {x : Addr} {ds : List Dm.D} {ws : List V} (gh : Same G H0) (h0 : H0 x = none) (hH : Same H0 H) (hx : ∃ o, H x = some o) (r : Reps K mg G ds ws) :
    SR K mg none (Bs.ini G H0 x) (.no :: ds.map .fz) (some (.ref x) :: ws.map some) H := by
  have hl := r.length
  have noow : ∀ {i : Nat} {l : OwK} {es : List Dm.D}, ¬ (Sl.no :: ds.map Sl.fz)[i]? = some (.oo l es) := fun {i l es} h => by
    cases i with
    | zero => cases h
    | succ i =>
      rw [List.getElem?_cons_succ, List.getElem?_map] at h
      cases e : ds[i]? with
      | none => rw [e] at h; cases h
      | some d => rw [e] at h; cases h
  have noOwn : ∀ b, ¬ Own (Sl.no :: ds.map Sl.fz) (some (.ref x) :: ws.map some) b := fun b ⟨i, l, es, h, _⟩ => noow h
  have same : Same G (ar (Bs.ini G H0 x) (Sl.no :: ds.map Sl.fz) (some (.ref x) :: ws.map some) H) := fun b o h => by
    have hb0 := gh _ _ h
    have hbx : b ≠ x := fun z => by
      subst z
      rw [h0] at hb0
      cases hb0
    rw [ar_some (fun z => z.elim (fun q => hbx q) (noOwn b)) (by show ¬ H0 b = none; rw [hb0]; simp)]
    exact h
  refine ⟨by simp [hl], fun i d h => ?_, fun i k es h => absurd h noow, fun i j a k l es fs h => absurd h noow, fun i C h => ?_, gh, hH, fun a z => ?_, fun a _ => noOwn a, fun a z => ?_⟩
  · cases i with
    | zero => cases h
    | succ i =>
      rw [List.getElem?_cons_succ, List.getElem?_map] at h
      obtain ⟨d', e1, e2⟩ := Option.map_eq_some_iff.mp h
      cases e2
      obtain ⟨v, q1, q2⟩ := r.get e1
      exact ⟨v, by rw [List.getElem?_cons_succ, List.getElem?_map, q1]; rfl, q2.mono same⟩
  · cases i with
    | zero => cases h
    | succ i =>
      rw [List.getElem?_cons_succ, List.getElem?_map] at h
      obtain ⟨d', e1, e2⟩ := Option.map_eq_some_iff.mp h
      cases e2
  · rcases z with z | z
    · exact z ▸ h0
    · exact absurd z (noOwn a)
  · exact z ▸ hx
/-- a def whose defaults may be written -/
structure FunD (K : PySem.W.Frag) (x qual : Str) (st : Stmt) (f : Addr) (fd : FuncData) : Prop where
  ex : ∃ (oc : Value) (od : Option Addr) (dV kV doc pm : Value) (an : Option Addr) (cdv ct : Value) (osl : Array (Option Value)),
    fd = PySem.W.fnOf x qual (defArgs st) (defBody st) (defScope st) dV kV doc pm an cdv ct ∧ K.lookup f = some ⟨oc, od, .func fd, osl⟩ ∧ PySem.W.codeIn K cdv qual = true
  kp : PySem.W.keepIn K (.ref f) = true
theorem FunD.binds {K : PySem.W.Frag} {x qual : Str} {st : Stmt} {f : Addr} {fd : FuncData} {ps : List Str} (F : FunD K x qual st f fd)
    (h : ∀ (dV kV doc pm : Value) (an : Option Addr) (cdv ct : Value) (us : List Value), us.length = ps.length → bindArgs (PySem.W.fnOf x qual (defArgs st) (defBody st) (defScope st) dV kV doc pm an cdv ct) ⟨us, []⟩ = pure (ps.zip us)) : Binds K fd ps [] := by
  obtain ⟨oc, od, dV, kV, doc, pm, an, cdv, ct, osl, rfl, lk, hcd⟩ := F.ex
  exact .all (h dV kV doc pm an cdv ct)
theorem fund_mk {K : PySem.W.Frag} {x qual : Str} {st : Stmt} {f : Addr} {oc : Value} {od an : Option Addr} {osl : Array (Option Value)} {dV kV doc pm cdv ct : Value} (l : K.lookup f = some ⟨oc, od, .func (PySem.W.fnOf x qual (defArgs st) (defBody st) (defScope st) dV kV doc pm an cdv ct), osl⟩)
    (c : PySem.W.codeIn K cdv qual = true) (k : PySem.W.keepIn K (.ref f) = true) : FunD K x qual st f (PySem.W.fnOf x qual (defArgs st) (defBody st) (defScope st) dV kV doc pm an cdv ct) := ⟨⟨oc, od, dV, kV, doc, pm, an, cdv, ct, osl, rfl, l, c⟩, k⟩
theorem fn_i {CX : CXT} {P : Program} {w : World} {K : PySem.W.Frag} {mg : Str → Option Value} {base : Heap} {x qual : Str} {st : Stmt} {f : Addr} {fd : FuncData} {N ps : List Str} {k np : Nat} {C : String} {m : IM} (F : FunD K x qual st f fd) (S : FnScope N ps (defScope st)) (hps : ps.length = np + 1) (hN : N.length = np + 1)
    (hbody : ∀ (cdv : Value) (A : Around) (outer : List Env) (s : Shared) (H : Hp) (E : XK), Room k (A.deeper (PyProof.Rows.envOfC qual (defScope st) s.heap.objs.size f cdv)) →
      PSs (cxOf CX P w K mg base N qual (defScope st) f cdv A outer s H E) (defBody st) (tIni K mg none C m)) :
    FnOk P w K mg base CX (k + 1) f fd ps (spI K mg C np (mInit np m)) := by
  obtain ⟨oc, od, dV, kV, doc, pm, an, cdv, ct, osl, rfl, lk, hcd⟩ := F.ex
  refine fn_of lk hcd S (fun vs H Q E h => by rw [hps]; exact h.1) (fun A outer s H vs Q E hr h => ?_)
  obtain ⟨hl, G, H0, x, c, dx, ws, us, ns, es, ds, rfl, hm, gh, hH, h0, ho, hlu, r, rd, h⟩ := h
  refine ⟨_, hbody cdv A outer s H E hr, Bs.ini G H0 x, .no :: ds.map .fz, x, c, dx, ns, es, us, ?_, rfl, ?_, hm, ho, hlu, ?_, ?_⟩
  · have : L2.start N (V.ref x :: ws) = some (.ref x) :: ws.map some := by
      unfold L2.start
      rw [hN, hl]
      simp
    rw [this]
    exact start_ini gh h0 hH ⟨_, ho⟩ rd
  · rfl
  · refine r.mono fun b o hb => ?_
    have hb0 := gh _ _ hb
    have hbx : b ≠ x := fun z => by
      subst z
      rw [h0] at hb0
      cases hb0
    have noO : ¬ Own (Sl.no :: ds.map Sl.fz) (L2.start N (V.ref x :: ws)) b := fun ⟨i, l, fs, z1, _⟩ => by
      cases i with
      | zero => cases z1
      | succ i =>
        rw [List.getElem?_cons_succ, List.getElem?_map] at z1
        cases e : ds[i]? with
        | none => rw [e] at z1; cases z1
        | some d => rw [e] at z1; cases z1
    rw [ar_some (fun z => z.elim (fun q => hbx q) noO) (by show ¬ H0 b = none; rw [hb0]; simp)]
    exact hb
  · unfold mInit at h
    rw [if_pos (by rw [rd.length]; simpa using hl)] at h
    cases e : m (.no :: ds.map .fz) ns es with
    | ex C => rw [e] at h; exact h.elim
    | bad => rw [e] at h; exact h.elim
    | ok y =>
      obtain ⟨ns', es'⟩ := y
      rw [e] at h
      intro H' us' S' hx' hl' r'
      refine h H' us' S'.bh hx' hl' (r'.mono fun b o hb => ?_)
      have hz : ¬ ((Bs.ini G H0 x).X b ∨ Own (Sl.no :: ds.map Sl.fz) (L2.start N (V.ref x :: ws)) b) := fun z => by
        rw [ar_out z] at hb
        cases hb
      have hz' : ¬ ((Bs.ini G H0 x).X b ∨ Own [] [] b) := fun z => z.elim (fun q => hz (.inl q)) own_nil
      by_cases hn : (Bs.ini G H0 x).H b = none
      · rw [ar_none hz hn] at hb
        rw [ar_none hz' hn]
        exact hb
      · rw [ar_some hz hn] at hb
        rw [ar_some hz' hn]
        exact hb

section
variable {X : Cx} {E : ExE} {W : WX} {pos p q apos : Pos} {a e o : Expr} {mo : EM} {C : String} {es : List Expr} {am : AM}
/-! C(..) -/
structure MakeOk (P : Program) (w : World) (K : PySem.W.Frag) (mg : Str → Option Value) (base : Heap) (b : Bool) (C : String) (k n : Nat) (g : IF) : Prop where
  ex : ∃ (c f : Addr) (fd : FuncData) (ps : List Str), mg (C : Str) = some (.ref c) ∧ Mk K c f ∧ Binds K fd ps [] ∧ FnOk P w K mg base (CXm b P w) k f fd ps (spI K mg C n g)
theorem run_makeS {CX : CXT} {k : Nat} {c f : Addr} {fd : FuncData} {ps : List Str} {sp : Sp} {E : XK} {pins : List (Addr × Obj)} {σ : St} {H : Hp} {s : Shared} {Q : VK} {us : List Value} {vs : List V} (M : Mk X.K c f) (F : FnOk X.prog X.w X.K X.mg X.base CX k f fd ps sp) (hr : Room (k + 1) X.A) (hb : Binds X.K fd ps [])
    (hx : PassesAt CX X σ E) (I : Inv X pins σ H s) (r : Vals vs us)
    (h : ∀ x dx, H x = none → H dx = none → dx ≠ x → sp (.ref x :: vs) (upd (upd H dx (.own x)) x (.ins c dx [])) (fun v H2 => v = .non ∧ Q (.ref x) H2) E) :
    wpAny (model X.prog X.w) X.A (call (.ref c) us) (EP X pins σ Q) X.xe s := by
  have hq := h (s.heap.objs.size + 1) s.heap.objs.size (I.hok.fresh (Nat.le_succ _)) (I.hok.fresh (Nat.le_refl _)) (Nat.ne_of_lt (Nat.lt_succ_self _))
  have I2 := Inv.made (C := c) I
  have r2 : Vals (V.ref (s.heap.objs.size + 1) :: vs) (Value.ref (s.heap.objs.size + 1) :: us) := .cons rfl r
  have hl : (Value.ref (s.heap.objs.size + 1) :: us).length = ps.length := by
    have e := r2.length
    rw [F.len _ _ _ _ hq] at e
    exact e.symm
  have b := hb _ (Value.ref (s.heap.objs.size + 1) :: us) I2.kIn (by rw [List.append_nil]; exact hl)
  rw [List.append_nil] at b
  refine wpAny_call (make_map (f := f) I.kIn M.makes M.init (beq_iff_eq.mp M.fn) (codeAny_mono (F.run _ X.stack _ _ ⟨Value.ref (s.heap.objs.size + 1) :: us, []⟩ (Value.ref (s.heap.objs.size + 1) :: us) _ _ E (hr.make c us [])
    (I2.env0.make c us []) b r2 hq) fun r s' hq' => ?_))
  cases r with
  | error e => exact hx pins _ _ e s' I2 hq'
  | ok fl =>
    cases fl with
    | ret u =>
      obtain ⟨v, H', I3, rv, ev, q3⟩ := I2.after hq'
      subst ev
      exact ⟨rv, ⟨V.ref (s.heap.objs.size + 1), H', I3, rfl, q3⟩⟩
    | next => exact False.elim hq'
    | brk => exact False.elim hq'
    | cont => exact False.elim hq'
theorem pm_make {b : Bool} {k k' n : Nat} {g : IF} (M : MakeOk X.prog X.w X.K X.mg X.base b C k n g) (tk : Tks b X W) (hr : Room k' X.A) (ha : PMA X E W (e :: es) am) (hn : AMn am n) (hk : k + 1 ≤ k' := by decide) (hg : Gl X (C : Str) := by rfl) (hdb : ((C : Str) == ("__debug__" : Str)) = false := by decide)
    (he : starEach (e :: es) X.env = (false, eval e X.env) :: starEach es X.env := by rfl) (hpl : (backTo pos (starEach es X.env)).any (·.1) = false := by rfl) :
    PM X E W (.Call (.Name (C : Str) p) (e :: es) [] pos) (mMake C g am) := by
  obtain ⟨c, f, fd, ps, hm, Mk, hb, F⟩ := M.ex
  refine ⟨fun pins s σ H Q I h => ?_⟩
  refine wpAny_Call_Name_kw (ld_glob I hg hm ?_ hdb)
  obtain ⟨B, ρ, S, h⟩ := h
  have hta : tA X.K X.mg E W am σ H fun vs H1 => ∀ x dx, H1 x = none → H1 dx = none → dx ≠ x → spI X.K X.mg C n g (.ref x :: vs) (upd (upd H1 dx (.own x)) x (.ins c dx [])) (fun v H2 => v = .non ∧ Q (.ref x) H2) (WE W σ) := by
    refine ⟨B, ρ, S, ?_⟩
    replace h := h.gg
    unfold mMake at h
    cases ea : am ρ with
    | ex C => rw [ea] at h; exact h
    | bad => rw [ea] at h; exact h
    | ok xs =>
      rw [ea] at h
      intro ws H1 s1 rs x dx hx hdx hne
      rw [Res.bind_ok] at h
      unfold kept at h
      by_cases hf : xs.all (fun x => x.2.free || x.1.sc) = true
      · rw [if_pos hf, Res.bind_ok] at h
        have S1 := S.mono s1
        have rk := rs.keep S s1 (fun y hy => by have := List.all_eq_true.mp hf y hy; simpa using this)
        have sU : Same H1 (upd (upd H1 dx (.own x)) x (.ins c dx [])) := (Same.upd hdx).trans (Same.upd (by rw [upd_ne (fun z => hne z.symm)]; exact hx))
        refine ⟨by rw [List.length_cons, ← rs.len, hn ρ xs ea], ar B ρ σ H1, H1, x, c, dx, ws, [], [], [], xs.map (·.1), rfl, hm, S1.sub, sU, hx, upd_same, rfl, .nil, rk, ?_⟩
        cases eg : g (xs.map (·.1)) [] [] with
        | ex C => rw [eg] at h; exact h.elim
        | bad => rw [eg] at h; exact h.elim
        | ok y =>
          obtain ⟨ns', es'⟩ := y
          rw [eg] at h
          intro H' us' s' hx' hl' r'
          refine ⟨rfl, ?_⟩
          have sH : Same H H' := s1.trans s'
          refine h (.ref x) H' sH ⟨x, _, .ins C ns', es', us', rfl, rfl, s1.free hx, hx', ?_, ?_⟩
          · exact ⟨c, dx, hm, hl', rfl⟩
          · refine r'.mono fun b o hb => ?_
            have hz : ¬ ((Bs.ini (ar B ρ σ H1) H1 x).X b ∨ Own [] [] b) := fun z => by
              rw [ar_out z] at hb
              cases hb
            have hbx : b ≠ x := fun z => hz (.inl z)
            by_cases hn1 : H1 b = none
            · have hn0 : (Bs.ini (ar B ρ σ H1) H1 x).H b = none := hn1
              rw [ar_none hz hn0] at hb
              have hnB : ¬ ((B.add x).X b ∨ Own ρ σ b) := fun z => by
                rcases z with (z | z) | z
                · exact hbx z
                · obtain ⟨o', q⟩ := S1.xt b z
                  rw [hn1] at q; cases q
                · obtain ⟨o', q⟩ := S1.there z
                  rw [hn1] at q; cases q
              have hBH : (B.add x).H b = none := by
                show B.H b = none
                cases eb : B.H b with
                | none => rfl
                | some o' =>
                  have := S1.bh _ _ eb
                  rw [hn1] at this; cases this
              rw [ar_none hnB hBH]
              exact hb
            · have hn0 : ¬ (Bs.ini (ar B ρ σ H1) H1 x).H b = none := hn1
              rw [ar_some hz hn0] at hb
              have hb' : ar B ρ σ H1 b = some o := hb
              have hnB : ¬ (B.X b ∨ Own ρ σ b) := fun z => by
                rw [ar_out z] at hb'
                cases hb'
              have hnB' : ¬ ((B.add x).X b ∨ Own ρ σ b) := fun z => by
                rcases z with (z | z) | z
                · exact hbx z
                · exact hnB (.inl z)
                · exact hnB (.inr z)
              by_cases hBH : B.H b = none
              · rw [ar_none hnB hBH] at hb'
                rw [ar_none hnB' hBH]
                exact s' _ _ hb'
              · rw [ar_some hnB hBH] at hb'
                rw [ar_some hnB' hBH]
                exact hb'
      · rw [if_neg hf] at h
        exact h.elim
  refine PySem.W.callWith_K (h₀ := X.base) I.ok.mod.kin Mk.kp (thn (ha.run pos pins s σ H _ I hta) fun us s1 ⟨vs, H1, I1, r, q⟩ => ⟨I1.kIn, ?_⟩) he hpl
  exact run_makeS Mk F (hr.mono hk) hb (tk.pass σ) I1 r q
/-! o.m(..) -/
theorem pm_meth {b : Bool} {k k' n : Nat} {m : String} {tbl : List (String × FM)} {pl : Sem Bool} (hne : ∀ C g, tbl.lookup C = some g → MethOk X.prog X.w X.K X.mg X.base b C m k (n + 1) g) (tk : Tks b X W) (hr : Room k' X.A) (ho : PM X E W o mo) (ha : PMA X E W (e :: es) am) (hn : AMn am n) (hk : k ≤ k' := by decide)
    (hst : starEach (e :: es) X.env = (false, eval e X.env) :: starEach es X.env := by rfl) (hpl : (backTo pos (starEach es X.env)).any (·.1) = false := by rfl)
    (ht : eval (.Call (.Attribute o (m : Str) apos) (e :: es) [] pos) X.env = (do
      let ov ← eval o X.env
      standAt apos.atName
      let (f, first) ← holding [ov] (getMethod ov (m : Str) pl)
      callWith pos f first (backTo pos (starEach (e :: es) X.env)) (backToKw pos (keywordEach [] X.env))) := by rfl) :
    PM X E W (.Call (.Attribute o (m : Str) apos) (e :: es) [] pos) (mMeth tbl m mo am) := by
  refine ⟨fun pins s σ H Q I h => ?_⟩
  obtain ⟨C, g, c, el, hm, hq⟩ := meth_read (t := tA X.K X.mg E W am) hne hn (fun _ _ _ h => h) h
  obtain ⟨c', f, fd, ps, hm', cl, mt, hb, F⟩ := (hne C g el).ex
  rw [hm] at hm'
  cases hm'
  exact (pe_methSD (E := WE W) ho cl mt F (hr.mono hk) hb tk.pass ha hst hpl ht).run pins s σ H Q I hq
theorem pm_meth0 {b : Bool} {k k' : Nat} {m : String} {tbl : List (String × FM)} {pl : Sem Bool} (hne : ∀ C g, tbl.lookup C = some g → MethOk X.prog X.w X.K X.mg X.base b C m k 1 g) (tk : Tks b X W) (hr : Room k' X.A) (ho : PM X E W o mo) (hk : k ≤ k' := by decide)
    (ht : eval (.Call (.Attribute o (m : Str) apos) [] [] pos) X.env = (do
      let ov ← eval o X.env
      standAt apos.atName
      let (f, first) ← holding [ov] (getMethod ov (m : Str) pl)
      callWith pos f first (backTo pos (starEach [] X.env)) (backToKw pos (keywordEach [] X.env))) := by rfl) :
    PM X E W (.Call (.Attribute o (m : Str) apos) [] [] pos) (mMeth tbl m mo amNil) := by
  refine ⟨fun pins s σ H Q I h => ?_⟩
  obtain ⟨C, g, c, el, hm, hq⟩ := meth_read (t := tNil) hne amn_nil (fun σ H R ⟨B, ρ, S, h⟩ => h [] H (Same.refl H) .nil) h
  obtain ⟨c', f, fd, ps, hm', cl, mt, hb, F⟩ := (hne C g el).ex
  rw [hm] at hm'
  cases hm'
  exact (pe_methSD0 (E := WE W) ho cl mt F (hr.mono hk) hb tk.pass ht).run pins s σ H Q I hq
/-! f() -/
theorem pm_def0 {b : Bool} {k k' : Nat} {g : FM} {x : Str} (G : DefOk X.prog X.w X.K X.mg X.base b x k 0 g) (tk : Tks b X W) (hr : Room k' X.A) (hk : k ≤ k' := by decide) (hg : Gl X x := by rfl) (hdb : (x == ("__debug__" : Str)) = false := by decide) :
    PM X E W (.Call (.Name x p) [] [] pos) (mCall g amNil) := by
  obtain ⟨f, fd, ps, hm, hkp, hb, F⟩ := G.ex
  refine ⟨fun pins s σ H Q I ⟨B, ρ, S, h⟩ => ?_⟩
  refine wpAny_Call_Name_kw (ld_glob I hg hm ?_ hdb)
  refine PySem.W.callWith_K0 I.kIn hkp (run_fnS (us := []) (vs := []) F (hr.mono hk) hb (tk.pass σ) I .nil ?_)
  exact call_read S (Same.refl H) S .nil rfl (fun C H' _ w => w) h.gg

/-! a, b, c = x, y, z -/
theorem psm_par3 (i j l : Nat) {x y z : Str} {am : AM} {c d e : Expr} {px py pz pt : Pos} {kt k2 pt2} (hN : X.N.Nodup) (ha : PMA X E W [c, d, e] am) (hi : X.N[i]? = some x := by rfl) (hj : X.N[j]? = some y := by rfl) (hl : X.N[l]? = some z := by rfl) (hij : i ≠ j := by decide) (hil : i ≠ l := by decide) (hjl : j ≠ l := by decide) (hc : X.calm = true := by rfl)
    (hx : X.env.scope.names.lookup x = some .local := by rfl) (hy : X.env.scope.names.lookup y = some .local := by rfl) (hz : X.env.scope.names.lookup z = some .local := by rfl)
    (hw : swappedStores [.Tuple [.Name x px, .Name y py, .Name z pz] kt pt] (.Tuple [c, d, e] k2 pt2) X.env = pure (some [x, y, z]) := by rfl)
    (hs : swapsWithSole [.Tuple [.Name x px, .Name y py, .Name z pz] kt pt] (.Tuple [c, d, e] k2 pt2) pos.line X.env = pure false := by rfl) :
    PSM X E W (.Assign [.Tuple [.Name x px, .Name y py, .Name z pz] kt pt] (.Tuple [c, d, e] k2 pt2) pos) (smPar [i, j, l] am) :=
  PS.imp (ps_par3 hc hN hi hj hl hij hil hjl hx hy hz ha hw hs) fun D σ H ⟨B, ρ, S, h⟩ => GS.bindA S h fun xs vs H1 rs e1 S1 h1 => by
    cases ek : kept xs with
    | ok ds =>
      rw [ek] at h1
      obtain ⟨h0, hk⟩ := kept_ok ek
      subst h0
      have r := rs.keep S e1 hk
      have h2 : GS X.K X.mg E W B D ((putAll [i, j, l] (xs.map (·.1)) ρ).bind fun ρ' => .ok (.nx ρ')) := h1
      cases e : putAll [i, j, l] (xs.map (·.1)) ρ with
      | ok ρ' =>
        rw [e] at h2
        obtain ⟨q1, q2⟩ := putAll_ok S1 r e
        match vs, q1, q2 with
        | [v, w, u], _, q2 => exact ⟨v, w, u, rfl, h2 _ H1 q2⟩
      | ex C => rw [e] at h2; exact h2.elim
      | bad => rw [e] at h2; exact h2.elim
    | ex C => rw [ek] at h1; exact h1.elim
    | bad => rw [ek] at h1; exact h1.elim
/-! xs.index(s) -/
theorem isS_rep {K : PySem.W.Frag} {mg : Str → Option Value} {G : Hp} (s : List Nat) : ∀ {ds : List Dm.D} {ys : List V}, Reps K mg G ds ys → ds.all D.isS = true → ys.all flatV = true ∧ ∀ (j : Nat) (d : Dm.D) (z : V), ds[j]? = some d → ys[j]? = some z → eqV z (.str ⟨s.toArray⟩) = D.eqv d (.str s)
  | _, _, .nil, _ => ⟨rfl, fun j d z h _ => by simp at h⟩
  | d :: ds, _, .cons r rs, h => by
    rw [List.all_cons, Bool.and_eq_true] at h
    obtain ⟨q1, q2⟩ := isS_rep s rs h.2
    cases r <;> first | (cases h.1; done) | skip
    case str t =>
      refine ⟨by rw [List.all_cons, q1]; rfl, fun j d z h1 h2 => ?_⟩
      cases j with
      | zero =>
        cases h1
        cases h2
        show ((⟨t.toArray⟩ : Str) == ⟨s.toArray⟩) = (t == s)
        rw [Bool.eq_iff_iff, beq_iff_eq, beq_iff_eq]
        simp
      | succ j => exact q2 j d z h1 h2
theorem pm_idx {a b : Expr} {ma mb : EM} (ha : PM X E W a ma) (hb : PM X E W b mb) (hbase : attributeBase a "index" X.env (eval a X.env) = eval a X.env := by rfl)
    (hfew : ((backTo pos (starEach [b] X.env)).all (fun x => !x.1) && (backToKw pos (keywordEach [] X.env)).all (fun x => x.1.isSome) && decide ([b].length + ([] : List Keyword).length + (if ([] : List Keyword).isEmpty then 0 else 1) < 30)) = true := by rfl)
    (hline : (apos.endLine == pos.line) = true := by rfl) (hs1 : starEach [b] X.env = (false, eval b X.env) :: starEach [] X.env := by rfl) (hplain : (backTo pos (starEach [] X.env)).any (·.1) = false := by rfl) :
    PM X E W (.Call (.Attribute a "index" apos) [b] [] pos) (mIdx ma mb) :=
  PE.imp (pe_bm PySem.F.plainAttrs_list PySem.F.slot_list_index PySem.F.type_list_index mt_index ha (pa_cons hb pa_nil hs1) hbase hfew hline hs1 hplain) fun σ H Q ⟨B, ρ, S, h⟩ => GM.bind S h fun x tx vx H1 rx e1 S1 h1 => by
    have rpx := rx.rp S1
    cases rpx <;> first | exact False.elim h1 | skip
    case lst p ds ys hv r =>
      refine ⟨.inl ⟨rfl, ys, .of hv⟩, GM.bind S1 h1 fun y ty vy H2 ry e2 S2 h2 => ?_⟩
      have rpy := ry.rp S2
      cases rpy <;> first | exact h2.elim | skip
      case str s =>
        replace h2 : GM X.K X.mg W B ρ σ H2 (if ds.all D.isS && decide (ds.length ≤ lim) then (match ds.findIdx? fun d => D.eqv d (.str s) with | some j => .ok (.int j, .cl) | none => .bad) else .bad) Q := h2
        by_cases hc : (ds.all D.isS && decide (ds.length ≤ lim)) = true
        · rw [if_pos hc] at h2
          rw [Bool.and_eq_true] at hc
          obtain ⟨q1, q2⟩ := isS_rep s r hc.1
          cases ef : ds.findIdx? (fun d => D.eqv d (.str s)) with
          | none => rw [ef] at h2; exact h2.elim
          | some j =>
            rw [ef] at h2
            obtain ⟨hj, hj1, hj2⟩ := List.findIdx?_eq_some_iff_getElem.mp ef
            obtain ⟨z, z1, _⟩ := r.get (List.getElem?_eq_getElem hj)
            refine ⟨p, ys, _, j, z, rfl, rfl, .of (e2 _ _ hv), rfl, q1, z1, ?_, fun m z' hm hz' => ?_, GM.sc (d := .int _) h2 (.int _)⟩
            · rw [q2 j _ z (List.getElem?_eq_getElem hj) z1]
              exact hj1
            · have hml : m < ds.length := by omega
              rw [q2 m _ z' (List.getElem?_eq_getElem hml) hz']
              have := hj2 m hm
              simpa using this
        · rw [if_neg hc] at h2
          exact h2.elim

end
theorem binds_all {K : PySem.W.Frag} {fd : FuncData} {T : Addr} {its : List Value} {m : Nat} {cls : Value} {od : Option Addr} {sl : Array (Option Value)} {ps : List Str} (lT : K.lookup T = some ⟨cls, od, .seq its.toArray m, sl⟩)
    (h : ∀ us : List Value, us.length = ps.length → ∃ k : Option (Array Value) → Sem (List (Str × Value)), bindArgs fd ⟨us, []⟩ = seqItems? (.ref T) >>= k ∧ k (some its.toArray) = pure (ps.zip us)) : Binds K fd ps [] := fun s us X hlen => by
  rw [List.append_nil] at hlen ⊢
  obtain ⟨k, e1, e2⟩ := h us hlen
  refine BindsTo.of_looks fun M => ?_
  rw [e1]
  exact looks_items X lT rfl (.of_pure e2)
theorem fnlift {P : Program} {w : World} {K : PySem.W.Frag} {mg : Str → Option Value} {base : Heap} {CX : CXT} {k k' : Nat} {f : Addr} {fd : FuncData} {ps : List Str} {sp : Sp} (F : FnOk P w K mg base CX k f fd ps sp) (h : k ≤ k') : FnOk P w K mg base CX k' f fd ps sp :=
  ⟨F.len, fun A outer s H args us vs Q E hr e0 hb r hsp => F.run A outer s H args us vs Q E (hr.mono h) e0 hb r hsp⟩
theorem MethOk.lift {P : Program} {w : World} {K : PySem.W.Frag} {mg : Str → Option Value} {base : Heap} {b : Bool} {C m : String} {k k' n : Nat} {g : FM} (M : MethOk P w K mg base b C m k n g) (h : k ≤ k' := by decide) : MethOk P w K mg base b C m k' n g := by
  obtain ⟨c, f, fd, ps, hm, cl, mt, hb, F⟩ := M.ex
  exact ⟨c, f, fd, ps, hm, cl, mt, hb, fnlift F h⟩
abbrev MTab (P : Program) (w : World) (K : PySem.W.Frag) (mg : Str → Option Value) (base : Heap) (b : Bool) (m : String) (k n : Nat) (tbl : List (String × FM)) : Prop := ∀ C g, tbl.lookup C = some g → MethOk P w K mg base b C m k n g
theorem mtab_nil {P : Program} {w : World} {K : PySem.W.Frag} {mg : Str → Option Value} {base : Heap} {b : Bool} {m : String} {k n : Nat} : MTab P w K mg base b m k n [] := fun C g h => by cases h
theorem mtab_cons {P : Program} {w : World} {K : PySem.W.Frag} {mg : Str → Option Value} {base : Heap} {b : Bool} {m C : String} {k k' n : Nat} {g : FM} {tbl : List (String × FM)} (M : MethOk P w K mg base b C m k' n g) (r : MTab P w K mg base b m k n tbl) (h : k' ≤ k := by decide) : MTab P w K mg base b m k n ((C, g) :: tbl) := fun C' g' e => by
  rw [List.lookup_cons] at e
  by_cases hC : C' = C
  · subst hC
    simp at e
    subst e
    exact M.lift h
  · have : (C' == C) = false := by rw [beq_eq_false_iff_ne]; exact hC
    rw [this] at e
    exact r C' g' e
theorem cls_nil {K : PySem.W.Frag} {mg : Str → Option Value} {f : String} : ∀ C ∈ ([] : List String), ClsA K mg f C := fun C h => by cases h
theorem cls_cons {K : PySem.W.Frag} {mg : Str → Option Value} {f C : String} {Cs : List String} (a : ClsA K mg f C) (r : ∀ C ∈ Cs, ClsA K mg f C) : ∀ D ∈ C :: Cs, ClsA K mg f D := fun D h => by
  rcases List.mem_cons.mp h with e | e
  · exact e ▸ a
  · exact r D e
theorem psm_frz {X : Cx} {E : ExE} {W : WX} {sts : List Stmt} {m : SM} (i : Nat) (h : PSsM X E W sts m) : PSsM X E W sts (smFrz i m) :=
  PSs.imp h fun D σ H ⟨B, ρ, S, h⟩ => ⟨B, frz i ρ, S.frz i, h⟩
end Dm
end

section
set_option Elab.async false
set_option linter.all false
set_option maxRecDepth 100000
set_option maxHeartbeats 4000000
/-! Dm: startswith, endswith, join. -/
namespace Dm
open PySem PySem.Spec L2 TL
theorem starts_eq (s t : List Nat) : Txt.startswith ⟨s.toArray⟩ ⟨t.toArray⟩ = (s.take t.length == t) := by
  unfold Txt.startswith
  rw [PySem.StrLaws.subAt_eq]
  show (decide (0 + t.length ≤ s.length) && ((s.drop 0).take t.length == t)) = _
  rw [List.drop_zero]
  by_cases h : (s.take t.length == t) = true
  · rw [h, Bool.and_true, decide_eq_true_eq]
    have := congrArg List.length (beq_iff_eq.mp h)
    rw [List.length_take] at this
    omega
  · rw [Bool.not_eq_true] at h
    rw [h, Bool.and_false]
theorem ends_eq (s t : List Nat) : Txt.endswith ⟨s.toArray⟩ ⟨t.toArray⟩ = (decide (t.length ≤ s.length) && (s.drop (s.length - t.length) == t)) := by
  unfold Txt.endswith
  rw [PySem.StrLaws.subAt_eq]
  show (decide (0 + t.length ≤ s.length) && ((s.drop (s.length - t.length)).take t.length == t)) = _
  by_cases h : t.length ≤ s.length
  · rw [List.take_of_length_le (by rw [List.length_drop]; omega), Nat.zero_add]
  · rw [decide_eq_false h, decide_eq_false (by omega)]
    rfl
theorem join0_fold : ∀ (ys : List Str) (acc : Array Nat), (ys.foldl (fun acc p => acc ++ (⟨#[]⟩ : Str).cps ++ p.cps) acc).toList = acc.toList ++ (ys.map fun y => y.cps.toList).flatten
  | [], acc => by simp
  | y :: ys, acc => by
    rw [List.foldl_cons, join0_fold ys]
    simp
theorem join0_eq (ys : List Str) : Txt.join ⟨#[]⟩ ys = ⟨((ys.map fun y => y.cps.toList).flatten).toArray⟩ := by
  cases ys with
  | nil => rfl
  | cons y ys =>
    show (⟨ys.foldl (fun acc p => acc ++ (⟨#[]⟩ : Str).cps ++ p.cps) y.cps⟩ : Str) = _
    have h := join0_fold ys y.cps
    generalize ys.foldl (fun acc p => acc ++ (⟨#[]⟩ : Str).cps ++ p.cps) y.cps = a at *
    obtain ⟨l⟩ := a
    have h' : l = y.cps.toList ++ (ys.map fun y => y.cps.toList).flatten := h
    rw [h', List.map_cons, List.flatten_cons]
theorem strs_rep {K : PySem.W.Frag} {mg : Str → Option Value} {G : Hp} : ∀ {ds : List Dm.D} {ys : List V} {ts : List (List Nat)}, Reps K mg G ds ys → strsOf ds = some ts → ys = (ts.map fun t => (⟨t.toArray⟩ : Str)).map V.str
  | [], _, ts, .nil, h => by
    cases h
    rfl
  | d :: ds, _, ts, .cons r rs, h => by
    cases r <;> first | (cases h; done) | skip
    case str s =>
      cases e : strsOf ds with
      | none => simp [strsOf, e] at h
      | some us =>
        have hn : ts = s :: us := by simpa [strsOf, e] using h.symm
        subst hn
        rw [strs_rep rs e]
        rfl
section
variable {X : Cx} {E : ExE} {W : WX} {pos apos : Pos} {a b : Expr} {ma mb : EM}
theorem pm_starts (ha : PM X E W a ma) (hb : PM X E W b mb) (hs : starEach [b] X.env = [(false, eval b X.env)] := by rfl) (hbase : attributeBase a "startswith" X.env (eval a X.env) = eval a X.env := by rfl) (hline : (apos.endLine == pos.line) = true := by rfl) :
    PM X E W (.Call (.Attribute a "startswith" apos) [b] [] pos) (mS1 fStarts ma mb) :=
  pm_s1 PySem.F.slot_str_startswith PySem.F.type_str_startswith mt_startswith (fun B ρ σ H s y vy Q S ry h => by
    cases ry <;> first | exact False.elim h | skip
    case str t =>
      refine ⟨_, _, rfl, rfl, ?_⟩
      rw [starts_eq]
      exact GM.sc (d := .bl _) h (.bl _)) ha hb hs hbase hline
theorem pm_ends (ha : PM X E W a ma) (hb : PM X E W b mb) (hs : starEach [b] X.env = [(false, eval b X.env)] := by rfl) (hbase : attributeBase a "endswith" X.env (eval a X.env) = eval a X.env := by rfl) (hline : (apos.endLine == pos.line) = true := by rfl) :
    PM X E W (.Call (.Attribute a "endswith" apos) [b] [] pos) (mS1 fEnds ma mb) :=
  pm_s1 PySem.F.slot_str_endswith PySem.F.type_str_endswith mt_endswith (fun B ρ σ H s y vy Q S ry h => by
    cases ry <;> first | exact False.elim h | skip
    case str t =>
      refine ⟨_, _, rfl, rfl, ?_⟩
      rw [ends_eq]
      exact GM.sc (d := .bl _) h (.bl _)) ha hb hs hbase hline
theorem pm_join (ha : PM X E W a ma) (hb : PM X E W b mb) (hs : starEach [b] X.env = [(false, eval b X.env)] := by rfl) (hbase : attributeBase a "join" X.env (eval a X.env) = eval a X.env := by rfl) (hline : (apos.endLine == pos.line) = true := by rfl) :
    PM X E W (.Call (.Attribute a "join" apos) [b] [] pos) (mS1 fJoin ma mb) :=
  pm_s1 PySem.F.slot_str_join PySem.F.type_str_join mt_join (fun B ρ σ H s y vy Q S ry h => by
    match s, h with
    | _ :: _, h => exact False.elim h
    | [], h =>
      have key : ∀ {p : Addr} {ds : List Dm.D} {ys : List V}, (SqL X.K H p ys ∨ SqT X.K H p ys) → Reps X.K X.mg (ar B ρ σ H) ds ys → GM X.K X.mg W B ρ σ H (match strsOf ds with | some ts => if ts.flatten.length ≤ lim then sOk (.str ts.flatten) else .bad | none => .bad) Q →
          ∃ a p', ∃ zs : List Str, V.str ⟨([] : List Nat).toArray⟩ = .str a ∧ [V.ref p] = [.ref p'] ∧ (SqL X.K H p' (zs.map V.str) ∨ SqT X.K H p' (zs.map V.str)) ∧ (zs.map (·.length)).sum + zs.length * a.length ≤ 16777216 ∧ Q (.str (Txt.join a zs)) H := by
        intro p ds ys hx rr h3
        cases e : strsOf ds with
        | none => rw [e] at h3; exact h3.elim
        | some ts =>
          rw [e] at h3
          have hy := strs_rep rr e
          subst hy
          have h4 : GM X.K X.mg W B ρ σ H (if ts.flatten.length ≤ lim then sOk (.str ts.flatten) else .bad) Q := h3
          by_cases hl : ts.flatten.length ≤ lim
          · rw [if_pos hl] at h4
            refine ⟨⟨#[]⟩, p, ts.map fun t => ⟨t.toArray⟩, rfl, rfl, hx, ?_, ?_⟩
            · have : ((ts.map fun t => (⟨t.toArray⟩ : Str)).map (·.length)).sum = ts.flatten.length := by
                rw [List.map_map, List.length_flatten]
                rfl
              rw [this]
              have := lim_def
              show ts.flatten.length + _ * 0 ≤ 16777216
              omega
            · rw [join0_eq, List.map_map]
              have : (ts.map ((fun y : Str => y.cps.toList) ∘ fun t => (⟨t.toArray⟩ : Str))) = ts := by
                rw [show ((fun y : Str => y.cps.toList) ∘ fun t : List Nat => (⟨t.toArray⟩ : Str)) = id from rfl, List.map_id]
              rw [this]
              exact GM.sc (d := .str _) h4 (.str _)
          · rw [if_neg hl] at h4
            exact h4.elim
      cases ry <;> first | exact False.elim h | skip
      case lst hx rr _ => exact key (.inl (.of hx)) rr h
      case rol hx rr _ => exact key (.inl hx) rr h
      case tup hx rr _ => exact key (.inr (same_tup S.sub hx)) rr h) ha hb hs hbase hline
end
end Dm
end

section
set_option Elab.async false
set_option linter.all false
set_option maxRecDepth 100000
set_option maxHeartbeats 4000000
/-! Dm: text[a::k]. -/
namespace Dm
open PySem PySem.Spec L2 TL
theorem all_get (s : List Nat) : (List.range s.length).filterMap (fun j => s[j]?) = s := by
  have h := PySem.W.krv_all s.toArray
  simpa using h
theorem step_cps (s : List Nat) (a k : Nat) (hk : 0 < k) (t u : Tok) : Txt.sliceBy (⟨s.toArray⟩ : Str) (some ((a : Int), t)) none ((k : Int), u) = (⟨(stepL s a k).toArray⟩ : Str) := by
  have e1 : PySem.Builtin.Str.strSliceIndices (some (a : Int)) none (k : Int) s.length = (List.range ((s.length - min a s.length + k - 1) / k)).map fun j => min a s.length + k * j := by
    unfold PySem.Builtin.Str.strSliceIndices sliceRange
    have hp : (k : Int) > 0 := by omega
    have hn : ¬ (a : Int) < 0 := by omega
    simp only [hp, hn, if_true, if_false]
    have hm : max 0 (min (a : Int) (s.length : Int)) = ((min a s.length : Nat) : Int) := by omega
    rw [hm]
    have hc : (if ((min a s.length : Nat) : Int) < (s.length : Int) then ((s.length : Int) - ((min a s.length : Nat) : Int) + (k : Int) - 1) / (k : Int) else 0).toNat = (s.length - min a s.length + k - 1) / k := by
      by_cases h : min a s.length < s.length
      · rw [if_pos (by omega)]
        have : (s.length : Int) - ((min a s.length : Nat) : Int) + (k : Int) - 1 = ((s.length - min a s.length + k - 1 : Nat) : Int) := by omega
        rw [this, ← Int.natCast_ediv, Int.toNat_natCast]
      · rw [if_neg (by omega)]
        have : s.length - min a s.length = 0 := by omega
        rw [this, Nat.zero_add, Nat.div_eq_of_lt (by omega)]
        rfl
    rw [hc]
    apply List.map_congr_left
    intro j _
    have : ((min a s.length : Nat) : Int) + (k : Int) * (j : Int) = ((min a s.length + k * j : Nat) : Int) := by simp
    rw [this, Int.toNat_natCast]
  have e2 : ((List.range ((s.length - min a s.length + k - 1) / k)).map fun j => min a s.length + k * j).filterMap (fun j => s[j]?) = stepL s a k := by
    unfold stepL
    rw [List.filterMap_map]
    by_cases h : a ≤ s.length
    · rw [Nat.min_eq_left h]
      rfl
    · have h1 : s.length - min a s.length = 0 := by omega
      have h2 : s.length - a = 0 := by omega
      rw [h1, h2, Nat.zero_add, Nat.div_eq_of_lt (by omega)]
      rfl
  have e3 : slicePicked (⟨s.toArray⟩ : Str) (some ((a : Int), t)) none (some ((k : Int), u)) = (List.range ((s.length - min a s.length + k - 1) / k)).map fun j => min a s.length + k * j := e1
  have e4 : (slicePicked (⟨s.toArray⟩ : Str) (some ((a : Int), t)) none (some ((k : Int), u))).filterMap ((⟨s.toArray⟩ : Str).cps[·]?) = stepL s a k := by
    rw [e3, ← e2]
    congr 1
    funext j
    simp
  unfold Txt.sliceBy
  split
  · rename_i h
    rw [Bool.and_eq_true, beq_iff_eq, beq_iff_eq] at h
    obtain ⟨h1, h2⟩ := h
    have hk1 : k = 1 := by
      have : (k : Int) = 1 := h1
      omega
    subst hk1
    rw [e3, List.length_map, List.length_range] at h2
    have h2' : (s.length - min a s.length + 1 - 1) / 1 = s.length := h2
    rw [Nat.div_one] at h2'
    have : stepL s a 1 = s := by
      rw [← e2]
      have hm : min a s.length = 0 := by omega
      rw [hm]
      simp only [Nat.sub_zero, Nat.add_sub_cancel, Nat.div_one, Nat.zero_add, Nat.one_mul, List.map_id']
      exact all_get s
    rw [this]
  · rw [e4]
def tStep (te tl tk : TE) : TE := fun σ H Q => te σ H fun x H1 => tPart tl σ H1 fun o H2 => tPart tk σ H2 fun p H3 => ∃ (s : List Nat) (a k : Nat), x = .str ⟨s.toArray⟩ ∧ o = some (a : Int) ∧ p = some (k : Int) ∧ 0 < k ∧ s.length ≤ sizeLine ∧ Q (.str ⟨(stepL s a k).toArray⟩) H3
section
variable {X : Cx} {E : ExE} {W : WX} {e a b : Expr} {me ma mb : EM} {p3 pos : Pos}
theorem pe_step {te tl tk : TE} (he : PE X e te) (ha : PE X a tl) (hb : PE X b tk) : PE X (.Subscript e (.Slice (some a) none (some b) p3) pos) (tStep te tl tk) := by
  refine ⟨fun pins s σ H Q I h => ?_⟩
  refine PyProof.Rows.Subscript_ (thn (he.run pins s σ H _ I h) fun v s1 ⟨x, H1, I1, r1, q1⟩ => ?_)
  refine wpAny_Slice (thn ((po_some ha).run pins s1 σ H1 _ I1 q1) fun vl s2 ⟨l, H2, I2, pl, q2⟩ => ?_)
  refine thn (po_none.run pins s2 σ H2 (fun o H3 => o = none ∧ H3 = H2) I2 ⟨rfl, rfl⟩) fun vu s3 ⟨u, H3, I3, pu, eu, e3⟩ => ?_
  subst eu e3
  refine thn ((po_some hb).run pins s3 σ H3 _ I3 q2) fun vs s4 ⟨o, H4, I4, ps, q3⟩ => ?_
  obtain ⟨t, a', k', ex, el, ek, hk0, hl, q⟩ := q3
  subst ex el ek
  obtain ⟨tk', rfl⟩ := r1
  have I5 : Inv X pins σ H4 { s4 with heap := s4.heap.push { cls := .type "slice", data := .fields #[vl, vu, vs] } } := I4.kept (t' := s4.toks) fun b ob q => Heap.get?_push_of_some _ q
  obtain ⟨ta, rfl⟩ : ∃ t, vl = .int (a' : Int) t := by cases pl; exact ⟨_, rfl⟩
  obtain ⟨uk, rfl⟩ : ∃ t, vs = .int (k' : Int) t := by cases ps; exact ⟨_, rfl⟩
  obtain rfl : vu = .none := by cases pu; rfl
  have hk : ((k' : Int) == 0) = false := by
    rw [beq_eq_false_iff_ne]
    omega
  refine PyProof.Rows.tail_any (T := "str") (ops := [.ref s4.heap.objs.size, .str ⟨t.toArray⟩ tk']) (PySem.typeIs_str _ _ _) (PySem.F.slot_str_getitem.lookup) (PySem.wpAny_getItem_str_slice (l := some ((a' : Int), ta)) (u := none) (st := some ((k' : Int), uk)) ⟨_, Heap.get?_push_size _ rfl, rfl, rfl⟩ hk
    (PySem.post_val_or_str ⟨Nat.le_trans (Txt.sliceBy_le (⟨t.toArray⟩ : Str) (some ((a' : Int), ta)) none ((k' : Int), uk) (by simpa using hk)) hl, fun t' c => ?_⟩)) (by with_unfolding_all rfl)
  refine ⟨.str ⟨(stepL t a' k').toArray⟩, H4, I5.tok _, ?_, q⟩
  exact ⟨t', congrArg (Value.str · t') (step_cps t a' k' hk0 ta uk)⟩

theorem pm_step (he : PM X E W e me) (ha : PM X E W a ma) (hb : PM X E W b mb) : PM X E W (.Subscript e (.Slice (some a) none (some b) p3) pos) (mStep me ma mb) :=
  PE.imp (pe_step he ha hb) fun σ H Q ⟨B, ρ, S, h⟩ => GM.bind S h fun x tx vx H1 rx e1 S1 h1 => by
    have rpx := rx.rp S1
    cases rpx <;> first | exact False.elim h1 | skip
    case str s =>
      refine GM.bind S1 h1 fun y ty vy H2 ry e2 S2 h2 => ?_
      have rpy := ry.rp S2
      cases rpy <;> first | exact False.elim h2 | skip
      case int i =>
        refine ⟨i, rfl, GM.bind S2 h2 fun z tz vz H3 rz e3 S3 h3 => ?_⟩
        have rpz := rz.rp S3
        cases rpz <;> first | exact False.elim h3 | skip
        case int k =>
          have h4 : GM X.K X.mg W B ρ σ H3 (if decide (s.length ≤ lim) && decide (0 ≤ i) && decide (0 < k) then .ok (.str (stepL s i.toNat k.toNat), .cl) else .bad) Q := h3
          by_cases hc : (decide (s.length ≤ lim) && decide (0 ≤ i) && decide (0 < k)) = true
          · rw [if_pos hc] at h4
            rw [Bool.and_eq_true, Bool.and_eq_true, decide_eq_true_eq, decide_eq_true_eq, decide_eq_true_eq] at hc
            obtain ⟨⟨c1, c2⟩, c3⟩ := hc
            refine ⟨k, rfl, s, i.toNat, k.toNat, rfl, by rw [Int.toNat_of_nonneg c2], by rw [Int.toNat_of_nonneg (by omega)], by omega, Nat.le_trans c1 lim_le, GM.sc (d := .str _) h4 (.str _)⟩
          · rw [if_neg hc] at h4
            exact h4.elim
end
end Dm
end

section
set_option Elab.async false
set_option linter.all false
set_option maxRecDepth 100000
set_option maxHeartbeats 4000000
/-! Dm: isinstance of own classes; ranges by steps; x[i] = e; objects made with a list of one's own. -/
namespace Dm
open PySem PySem.Spec L2 TL
/-- isinstance asks the own class D rightly of the built-in kinds, and of the own classes U -/
structure IsOk (K : PySem.W.Frag) (mg : Str → Option Value) (D : String) (U cs : List String) : Prop where
  n : ClsN mg D
  ty : ∀ t ∈ ["NoneType", "bool", "int", "str", "tuple", "list", "dict"], PySem.W.kitOne K (.type t) (clsV mg D) = some false
  ow : ∀ C ∈ U, ClsI K mg C ∧ PySem.W.kitOne K (clsV mg C) (clsV mg D) = some (cs.contains C)
theorem kit_tyof {K : PySem.W.Frag} {D : Addr} {T : String} {b : Bool} (hd : PySem.W.hasDictIn K D = true) (ty : PySem.W.typeIn K (.ref D) = some (.type "type")) (su : PySem.W.subIn K (.type T) (.ref D) = some b) : PySem.W.kitOne K (.type T) (.ref D) = some b := by
  unfold PySem.W.kitOne
  rw [if_neg (fun h => nomatch (eq_of_beq h : Value.type T = Value.ref D))]
  obtain ⟨cd, hc, _⟩ := PySem.W.any_some hd
  have e2 : ((PySem.W.clsIn K D).isSome && PySem.W.typeIn K (.ref D) == some (.type "type")) = true := by rw [hc, ty] <;> rfl
  show (if ((PySem.W.clsIn K D).isSome && PySem.W.typeIn K (.ref D) == some (.type "type")) = true then PySem.W.subIn K (.type T) (.ref D) else none) = some b
  rw [if_pos e2]
  exact su
section
variable {X : Cx} {E : ExE} {W : WX} {pos p p2 : Pos} {a b c e tg : Expr} {ma mb mc : EM} {es : List Expr} {am : AM}
theorem pm_isC {D : String} {U cs : List String} (hk : IsOk X.K X.mg D U cs) (ha : PM X E W a ma) (hm : X.mg "isinstance" = none) (hg : Gl X "isinstance" := by rfl) (hgD : Gl X (D : Str) := by rfl) (hdD : ((D : Str) == ("__debug__" : Str)) = false := by decide)
    (he : starEach [a, .Name (D : Str) p2] X.env = (false, eval a X.env) :: starEach [.Name (D : Str) p2] X.env := by rfl) (he2 : starEach [.Name (D : Str) p2] X.env = (false, eval (.Name (D : Str) p2) X.env) :: starEach [] X.env := by rfl) (hpl : (backTo pos (starEach [.Name (D : Str) p2] X.env)).any (·.1) = false := by rfl) :
    PM X E W (.Call (.Name "isinstance" p) [a, .Name (D : Str) p2] [] pos) (mIsC U cs ma) :=
  PE.imp (pe_callB call_isi hg hm (by decide +kernel) (pa_cons ha (pa_cons (cl_n hk.n hgD hdD) pa_nil he2) he) (he := he) (hpl := hpl)) fun σ H Q ⟨B, ρ, S, h⟩ => GM.bind S h fun x tx vx H1 rx e1 S1 h1 => by
    have rp := rx.rp S1
    have fin : ∀ (t : String), t ∈ ["NoneType", "bool", "int", "str", "tuple", "list", "dict"] → TyX X.K H1 vx (.type t) → GM X.K X.mg W B ρ σ H1 (.ok (.bl false, .cl)) Q →
        rIsi X.K [vx, clsW X.mg D] H1 Q := fun t ht ty g => ⟨vx, clsW X.mg D, .type t, clsV X.mg D, false, rfl, cv_n hk.n, ty, hk.ty t ht, GM.sc (d := .bl _) g (.bl _)⟩
    cases rp
    case non => exact fin "NoneType" (by simp) (.base .non) h1
    case bl k => exact fin "bool" (by simp) (.base (.bl k)) h1
    case int i => exact fin "int" (by simp) (.base (.int i)) h1
    case str s => exact fin "str" (by simp) (.base (.str _)) h1
    case lst q ds vs hv r => exact fin "list" (by simp) (sql_ty (.of hv)) h1
    case rol q ds vs hv r => exact fin "list" (by simp) (sql_ty hv) h1
    case tup q ds vs hv r => exact fin "tuple" (by simp) (sqt_ty (same_tup S1.sub hv)) h1
    case dic h2 _ _ => exact fin "dict" (by simp) (.base (.dK h2)) h1
    case dit => exact h1.elim
    case obj C c q dx ns ds vs hmc hq hl r =>
      have h2 : GM X.K X.mg W B ρ σ H1 (if U.contains C then .ok (.bl (cs.contains C), .cl) else .bad) Q := h1
      by_cases hU : U.contains C = true
      · rw [if_pos hU] at h2
        obtain ⟨⟨c', m', cl, i1, i2, i3, i4⟩, kk⟩ := hk.ow C (by simpa using hU)
        rw [hmc] at m'
        cases m'
        refine ⟨.ref q, clsW X.mg D, .ref c, clsV X.mg D, cs.contains C, rfl, cv_n hk.n, .base (.ins hq cl i1 i2 i3 i4), ?_, GM.sc (d := .bl _) h2 (.bl _)⟩
        rw [clsV_of hmc] at kk
        exact kk
      · rw [if_neg hU] at h2
        exact h2.elim
/-- isinstance asks the own class D rightly of the own classes U -/
structure IsO (K : PySem.W.Frag) (mg : Str → Option Value) (D : String) (U cs : List String) : Prop where
  n : ClsN mg D
  ow : ∀ C ∈ U, ClsI K mg C ∧ PySem.W.kitOne K (clsV mg C) (clsV mg D) = some (cs.contains C)
theorem pm_isO {D : String} {U cs : List String} (hk : IsO X.K X.mg D U cs) (ha : PM X E W a ma) (hm : X.mg "isinstance" = none) (hg : Gl X "isinstance" := by rfl) (hgD : Gl X (D : Str) := by rfl) (hdD : ((D : Str) == ("__debug__" : Str)) = false := by decide)
    (he : starEach [a, .Name (D : Str) p2] X.env = (false, eval a X.env) :: starEach [.Name (D : Str) p2] X.env := by rfl) (he2 : starEach [.Name (D : Str) p2] X.env = (false, eval (.Name (D : Str) p2) X.env) :: starEach [] X.env := by rfl) (hpl : (backTo pos (starEach [.Name (D : Str) p2] X.env)).any (·.1) = false := by rfl) :
    PM X E W (.Call (.Name "isinstance" p) [a, .Name (D : Str) p2] [] pos) (mIsO U cs ma) :=
  PE.imp (pe_callB call_isi hg hm (by decide +kernel) (pa_cons ha (pa_cons (cl_n hk.n hgD hdD) pa_nil he2) he) (he := he) (hpl := hpl)) fun σ H Q ⟨B, ρ, S, h⟩ => GM.bind S h fun x tx vx H1 rx e1 S1 h1 => by
    have rp := rx.rp S1
    cases rp <;> first | exact False.elim h1 | skip
    case obj C c q dx ns ds vs hmc hq hl r =>
      have h2 : GM X.K X.mg W B ρ σ H1 (if U.contains C then .ok (.bl (cs.contains C), .cl) else .bad) Q := h1
      by_cases hU : U.contains C = true
      · rw [if_pos hU] at h2
        obtain ⟨⟨c', m', cl, i1, i2, i3, i4⟩, kk⟩ := hk.ow C (by simpa using hU)
        rw [hmc] at m'
        cases m'
        refine ⟨.ref q, clsW X.mg D, .ref c, clsV X.mg D, cs.contains C, rfl, cv_n hk.n, .base (.ins hq cl i1 i2 i3 i4), ?_, GM.sc (d := .bl _) h2 (.bl _)⟩
        rw [clsV_of hmc] at kk
        exact kk
      · rw [if_neg hU] at h2
        exact h2.elim
/-! ### range(i, j, k) -/
theorem RgC.step {i j k : Int} (ha : -(2 ^ 62) ≤ i) (ha' : i < 2 ^ 62) (hb : -(2 ^ 62) ≤ j) (hb' : j < 2 ^ 62) (hk : 0 < k) (hk' : k < 1073741824) : RgC i j k (if i < j then (j - i - 1) / k + 1 else 0).toNat := by
  have hs : Builtin.Range.rangeSize i j k = if i < j then (j - i - 1) / k + 1 else 0 := by
    unfold Builtin.Range.rangeSize
    rw [if_pos hk]
  have h0 : 0 ≤ (if i < j then (j - i - 1) / k + 1 else 0) ∧ (if i < j then (j - i - 1) / k + 1 else 0) < 2 ^ 63 := by
    split
    · have h1 : 0 ≤ (j - i - 1) / k := Int.ediv_nonneg (by omega) (by omega)
      have h2 : (j - i - 1) / k ≤ j - i - 1 := Int.ediv_le_self _ (by omega)
      omega
    · omega
  refine ⟨by omega, by omega, ?_, ?_⟩
  · unfold Builtin.Range.small
    rw [hs]
    simp only [Builtin.Range.rangeFitsLong, Bool.and_eq_true, Bool.or_eq_true, decide_eq_true_eq, beq_iff_eq, show k > 0 from hk, if_true]
    generalize (if i < j then (j - i - 1) / k + 1 else 0) = z at *
    omega
  · rw [hs, Int.toNat_of_nonneg h0.1]
theorem wk_rangeS {K : PySem.W.Frag} {mg : Str → Option Value} {A Hb : Hp} (lo st : Int) (n : Nat) : Wk K mg A Hb (Itc lo st n) (rangeS lo st n) where
  go := fun i H s h => by
    show i < n
    simpa [rangeS] using h
  stop := fun i H s h => by
    show n ≤ i
    simpa [rangeS] using h
  yld := fun i H x H' s h y => by
    obtain ⟨rfl, rfl⟩ := y
    have h' : i < n := by simpa [rangeS] using h
    exact ⟨Same.refl _, .int (lo + (i : Int) * st), by simp [rangeS, h'], .int _⟩
theorem pmi_rs (ha : PM X E W a ma) (hb : PM X E W b mb) (hc : PM X E W c mc) (hm : X.mg "range" = none) (hg : Gl X "range" := by rfl)
    (hs : starEach [a, b, c] X.env = (false, eval a X.env) :: starEach [b, c] X.env := by rfl) (hs2 : starEach [b, c] X.env = (false, eval b X.env) :: starEach [c] X.env := by rfl) (hs3 : starEach [c] X.env = (false, eval c X.env) :: starEach [] X.env := by rfl)
    (hpl : (backTo pos (starEach [b, c] X.env)).any (·.1) = false := by rfl) : PMI X E W tg (.Call (.Name "range" p) [a, b, c] [] pos) (wmRS ma mb mc) :=
  PI.imp (pi_range3 hg hm (pa_cons ha (pa_cons hb (pa_cons hc pa_nil hs3) hs2) hs) hs hpl) fun σ H R ⟨B, ρ, S, h⟩ => GG.bindE S h fun x tx vx H1 rx e1 S1 h1 => by
    have h1' := GG.mono h1 e1 fun _ q => q
    refine GG.bindE S1 h1' fun y ty vy H2 ry e2 S2 h2 => ?_
    have h2' := GG.mono h2 e2 fun _ q => q
    refine GG.bindE S2 h2' fun z tz vz H3 rz e3 S3 h3 => ?_
    have rpx := rx.rp S1
    have rpy := ry.rp S2
    have rpz := rz.rp S3
    cases rpx <;> first | exact False.elim h3 | skip
    cases rpy <;> first | exact False.elim h3 | skip
    cases rpz <;> first | exact False.elim h3 | skip
    case int.int.int i j k =>
      have h4 : GG X.mg W σ H2 (fun p => ∀ J H1, Same H H1 → SR X.K X.mg E B ρ σ H1 → Wk X.K X.mg (ar B ρ σ H1) (hid B (frzO p.2 ρ) σ H1) J p.1 → R J H1) (if rgOk i && rgOk j && decide (0 < k) && decide (k < 1073741824) then .ok (rangeS i k (if i < j then (j - i - 1) / k + 1 else 0).toNat, none) else .bad) := h3
      split at h4
      · rename_i hr
        rw [Bool.and_eq_true, Bool.and_eq_true, Bool.and_eq_true, decide_eq_true_eq, decide_eq_true_eq] at hr
        obtain ⟨⟨⟨r1, r2⟩, r3⟩, r4⟩ := hr
        obtain ⟨a1, a2⟩ := rg_ok r1
        obtain ⟨b1, b2⟩ := rg_ok r2
        exact ⟨i, j, k, _, rfl, RgC.step a1 a2 b1 b2 r3 r4, h4 _ H3 ((e1.trans e2).trans e3) S3 (wk_rangeS i k _)⟩
      · exact False.elim h4
/-! ### x[i] = e -/
theorem psm_setI (i : Nat) {x : Str} {p1 p3 : Pos} (hb : PM X E W b mb) (ha : PM X E W a ma) (hN : X.N[i]? = some x := by rfl) (hv : Vis X.env.scope x := by first | exact Or.inl rfl | exact Or.inr (Or.inl rfl) | exact Or.inr (Or.inr rfl)) (hd : (x == ("__debug__" : Str)) = false := by decide)
    (hcd : (x == ("__classdict__" : Str)) = false := by decide)
    (hsub : ∀ v, assign (.Subscript (.Name x p1) b p3) X.env v = (do
      let ov ← holding [v] (eval (.Name x p1) X.env)
      let iv ← holding [v, ov] (eval b X.env)
      standAt p3
      holding [v, ov, iv] (setItem ov iv v)
      release [v, ov, iv] []) := by intro _; rfl)
    (hs : swapsWithSole [.Subscript (.Name x p1) b p3] a pos.line X.env = pure false := by rfl) (hw : swappedStores [.Subscript (.Name x p1) b p3] a X.env = pure none := by rfl)
    (h1 : (assignEach [.Subscript (.Name x p1) b p3] X.env).map (·.2) = [assign (.Subscript (.Name x p1) b p3) X.env] := by rfl) :
    PSM X E W (.Assign [.Subscript (.Name x p1) b p3] a pos) (smSetI i mb ma) :=
  PS.imp (ps_asg ha (pg_sub (pe_var hN hv hd hcd) hb set_list hsub) hs hw h1) fun D σ H ⟨B, ρ, S, h⟩ => GS.bindE S h fun z tz vz H0 rz s0 S0 h0 => by
    replace h0 : GS X.K X.mg E W B D (match ρ[i]? with
      | some (.oo .lst ds) => (mb ρ).st ρ fun y => match y.1 with
        | .int j => if tz.free || z.sc then (match ixN ds.length j with
          | some k => .ok (.nx (ρ.set i (.ow (ds.set k z))))
          | none => .bad) else .bad
        | _ => .bad
      | _ => .bad) := h0
    split at h0
    · rename_i ds e
      obtain ⟨l, vs, e1, e2, e3⟩ := S0.owl i ds e
      refine ⟨.ref l, e1, GS.bindE S0 h0 fun y ty vy H1 ry s1 S1 h1 => ?_⟩
      have rpy := ry.rp S1
      cases rpy <;> first | exact False.elim h1 | skip
      case int j =>
        replace h1 : GS X.K X.mg E W B D (if tz.free || z.sc then (match ixN ds.length j with
          | some k => .ok (.nx (ρ.set i (.ow (ds.set k z))))
          | none => .bad) else .bad) := h1
        split at h1
        · rename_i hc
          rw [Bool.or_eq_true] at hc
          cases ek : ixN ds.length j with
          | none => rw [ek] at h1; exact h1.elim
          | some k =>
            rw [ek] at h1
            have e4 := e3.mono (ar_mono s1)
            refine ⟨l, vs, j, k, rfl, rfl, s1 _ _ e2, ?_, h1 σ _ ?_⟩
            · rw [← e3.length]
              exact ek
            · refine S1.updOw e e1 (e4.set ?_ _)
              exact Rep.mono (ar_mono s1) (rz.keep S s0 hc)
        · exact h1.elim
    · exact h0.elim
end
theorem relabel_nofree {scope : Scope} {env : Env} (h : scope.names.all (fun p => p.2 != .free) = true) : PySem.relabel scope env = scope := by
  unfold PySem.relabel
  have e : scope.names.map (fun (n, k) => if (k == .free && env.scope.kind == .function && env.kindOf n == some .cell) then (n, NameKind.cell) else (n, k)) = scope.names := by
    generalize scope.names = l at h
    induction l with
    | nil => rfl
    | cons p l ih =>
      rw [List.all_cons, Bool.and_eq_true] at h
      obtain ⟨n, k⟩ := p
      rw [List.map_cons, ih h.2]
      have : (k == NameKind.free) = false := by
        have := h.1
        cases k <;> first | rfl | (cases this)
      simp [this]
  rw [e]
/-! ### is True, &, extend, zip -/
theorem mild_isB : Mild cIsB := fun x y C => by cases x <;> cases y <;> simp [cIsB]
theorem mild_notB : Mild cNotB := fun x y C => by cases x <;> cases y <;> simp [cNotB]
section
variable {X : Cx} {E : ExE} {W : WX} {pos p p2 : Pos} {a b c e tg : Expr} {ma mb mc : EM} {es : List Expr} {am : AM}
theorem cm_isB : CmpM X E W rIsB cIsB := by
  intro B ρ σ H x y vx vy Q S rx ry hq ok
  obtain ⟨k, e⟩ := ok
  cases rx <;> cases ry <;> first | (cases e; done) | skip
  case bl.bl i j => exact ⟨i, j, rfl, rfl, hq _ rfl⟩
theorem cm_notB : CmpM X E W rNotB cNotB := by
  intro B ρ σ H x y vx vy Q S rx ry hq ok
  obtain ⟨k, e⟩ := ok
  cases rx <;> cases ry <;> first | (cases e; done) | skip
  case bl.bl i j => exact ⟨i, j, rfl, rfl, hq _ rfl⟩
theorem pm_isB (ha : PM X E W a ma) (hb : PM X E W b mb) : PM X E W (.Compare a [.Is] [b] pos) (mCmp cIsB ma mb) := pm_cmp op_isBl cm_isB mild_isB ha hb (nomark _)
theorem pm_notB (ha : PM X E W a ma) (hb : PM X E W b mb) : PM X E W (.Compare a [.IsNot] [b] pos) (mCmp cNotB ma mb) := pm_cmp op_notBl cm_notB mild_notB ha hb (nomark _)
theorem pmt_isB (ha : PM X E W a ma) (hb : PM X E W b mb) : PMT X E W (.Compare a [.Is] [b] pos) (mTB (mCmp cIsB ma mb)) := pmt_cmp op_isBl cm_isB mild_isB ha hb (nomark _)
theorem pmt_notB (ha : PM X E W a ma) (hb : PM X E W b mb) : PMT X E W (.Compare a [.IsNot] [b] pos) (mTB (mCmp cNotB ma mb)) := pmt_cmp op_notBl cm_notB mild_notB ha hb (nomark _)
theorem om_and : OpM X E W (fun x y H Q => ∃ (i : Int) (k : Nat), x = .int i ∧ y = .int (2 ^ k - 1) ∧ Q (.int (i % 2 ^ k)) H) oAnd := by
  intro B ρ σ H x y vx vy Q S rx ry h
  cases rx <;> cases ry <;> first | exact False.elim h | skip
  case int.int i j =>
    replace h : GM X.K X.mg W B ρ σ H (if j = 1 then sOk (.int (i % 2)) else .bad) Q := h
    split at h
    · rename_i hj
      subst hj
      exact ⟨i, 1, rfl, rfl, GM.sc (d := .int _) h (.int _)⟩
    · exact False.elim h
theorem pm_and1 (ha : PM X E W a ma) (hb : PM X E W b mb) : PM X E W (.BinOp a .BitAnd b pos) (mB oAnd ma mb) := pm_bin op_andM om_and ha hb
theorem psm_ext (i : Nat) {x : Str} {p1 p2 : Pos} (ha : PM X E W a ma) (hN : X.N[i]? = some x := by rfl) (hv : Vis X.env.scope x := by first | exact Or.inl rfl | exact Or.inr (Or.inl rfl) | exact Or.inr (Or.inr rfl)) (hd : (x == ("__debug__" : Str)) = false := by decide)
    (hcd : (x == ("__classdict__" : Str)) = false := by decide) (hbase : attributeBase (.Name x p1) "extend" X.env (eval (.Name x p1) X.env) = eval (.Name x p1) X.env := by rfl)
    (hfew : ((backTo p (starEach [a] X.env)).all (fun x => !x.1) && (backToKw p (keywordEach [] X.env)).all (fun x => x.1.isSome) && decide ([a].length + ([] : List Keyword).length + (if ([] : List Keyword).isEmpty then 0 else 1) < 30)) = true := by rfl)
    (hline : (p2.endLine == p.line) = true := by rfl) (hs1 : starEach [a] X.env = (false, eval a X.env) :: starEach [] X.env := by rfl) (hplain : (backTo p (starEach [] X.env)).any (·.1) = false := by rfl)
    (hs : swapsWith (.Call (.Attribute (.Name x p1) "extend" p2) [a] [] p) none pos.line X.env = pure false := by rfl) :
    PSM X E W (.Expr (.Call (.Attribute (.Name x p1) "extend" p2) [a] [] p) pos) (smExt i ma) :=
  PS.imp (ps_expr (pe_bm PySem.F.plainAttrs_list PySem.F.slot_list_extend PySem.F.type_list_extend mt_extend (pe_var hN hv hd hcd) (pa_cons ha pa_nil hs1) hbase hfew hline hs1 hplain) hs) fun D σ H ⟨B, ρ, S, h⟩ => by
    unfold smExt at h
    split at h
    · rename_i ds e
      obtain ⟨l, vs, e1, e2, e3⟩ := S.owl i ds e
      refine ⟨.ref l, e1, .inl ⟨rfl, vs, .of e2⟩, GS.bindE S h fun y ty vy H1 ry s1 S1 h1 => ?_⟩
      have rp := ry.rp S1
      cases rp <;> first | exact False.elim h1 | skip
      case lst q fs ws hq r =>
        replace h1 : GS X.K X.mg E W B D (if ds.length + fs.length ≤ lim then .ok (.nx (ρ.set i (.ow (ds ++ fs)))) else .bad) := h1
        split at h1
        · rename_i hc
          refine ⟨l, q, vs, ws, rfl, rfl, s1 _ _ e2, hq, by rw [← e3.length, ← r.length, lim_eq]; exact hc, h1 σ _ ?_⟩
          exact S1.updOw e e1 ((e3.mono (ar_mono s1)).app r)
        · exact h1.elim
    · exact h.elim
theorem seq_hid {K : PySem.W.Frag} {mg : Str → Option Value} {B : Bs} {ρ : Rho} {σ : St} {H0 H1 : Hp} {k : SK} {ds : List D} {tx : Tg} {vx : V} (S0 : SR K mg E B ρ σ H0) (S1 : SR K mg E B ρ σ H1) (hk : k ≠ .tup) (rx : RT K mg B ρ σ H0 H1 (.seq k ds) tx vx) (o : Option Nat) (ho : ∀ i, tx.slot = some i → o = some i) :
    ∃ q vs, vx = .ref q ∧ SqL K (hid B (frzO o ρ) σ H1) q vs ∧ Reps K mg (ar B ρ σ H1) ds vs := by
  cases tx with
  | cl =>
    have rr : Rep K mg (ar B ρ σ H1) (.seq k ds) vx := rx
    cases rr with
    | lst hv r => exact ⟨_, _, rfl, .of (ar_hid S1 (fun _ z => own_frzO z) _ _ hv), r⟩
    | rol hv r => exact ⟨_, _, rfl, (ar_hid S1 fun _ z => own_frzO z).seq hv, r⟩
    | tup hv r => exact absurd rfl hk
  | own i =>
    obtain rfl := ho i rfl
    obtain ⟨l, es, q1, q2, q3⟩ := rx
    cases l with
    | dic _ => cases q2
    | dit _ => cases q2
    | ins _ _ => cases q2
    | lst =>
    cases q2
    obtain ⟨q, vs, e2, e3, e4⟩ := S1.owl i ds q1
    rw [q3] at e2
    cases e2
    refine ⟨q, vs, rfl, .of ?_, e4⟩
    have S2 := S1.frz i
    have hf : (Dm.frz i ρ)[i]? = some (.fz (.seq .lst ds)) := by
      unfold Dm.frz
      rw [q1]
      exact List.getElem?_set_self (List.getElem?_eq_some_iff.mp q1).1
    obtain ⟨v, h3, h4⟩ := S2.fz i _ hf
    rw [q3] at h3
    cases h3
    cases h4 with
    | lst hv r' =>
      have := S2.sub _ _ hv
      rw [e3] at this
      cases this
      exact ar_hid S2 (fun _ z => z) _ _ hv
  | fr =>
    obtain ⟨q, ob, l, es, vs, q1, rfl, q3, q4, hk', q5⟩ := rx
    cases l with
    | dic _ => cases q1
    | dit _ => cases q1
    | ins _ _ => cases q1
    | lst =>
    cases q1
    cases hk'
    refine ⟨q, vs, rfl, .of ?_, q5.mono ar_add⟩
    have hx : ¬ (B.X q ∨ Own (frzO o ρ) σ q) := fun z => by
      rcases z with z | z
      · obtain ⟨o, e⟩ := S0.xt q z
        rw [q3] at e; cases e
      · obtain ⟨vs, e⟩ := S0.there (own_frzO z)
        rw [q3] at e; cases e
    show hid B (frzO o ρ) σ H1 q = _
    unfold hid
    rw [if_neg hx]
    exact q4
theorem wk_zip {K : PySem.W.Frag} {mg : Str → Option Value} {A Hb : Hp} {q r : Addr} {ds es : List D} {vs ws : List V} (h : SqL K Hb q vs) (h' : SqL K Hb r ws) (rd : Reps K mg A ds vs) (re : Reps K mg A es ws) (hA : ∀ H, Same Hb H → Same A H) : Wk K mg A Hb (Itz K q r) (zipD ds es) where
  go := fun i H s hi => by
    have hi' : i < min ds.length es.length := by simpa [zipD] using hi
    have h1 : i < vs.length := by rw [← rd.length]; omega
    have h2 : i < ws.length := by rw [← re.length]; omega
    exact ⟨vs, ws, vs[i], ws[i], s.seq h, s.seq h', by simp, by simp⟩
  stop := fun i H s hi => by
    have hi' : min ds.length es.length ≤ i := by simpa [zipD] using hi
    refine ⟨vs, ws, s.seq h, s.seq h', ?_⟩
    rw [← rd.length, ← re.length]
    omega
  yld := fun i H x H' s hi y => by
    obtain ⟨T, u, v, rfl, hT, rfl, y1, y2⟩ := y
    obtain ⟨d, d1, d2⟩ := rd.get' (y1 vs (s.seq h))
    obtain ⟨f, f1, f2⟩ := re.get' (y2 ws (s.seq h'))
    have sm : Same H (upd H T (.tup [u, v])) := Same.upd hT
    have g := gn_of (hA _ s) sm
    refine ⟨sm, .seq .tup [d, f], ?_, .tup (vs := [u, v]) (.inl (.inl ?_)) (.cons (d2.mono g) (.cons (f2.mono g) .nil))⟩
    · unfold zipD
      have hz : (ds.zip es)[i]? = some (d, f) := List.getElem?_zip_eq_some.mpr ⟨d1, f1⟩
      rw [List.getElem?_map, hz]
      rfl
    · show (if H T = none then upd H T (.tup [u, v]) T else A T) = _
      rw [if_pos hT, upd_same]
theorem pmi_zip {elts : List Expr} {kk : Nat} {tpos : Pos} (ha : PM X E W a ma) (hb : PM X E W b mb) (hm : X.mg "zip" = none) (hg : Gl X "zip" := by rfl)
    (hs : starEach [a, b] X.env = (false, eval a X.env) :: starEach [b] X.env := by rfl) (hs2 : starEach [b] X.env = (false, eval b X.env) :: starEach [] X.env := by rfl)
    (hpl : (backTo pos (starEach [b] X.env)).any (·.1) = false := by rfl) : PMI X E W (.Tuple elts kk tpos) (.Call (.Name "zip" p) [a, b] [] pos) (wmZip ma mb) :=
  PI.imp (pi_zip hg hm (pa_cons ha (pa_cons hb pa_nil hs2) hs) hs hpl) fun σ H R ⟨B, ρ, S, h⟩ => GG.bindE S h fun x tx vx H1 rx e1 S1 h1 => by
    have h1' := GG.mono h1 e1 fun _ q => q
    refine GG.bindE S1 h1' fun y ty vy H2 ry e2 S2 h2 => ?_
    match x, y, h2, rx, ry with
    | .seq k ds, .seq l fs, h2, rx, ry =>
      have h3 : GG X.mg W σ H1 (fun p => ∀ J H1, Same H H1 → SR X.K X.mg E B ρ σ H1 → Wk X.K X.mg (ar B ρ σ H1) (hid B (frzO p.2 ρ) σ H1) J p.1 → R J H1) (if k = .tup ∨ l = .tup then .bad else (match slot2 tx.slot ty.slot with
        | some o => .ok (zipD ds fs, o)
        | none => .bad)) := h2
      by_cases hc : k = .tup ∨ l = .tup
      · rw [if_pos hc] at h3
        exact h3.elim
      · rw [if_neg hc] at h3
        have hk : k ≠ .tup := fun z => hc (.inl z)
        have hl : l ≠ .tup := fun z => hc (.inr z)
        cases eo : slot2 tx.slot ty.slot with
        | none => rw [eo] at h3; exact h3.elim
        | some o =>
          rw [eo] at h3
          have o1 : ∀ i, tx.slot = some i → o = some i := fun i hi => by
            rw [hi] at eo
            cases ej : ty.slot with
            | none => rw [ej] at eo; cases eo; rfl
            | some j => rw [ej] at eo; cases eo
          have o2 : ∀ i, ty.slot = some i → o = some i := fun i hi => by
            rw [hi] at eo
            cases ej : tx.slot with
            | none => rw [ej] at eo; cases eo; rfl
            | some j => rw [ej] at eo; cases eo
          obtain ⟨q, vs, rfl, q1, q2⟩ := seq_hid S S2 hk (rx.mono e2) o o1
          obtain ⟨r, ws, rfl, r1, r2⟩ := seq_hid S1 S2 hl ry o o2
          refine ⟨q, r, vs, ws, rfl, hid_sub.seq q1, hid_sub.seq r1, h3 _ H2 (e1.trans e2) S2 (wk_zip q1 r1 q2 r2 fun H' s => (ar_hid S2 fun _ z => own_frzO z).trans s)⟩
end
/-! ### an object made with a list of one's own, which is only read -/
theorem reps_det {K : PySem.W.Frag} {mg : Str → Option Value} {G G' : Hp} : ∀ {ds : List D} {vs vs' : List V}, Reps K mg G ds vs → Reps K mg G' ds vs' → ds.all D.sc = true → vs = vs'
  | _, _, _, .nil, .nil, _ => rfl
  | _, _, _, .cons r rs, .cons r' rs', h => by
    rw [List.all_cons, Bool.and_eq_true] at h
    rw [reps_det rs rs' h.2]
    have h1 := h.1
    cases r <;> first | (cases h1; done) | skip
    all_goals cases r' <;> rfl
abbrev Bs.ini2 (G H0 : Hp) (x a : Addr) : Bs := ⟨G, H0, fun b => b = x ∨ b = a⟩
def spIB (K : PySem.W.Frag) (mg : Str → Option Value) (C : String) (n : Nat) (g : IF) : Sp := fun vs H Q _ => vs.length = n + 1 ∧ ∃ (G H0 : Hp) (x a c dx : Addr) (ws us us0 : List V) (ns : List String) (es ds es0 : List D),
  vs = .ref x :: .ref a :: ws ∧ x ≠ a ∧ mg (C : Str) = some (.ref c) ∧ Same G H0 ∧ Same H0 H ∧ H0 x = none ∧ H0 a = none ∧ H x = some (.ins c dx ((ns.map Str.ofString).zip us)) ∧ H a = some (.lst us0) ∧ us.length = ns.length ∧ Reps K mg G es us ∧ Reps K mg G es0 us0 ∧ Reps K mg G ds ws ∧
  (match g (.seq .lst es0 :: ds) ns es with
   | .ok (ns', es') => ∀ H' us' us0', Same H0 H' → H' x = some (.ins c dx ((ns'.map Str.ofString).zip us')) → H' a = some (.lst us0') → Reps K mg (ar (Bs.ini2 G H0 x a) [] [] H') es0 us0' → us'.length = ns'.length → Reps K mg (ar (Bs.ini2 G H0 x a) [] [] H') es' us' → Q .non H'
   | _ => False)
theorem own2 {es0 ds : List D} {ws : List V} {x a : Addr} : ∀ b, Own (.no :: .oo .lst es0 :: ds.map Sl.fz) (some (V.ref x) :: some (V.ref a) :: ws.map some) b ↔ b = a := fun b => by
  constructor
  · rintro ⟨i, l, fs, z1, z2⟩
    match i, z1, z2 with
    | 0, z1, _ => cases z1
    | 1, _, z2 => cases z2; rfl
    | i + 2, z1, _ =>
      rw [List.getElem?_cons_succ, List.getElem?_cons_succ, List.getElem?_map] at z1
      cases e : ds[i]? with
      | none => rw [e] at z1; cases z1
      | some d => rw [e] at z1; cases z1
  · rintro rfl
    exact ⟨1, .lst, es0, rfl, rfl⟩
theorem ar_ini2 {G H0 H' : Hp} {x a : Addr} {ρ : Rho} {σ : St} (ho : ∀ b, Own ρ σ b ↔ b = a) : ar (Bs.ini G H0 x) ρ σ H' = ar (Bs.ini2 G H0 x a) [] [] H' := by
  funext b
  by_cases h : b = x ∨ b = a
  · rw [ar_out (h.imp id (ho b).mpr), ar_out (.inl h)]
  · have h1 : ¬ ((Bs.ini G H0 x).X b ∨ Own ρ σ b) := fun z => h (z.imp id (ho b).mp)
    have h2 : ¬ ((Bs.ini2 G H0 x a).X b ∨ Own [] [] b) := fun z => z.elim h own_nil
    by_cases hn : H0 b = none
    · rw [ar_none h1 hn, ar_none h2 hn]
    · rw [ar_some h1 hn, ar_some h2 hn]
theorem start_iniB {K : PySem.W.Frag} {mg : Str → Option Value} {G H0 H : Hp} {x a : Addr} {es0 ds : List D} {us0 ws : List V} (hxa : x ≠ a) (gh : Same G H0) (h0 : H0 x = none) (ha0 : H0 a = none) (hH : Same H0 H) (hx : ∃ o, H x = some o) (ha : H a = some (.lst us0)) (r0 : Reps K mg G es0 us0) (r : Reps K mg G ds ws) :
    Same G (ar (Bs.ini G H0 x) (.no :: .oo .lst es0 :: ds.map Sl.fz) (some (V.ref x) :: some (V.ref a) :: ws.map some) H) ∧
    SR K mg none (Bs.ini G H0 x) (.no :: .oo .lst es0 :: ds.map Sl.fz) (some (V.ref x) :: some (V.ref a) :: ws.map some) H := by
  have hl := r.length
  have ho := own2 (es0 := es0) (ds := ds) (ws := ws) (x := x) (a := a)
  have same : Same G (ar (Bs.ini G H0 x) (.no :: .oo .lst es0 :: ds.map Sl.fz) (some (V.ref x) :: some (V.ref a) :: ws.map some) H) := fun b o h => by
    have hb0 := gh _ _ h
    have hbx : b ≠ x := fun z => by
      subst z
      rw [h0] at hb0
      cases hb0
    have hba : b ≠ a := fun z => by
      subst z
      rw [ha0] at hb0
      cases hb0
    rw [ar_some (fun z => z.elim (fun q => hbx q) (fun q => hba ((ho b).mp q))) (by show ¬ H0 b = none; rw [hb0]; simp)]
    exact h
  have one : ∀ {i : Nat} {l : OwK} {es : List D}, (Sl.no :: Sl.oo .lst es0 :: ds.map Sl.fz)[i]? = some (.oo l es) → i = 1 ∧ l = .lst ∧ es = es0 := fun {i l es} h => by
    match i, h with
    | 0, h => cases h
    | 1, h => cases h; exact ⟨rfl, rfl, rfl⟩
    | i + 2, h =>
      rw [List.getElem?_cons_succ, List.getElem?_cons_succ, List.getElem?_map] at h
      cases e : ds[i]? with
      | none => rw [e] at h; cases h
      | some d => rw [e] at h; cases h
  refine ⟨same, by simp [hl], fun i d h => ?_, fun i k es h => ?_, fun i j b k l es fs h h' _ _ => by rw [(one h).1, (one h').1], fun i C h => ?_, gh, hH, fun b z => ?_, fun b hb z => ?_, fun b z => ?_⟩
  · match i, h with
    | 0, h => cases h
    | 1, h => cases h
    | i + 2, h =>
      rw [List.getElem?_cons_succ, List.getElem?_cons_succ, List.getElem?_map] at h
      obtain ⟨d', e1, e2⟩ := Option.map_eq_some_iff.mp h
      cases e2
      obtain ⟨v, q1, q2⟩ := r.get e1
      exact ⟨v, by rw [List.getElem?_cons_succ, List.getElem?_cons_succ, List.getElem?_map, q1]; rfl, q2.mono same⟩
  · obtain ⟨rfl, rfl, rfl⟩ := one h
    exact ⟨a, _, us0, rfl, ha, rfl, r0.mono same⟩
  · match i, h with
    | 0, h => cases h
    | 1, h => cases h
    | i + 2, h =>
      rw [List.getElem?_cons_succ, List.getElem?_cons_succ, List.getElem?_map] at h
      obtain ⟨d', e1, e2⟩ := Option.map_eq_some_iff.mp h
      cases e2
  · rcases z with z | z
    · exact z ▸ h0
    · exact (ho b).mp z ▸ ha0
  · replace hb : b = x := hb
    exact hxa (hb ▸ (ho b).mp z)
  · exact z ▸ hx
theorem fn_iB {CX : CXT} {P : Program} {w : World} {K : PySem.W.Frag} {mg : Str → Option Value} {base : Heap} {x qual : Str} {st : Stmt} {f : Addr} {fd : FuncData} {N ps : List Str} {k np : Nat} {C : String} {m : IM} (F : FunD K x qual st f fd) (S : FnScope N ps (defScope st)) (hps : ps.length = np + 1) (hN : N.length = np + 1)
    (hbody : ∀ (cdv : Value) (A : Around) (outer : List Env) (s : Shared) (H : Hp) (E : XK), Room k (A.deeper (PyProof.Rows.envOfC qual (defScope st) s.heap.objs.size f cdv)) →
      PSs (cxOf CX P w K mg base N qual (defScope st) f cdv A outer s H E) (defBody st) (tIni K mg none C m)) :
    FnOk P w K mg base CX (k + 1) f fd ps (spIB K mg C np (mInitB np m)) := by
  obtain ⟨oc, od, dV, kV, doc, pm, an, cdv, ct, osl, rfl, lk, hcd⟩ := F.ex
  refine fn_of lk hcd S (fun vs H Q E h => by rw [hps]; exact h.1) (fun A outer s H vs Q E hr h => ?_)
  obtain ⟨hl, G, H0, x, a, c, dx, ws, us, us0, ns, es, ds, es0, rfl, hxa, hm, gh, hH, h0, ha0, ho, hoa, hlu, r, r0, rd, h⟩ := h
  obtain ⟨sm, SS⟩ := start_iniB hxa gh h0 ha0 hH ⟨_, ho⟩ hoa r0 rd
  have st0 : L2.start N (V.ref x :: V.ref a :: ws) = some (.ref x) :: some (.ref a) :: ws.map some := by
    unfold L2.start
    rw [hN, hl]
    simp
  refine ⟨_, hbody cdv A outer s H E hr, Bs.ini G H0 x, .no :: .oo .lst es0 :: ds.map .fz, x, c, dx, ns, es, us, ?_, rfl, ?_, hm, ho, hlu, ?_, ?_⟩
  · rw [st0]
    exact SS
  · rfl
  · rw [st0]
    exact r.mono sm
  · unfold mInitB at h
    dsimp only at h
    rw [if_pos (by rw [rd.length]; simpa using hl)] at h
    cases e : m (.no :: .oo .lst es0 :: ds.map .fz) ns es with
    | ex C => rw [e] at h; exact h.elim
    | bad => rw [e] at h; exact h.elim
    | ok y =>
      obtain ⟨ns', es'⟩ := y
      rw [e] at h
      intro H' us' S' hx' hl' r'
      rw [st0] at S' r'
      obtain ⟨a', o, us0', q1, q2, q3, q4⟩ := S'.ow 1 .lst es0 rfl
      cases q1
      cases q3
      rw [ar_ini2 own2] at q4 r'
      exact h H' us' us0' S'.bh hx' q2 q4 hl' r'
section
variable {X : Cx} {E : ExE} {W : WX} {pos p q apos : Pos} {a e o : Expr} {ma mo : EM} {C : String} {es : List Expr} {am : AM}
structure MakeOkB (P : Program) (w : World) (K : PySem.W.Frag) (mg : Str → Option Value) (base : Heap) (b : Bool) (C : String) (k n : Nat) (g : IF) : Prop where
  ex : ∃ (c f : Addr) (fd : FuncData) (ps : List Str), mg (C : Str) = some (.ref c) ∧ Mk K c f ∧ Binds K fd ps [] ∧ FnOk P w K mg base (CXm b P w) k f fd ps (spIB K mg C n g)
theorem pm_makeB {b : Bool} {k k' n : Nat} {g : IF} (M : MakeOkB X.prog X.w X.K X.mg X.base b C k (n + 1) g) (tk : Tks b X W) (hr : Room k' X.A) (he : PM X E W e ma) (ha : PMA X E W es am) (hn : AMn am n) (hk : k + 1 ≤ k' := by decide) (hg : Gl X (C : Str) := by rfl) (hdb : ((C : Str) == ("__debug__" : Str)) = false := by decide)
    (hst : starEach (e :: es) X.env = (false, eval e X.env) :: starEach es X.env := by rfl) (hpl : (backTo pos (starEach es X.env)).any (·.1) = false := by rfl) :
    PM X E W (.Call (.Name (C : Str) p) (e :: es) [] pos) (mMakeB C g ma am) := by
  obtain ⟨c, f, fd, ps, hm, Mk, hb, F⟩ := M.ex
  have haa : PMA X E W (e :: es) (amCons ma am) := pma_cons he ha hst
  refine ⟨fun pins s σ H Q I h => ?_⟩
  refine wpAny_Call_Name_kw (ld_glob I hg hm ?_ hdb)
  obtain ⟨B, ρ, S, h⟩ := h
  have hta : tA X.K X.mg E W (amCons ma am) σ H fun vs H1 => ∀ x dx, H1 x = none → H1 dx = none → dx ≠ x → spIB X.K X.mg C (n + 1) g (.ref x :: vs) (upd (upd H1 dx (.own x)) x (.ins c dx [])) (fun v H2 => v = .non ∧ Q (.ref x) H2) (WE W σ) := by
    refine ⟨B, ρ, S, ?_⟩
    replace h := h.gg
    unfold mMakeB at h
    unfold amCons
    cases em : ma ρ with
    | ex C => rw [em] at h; exact h
    | bad => rw [em] at h; exact h
    | ok y0 =>
      obtain ⟨d0, t0⟩ := y0
      rw [em, Res.bind_ok] at h
      rw [Res.bind_ok]
      match d0, t0, h with
      | .seq .lst es0, .own i0, h =>
        replace h : GG X.mg W σ H (fun x => ∀ v H', Same H H' → RT X.K X.mg B ρ σ H H' x.1 x.2 v → Q v H') (if es0.all D.sc then (am ρ).bind fun xs => (kept xs).bind fun ds => (noEx (g (.seq .lst es0 :: ds) [] [])).bind fun p => .ok (.obj C p.1 p.2, .fr) else .bad) := h
        by_cases hsc : es0.all D.sc = true
        · rw [if_pos hsc] at h
          cases ea : am ρ with
          | ex C => rw [ea] at h; exact h
          | bad => rw [ea] at h; exact h
          | ok xs =>
            rw [ea, Res.bind_ok] at h
            rw [Res.bind_ok]
            intro ws0 H1 s1 rs0 x dx hx hdx hne
            cases rs0 with
            | cons r00 rs =>
            rename_i v0 ws
            obtain ⟨kk, ds0, z1, z2, z3⟩ := (show ∃ k ds, ρ[i0]? = some (.oo k ds) ∧ D.seq .lst es0 = k.asD ds ∧ σ[i0]? = some (some v0) from r00)
            cases kk with
            | dic _ => cases z2
            | dit _ => cases z2
            | ins _ _ => cases z2
            | lst =>
            cases z2
            unfold kept at h
            by_cases hf : xs.all (fun x => x.2.free || x.1.sc) = true
            · rw [if_pos hf, Res.bind_ok] at h
              have S1 := S.mono s1
              obtain ⟨ad, o, us0, y1, y2, y3, y4⟩ := S1.ow i0 .lst es0 z1
              cases y3
              rw [z3] at y1
              cases y1
              have rk := rs.keep S s1 (fun y hy => by have := List.all_eq_true.mp hf y hy; simpa using this)
              have hax : ad ≠ x := fun z => by
                subst z
                rw [hx] at y2; cases y2
              have hadx : ad ≠ dx := fun z => by
                subst z
                rw [hdx] at y2; cases y2
              have hown : Own ρ σ ad := ⟨i0, .lst, es0, z1, z3⟩
              have ngx : ∀ b o, ar B ρ σ H1 b = some o → b ≠ ad := fun b o hb z => by
                subst z
                rw [ar_out (.inr hown)] at hb
                cases hb
              refine ⟨by rw [List.length_cons, List.length_cons, ← rs.len, hn ρ xs ea], ar B ρ σ H1, fun b => if b = ad then none else H1 b, x, ad, c, dx, ws, [], us0, [], [], xs.map (·.1), es0, rfl, fun z => hax z.symm, hm, ?_, ?_, ?_, if_pos rfl, upd_same, ?_, rfl, .nil, y4, rk, ?_⟩
              · intro b o hb
                show (if b = ad then none else H1 b) = some o
                rw [if_neg (ngx b o hb)]
                exact S1.sub _ _ hb
              · intro b o hb
                replace hb : (if b = ad then none else H1 b) = some o := hb
                by_cases z : b = ad
                · rw [if_pos z] at hb; cases hb
                · rw [if_neg z] at hb
                  have hbx : b ≠ x := fun q => by subst q; rw [hx] at hb; cases hb
                  have hbd : b ≠ dx := fun q => by subst q; rw [hdx] at hb; cases hb
                  rw [upd_ne hbx, upd_ne hbd]
                  exact hb
              · show (if x = ad then none else H1 x) = none
                rw [if_neg (fun z => hax z.symm)]
                exact hx
              · rw [upd_ne hax, upd_ne hadx]
                exact y2
              · cases eg : g (.seq .lst es0 :: xs.map (·.1)) [] [] with
                | ex C => rw [eg] at h; exact h.elim
                | bad => rw [eg] at h; exact h.elim
                | ok y =>
                  obtain ⟨ns', es'⟩ := y
                  rw [eg] at h
                  intro H' us' us0' s' hx' ha' r0' hl' r'
                  refine ⟨rfl, ?_⟩
                  obtain rfl := reps_det y4 r0' hsc
                  have sH1 : Same H1 H' := fun b o hb => by
                    by_cases z : b = ad
                    · subst z
                      rw [y2] at hb
                      cases hb
                      exact ha'
                    · exact s' b o (show (if b = ad then none else H1 b) = some o by rw [if_neg z]; exact hb)
                  have sH : Same H H' := s1.trans sH1
                  refine h (.ref x) H' sH ⟨x, _, .ins C ns', es', us', rfl, rfl, s1.free hx, hx', ?_, ?_⟩
                  · exact ⟨c, dx, hm, hl', rfl⟩
                  · refine r'.mono fun b o hb => ?_
                    have hz : ¬ ((Bs.ini2 (ar B ρ σ H1) (fun b => if b = ad then none else H1 b) x ad).X b ∨ Own [] [] b) := fun z => by
                      rw [ar_out z] at hb
                      cases hb
                    have hbx : b ≠ x := fun z => hz (.inl (.inl z))
                    have hba : b ≠ ad := fun z => hz (.inl (.inr z))
                    by_cases hn1 : H1 b = none
                    · have hn0 : (Bs.ini2 (ar B ρ σ H1) (fun b => if b = ad then none else H1 b) x ad).H b = none := by
                        show (if b = ad then none else H1 b) = none
                        rw [if_neg hba]; exact hn1
                      rw [ar_none hz hn0] at hb
                      have hnB : ¬ ((B.add x).X b ∨ Own ρ σ b) := fun z => by
                        rcases z with (z | z) | z
                        · exact hbx z
                        · obtain ⟨o', q⟩ := S1.xt b z
                          rw [hn1] at q; cases q
                        · obtain ⟨o', q⟩ := S1.there z
                          rw [hn1] at q; cases q
                      have hBH : (B.add x).H b = none := by
                        show B.H b = none
                        cases eb : B.H b with
                        | none => rfl
                        | some o' =>
                          have := S1.bh _ _ eb
                          rw [hn1] at this; cases this
                      rw [ar_none hnB hBH]
                      exact hb
                    · have hn0 : ¬ (Bs.ini2 (ar B ρ σ H1) (fun b => if b = ad then none else H1 b) x ad).H b = none := by
                        show ¬ (if b = ad then none else H1 b) = none
                        rw [if_neg hba]; exact hn1
                      rw [ar_some hz hn0] at hb
                      have hb' : ar B ρ σ H1 b = some o := hb
                      have hnB : ¬ (B.X b ∨ Own ρ σ b) := fun z => by
                        rw [ar_out z] at hb'
                        cases hb'
                      have hnB' : ¬ ((B.add x).X b ∨ Own ρ σ b) := fun z => by
                        rcases z with (z | z) | z
                        · exact hbx z
                        · exact hnB (.inl z)
                        · exact hnB (.inr z)
                      by_cases hBH : B.H b = none
                      · rw [ar_none hnB hBH] at hb'
                        rw [ar_none hnB' hBH]
                        exact sH1 _ _ hb'
                      · rw [ar_some hnB hBH] at hb'
                        rw [ar_some hnB' hBH]
                        exact hb'
            · rw [if_neg hf] at h
              exact h.elim
        · rw [if_neg hsc] at h
          exact h.elim
  refine PySem.W.callWith_K (h₀ := X.base) I.ok.mod.kin Mk.kp (thn (haa.run pos pins s σ H _ I hta) fun us s1 ⟨vs, H1, I1, r, q⟩ => ⟨I1.kIn, ?_⟩) hst hpl
  exact run_makeS Mk F (hr.mono hk) hb (tk.pass σ) I1 r q
end
end Dm
end

section
set_option Elab.async false
set_option linter.all false
set_option maxRecDepth 100000
set_option maxHeartbeats 4000000
/-! Dm: objects made with parameters left out. -/
namespace Dm
open PySem PySem.Spec L2 TL
section
variable {X : Cx} {E : ExE} {W : WX} {pos p q apos : Pos} {a e o : Expr} {ma mo : EM} {C : String} {es : List Expr} {am : AM}
structure MakeOkD (P : Program) (w : World) (K : PySem.W.Frag) (mg : Str → Option Value) (base : Heap) (b : Bool) (C : String) (k n : Nat) (g : IF) (dD : List Dm.D) : Prop where
  ex : ∃ (c f : Addr) (fd : FuncData) (ps : List Str) (ds : List Value) (dvs : List V), mg (C : Str) = some (.ref c) ∧ Mk K c f ∧ Binds K fd ps ds ∧ Vals dvs ds ∧ (∀ G : Hp, Reps K mg G dD dvs) ∧ FnOk P w K mg base (CXm b P w) k f fd ps (spI K mg C (n + dD.length) g)
structure MakeOkBD (P : Program) (w : World) (K : PySem.W.Frag) (mg : Str → Option Value) (base : Heap) (b : Bool) (C : String) (k n : Nat) (g : IF) (dD : List Dm.D) : Prop where
  ex : ∃ (c f : Addr) (fd : FuncData) (ps : List Str) (ds : List Value) (dvs : List V), mg (C : Str) = some (.ref c) ∧ Mk K c f ∧ Binds K fd ps ds ∧ Vals dvs ds ∧ (∀ G : Hp, Reps K mg G dD dvs) ∧ FnOk P w K mg base (CXm b P w) k f fd ps (spIB K mg C (n + dD.length) g)
theorem run_makeSD {CX : CXT} {k : Nat} {c f : Addr} {fd : FuncData} {ps : List Str} {sp : Sp} {E : XK} {pins : List (Addr × Obj)} {σ : St} {H : Hp} {s : Shared} {Q : VK} {us : List Value} {vs : List V} (M : Mk X.K c f) (F : FnOk X.prog X.w X.K X.mg X.base CX k f fd ps sp) (hr : Room (k + 1) X.A) {ds : List Value} {dvs : List V} (hb : Binds X.K fd ps ds) (hd : Vals dvs ds)
    (hx : PassesAt CX X σ E) (I : Inv X pins σ H s) (r : Vals vs us)
    (h : ∀ x dx, H x = none → H dx = none → dx ≠ x → sp (.ref x :: (vs ++ dvs)) (upd (upd H dx (.own x)) x (.ins c dx [])) (fun v H2 => v = .non ∧ Q (.ref x) H2) E) :
    wpAny (model X.prog X.w) X.A (call (.ref c) us) (EP X pins σ Q) X.xe s := by
  have hq := h (s.heap.objs.size + 1) s.heap.objs.size (I.hok.fresh (Nat.le_succ _)) (I.hok.fresh (Nat.le_refl _)) (Nat.ne_of_lt (Nat.lt_succ_self _))
  have I2 := Inv.made (C := c) I
  have r2 : Vals (V.ref (s.heap.objs.size + 1) :: vs) (Value.ref (s.heap.objs.size + 1) :: us) := .cons rfl r
  have r3 : Vals (V.ref (s.heap.objs.size + 1) :: (vs ++ dvs)) (Value.ref (s.heap.objs.size + 1) :: us ++ ds) := r2.append hd
  have hl : (Value.ref (s.heap.objs.size + 1) :: us ++ ds).length = ps.length := by
    have e := r3.length
    rw [F.len _ _ _ _ hq] at e
    exact e.symm
  have b := hb _ (Value.ref (s.heap.objs.size + 1) :: us) I2.kIn hl
  refine wpAny_call (make_map (f := f) I.kIn M.makes M.init (beq_iff_eq.mp M.fn) (codeAny_mono (F.run _ X.stack _ _ ⟨Value.ref (s.heap.objs.size + 1) :: us, []⟩ (Value.ref (s.heap.objs.size + 1) :: us ++ ds) _ _ E (hr.make c us [])
    (I2.env0.make c us []) b r3 hq) fun r s' hq' => ?_))
  cases r with
  | error e => exact hx pins _ _ e s' I2 hq'
  | ok fl =>
    cases fl with
    | ret u =>
      obtain ⟨v, H', I3, rv, ev, q3⟩ := I2.after hq'
      subst ev
      exact ⟨rv, ⟨V.ref (s.heap.objs.size + 1), H', I3, rfl, q3⟩⟩
    | next => exact False.elim hq'
    | brk => exact False.elim hq'
    | cont => exact False.elim hq'
theorem pm_makeD {b : Bool} {k k' n : Nat} {g : IF} {dD : List Dm.D} (M : MakeOkD X.prog X.w X.K X.mg X.base b C k n g dD) (tk : Tks b X W) (hr : Room k' X.A) (ha : PMA X E W (e :: es) am) (hn : AMn am n) (hk : k + 1 ≤ k' := by decide) (hg : Gl X (C : Str) := by rfl) (hdb : ((C : Str) == ("__debug__" : Str)) = false := by decide)
    (he : starEach (e :: es) X.env = (false, eval e X.env) :: starEach es X.env := by rfl) (hpl : (backTo pos (starEach es X.env)).any (·.1) = false := by rfl) :
    PM X E W (.Call (.Name (C : Str) p) (e :: es) [] pos) (mMake C (iDef g dD) am) := by
  obtain ⟨c, f, fd, ps, ds, dvs, hm, Mk, hb, hd, hD, F⟩ := M.ex
  refine ⟨fun pins s σ H Q I h => ?_⟩
  refine wpAny_Call_Name_kw (ld_glob I hg hm ?_ hdb)
  obtain ⟨B, ρ, S, h⟩ := h
  have hta : tA X.K X.mg E W am σ H fun vs H1 => ∀ x dx, H1 x = none → H1 dx = none → dx ≠ x → spI X.K X.mg C (n + dD.length) g (.ref x :: (vs ++ dvs)) (upd (upd H1 dx (.own x)) x (.ins c dx [])) (fun v H2 => v = .non ∧ Q (.ref x) H2) (WE W σ) := by
    refine ⟨B, ρ, S, ?_⟩
    replace h := h.gg
    unfold mMake at h
    cases ea : am ρ with
    | ex C => rw [ea] at h; exact h
    | bad => rw [ea] at h; exact h
    | ok xs =>
      rw [ea] at h
      intro ws H1 s1 rs x dx hx hdx hne
      rw [Res.bind_ok] at h
      unfold kept at h
      by_cases hf : xs.all (fun x => x.2.free || x.1.sc) = true
      · rw [if_pos hf, Res.bind_ok] at h
        have S1 := S.mono s1
        have rk := rs.keep S s1 (fun y hy => by have := List.all_eq_true.mp hf y hy; simpa using this)
        have sU : Same H1 (upd (upd H1 dx (.own x)) x (.ins c dx [])) := (Same.upd hdx).trans (Same.upd (by rw [upd_ne (fun z => hne z.symm)]; exact hx))
        refine ⟨by rw [List.length_cons, List.length_append, ← rs.len, hn ρ xs ea, ← (hD (fun _ => none)).length], ar B ρ σ H1, H1, x, c, dx, ws ++ dvs, [], [], [], xs.map (·.1) ++ dD, rfl, hm, S1.sub, sU, hx, upd_same, rfl, .nil, rk.app (hD _), ?_⟩
        unfold iDef at h
        cases eg : g (xs.map (·.1) ++ dD) [] [] with
        | ex C => rw [eg] at h; exact h.elim
        | bad => rw [eg] at h; exact h.elim
        | ok y =>
          obtain ⟨ns', es'⟩ := y
          rw [eg] at h
          intro H' us' s' hx' hl' r'
          refine ⟨rfl, ?_⟩
          have sH : Same H H' := s1.trans s'
          refine h (.ref x) H' sH ⟨x, _, .ins C ns', es', us', rfl, rfl, s1.free hx, hx', ?_, ?_⟩
          · exact ⟨c, dx, hm, hl', rfl⟩
          · refine r'.mono fun b o hb => ?_
            have hz : ¬ ((Bs.ini (ar B ρ σ H1) H1 x).X b ∨ Own [] [] b) := fun z => by
              rw [ar_out z] at hb
              cases hb
            have hbx : b ≠ x := fun z => hz (.inl z)
            by_cases hn1 : H1 b = none
            · have hn0 : (Bs.ini (ar B ρ σ H1) H1 x).H b = none := hn1
              rw [ar_none hz hn0] at hb
              have hnB : ¬ ((B.add x).X b ∨ Own ρ σ b) := fun z => by
                rcases z with (z | z) | z
                · exact hbx z
                · obtain ⟨o', q⟩ := S1.xt b z
                  rw [hn1] at q; cases q
                · obtain ⟨o', q⟩ := S1.there z
                  rw [hn1] at q; cases q
              have hBH : (B.add x).H b = none := by
                show B.H b = none
                cases eb : B.H b with
                | none => rfl
                | some o' =>
                  have := S1.bh _ _ eb
                  rw [hn1] at this; cases this
              rw [ar_none hnB hBH]
              exact hb
            · have hn0 : ¬ (Bs.ini (ar B ρ σ H1) H1 x).H b = none := hn1
              rw [ar_some hz hn0] at hb
              have hb' : ar B ρ σ H1 b = some o := hb
              have hnB : ¬ (B.X b ∨ Own ρ σ b) := fun z => by
                rw [ar_out z] at hb'
                cases hb'
              have hnB' : ¬ ((B.add x).X b ∨ Own ρ σ b) := fun z => by
                rcases z with (z | z) | z
                · exact hbx z
                · exact hnB (.inl z)
                · exact hnB (.inr z)
              by_cases hBH : B.H b = none
              · rw [ar_none hnB hBH] at hb'
                rw [ar_none hnB' hBH]
                exact s' _ _ hb'
              · rw [ar_some hnB hBH] at hb'
                rw [ar_some hnB' hBH]
                exact hb'
      · rw [if_neg hf] at h
        exact h.elim
  refine PySem.W.callWith_K (h₀ := X.base) I.ok.mod.kin Mk.kp (thn (ha.run pos pins s σ H _ I hta) fun us s1 ⟨vs, H1, I1, r, q⟩ => ⟨I1.kIn, ?_⟩) he hpl
  exact run_makeSD Mk F (hr.mono hk) hb hd (tk.pass σ) I1 r q
theorem pm_makeBD {b : Bool} {k k' n : Nat} {g : IF} {dD : List Dm.D} (M : MakeOkBD X.prog X.w X.K X.mg X.base b C k (n + 1) g dD) (tk : Tks b X W) (hr : Room k' X.A) (he : PM X E W e ma) (ha : PMA X E W es am) (hn : AMn am n) (hk : k + 1 ≤ k' := by decide) (hg : Gl X (C : Str) := by rfl) (hdb : ((C : Str) == ("__debug__" : Str)) = false := by decide)
    (hst : starEach (e :: es) X.env = (false, eval e X.env) :: starEach es X.env := by rfl) (hpl : (backTo pos (starEach es X.env)).any (·.1) = false := by rfl) :
    PM X E W (.Call (.Name (C : Str) p) (e :: es) [] pos) (mMakeB C (iDef g dD) ma am) := by
  obtain ⟨c, f, fd, ps, ds, dvs, hm, Mk, hb, hd, hD, F⟩ := M.ex
  have haa : PMA X E W (e :: es) (amCons ma am) := pma_cons he ha hst
  refine ⟨fun pins s σ H Q I h => ?_⟩
  refine wpAny_Call_Name_kw (ld_glob I hg hm ?_ hdb)
  obtain ⟨B, ρ, S, h⟩ := h
  have hta : tA X.K X.mg E W (amCons ma am) σ H fun vs H1 => ∀ x dx, H1 x = none → H1 dx = none → dx ≠ x → spIB X.K X.mg C (n + 1 + dD.length) g (.ref x :: (vs ++ dvs)) (upd (upd H1 dx (.own x)) x (.ins c dx [])) (fun v H2 => v = .non ∧ Q (.ref x) H2) (WE W σ) := by
    refine ⟨B, ρ, S, ?_⟩
    replace h := h.gg
    unfold mMakeB at h
    unfold amCons
    cases em : ma ρ with
    | ex C => rw [em] at h; exact h
    | bad => rw [em] at h; exact h
    | ok y0 =>
      obtain ⟨d0, t0⟩ := y0
      rw [em, Res.bind_ok] at h
      rw [Res.bind_ok]
      match d0, t0, h with
      | .seq .lst es0, .own i0, h =>
        replace h : GG X.mg W σ H (fun x => ∀ v H', Same H H' → RT X.K X.mg B ρ σ H H' x.1 x.2 v → Q v H') (if es0.all D.sc then (am ρ).bind fun xs => (kept xs).bind fun ds => (noEx (iDef g dD (.seq .lst es0 :: ds) [] [])).bind fun p => .ok (.obj C p.1 p.2, .fr) else .bad) := h
        by_cases hsc : es0.all D.sc = true
        · rw [if_pos hsc] at h
          cases ea : am ρ with
          | ex C => rw [ea] at h; exact h
          | bad => rw [ea] at h; exact h
          | ok xs =>
            rw [ea, Res.bind_ok] at h
            rw [Res.bind_ok]
            intro ws0 H1 s1 rs0 x dx hx hdx hne
            cases rs0 with
            | cons r00 rs =>
            rename_i v0 ws
            obtain ⟨kk, ds0, z1, z2, z3⟩ := (show ∃ k ds, ρ[i0]? = some (.oo k ds) ∧ D.seq .lst es0 = k.asD ds ∧ σ[i0]? = some (some v0) from r00)
            cases kk with
            | dic _ => cases z2
            | dit _ => cases z2
            | ins _ _ => cases z2
            | lst =>
            cases z2
            unfold kept at h
            by_cases hf : xs.all (fun x => x.2.free || x.1.sc) = true
            · rw [if_pos hf, Res.bind_ok] at h
              have S1 := S.mono s1
              obtain ⟨ad, o, us0, y1, y2, y3, y4⟩ := S1.ow i0 .lst es0 z1
              cases y3
              rw [z3] at y1
              cases y1
              have rk := rs.keep S s1 (fun y hy => by have := List.all_eq_true.mp hf y hy; simpa using this)
              have hax : ad ≠ x := fun z => by
                subst z
                rw [hx] at y2; cases y2
              have hadx : ad ≠ dx := fun z => by
                subst z
                rw [hdx] at y2; cases y2
              have hown : Own ρ σ ad := ⟨i0, .lst, es0, z1, z3⟩
              have ngx : ∀ b o, ar B ρ σ H1 b = some o → b ≠ ad := fun b o hb z => by
                subst z
                rw [ar_out (.inr hown)] at hb
                cases hb
              refine ⟨by rw [List.length_cons, List.length_append, List.length_cons, ← rs.len, hn ρ xs ea, ← (hD (fun _ => none)).length], ar B ρ σ H1, fun b => if b = ad then none else H1 b, x, ad, c, dx, ws ++ dvs, [], us0, [], [], xs.map (·.1) ++ dD, es0, rfl, fun z => hax z.symm, hm, ?_, ?_, ?_, if_pos rfl, upd_same, ?_, rfl, .nil, y4, rk.app (hD _), ?_⟩
              · intro b o hb
                show (if b = ad then none else H1 b) = some o
                rw [if_neg (ngx b o hb)]
                exact S1.sub _ _ hb
              · intro b o hb
                replace hb : (if b = ad then none else H1 b) = some o := hb
                by_cases z : b = ad
                · rw [if_pos z] at hb; cases hb
                · rw [if_neg z] at hb
                  have hbx : b ≠ x := fun q => by subst q; rw [hx] at hb; cases hb
                  have hbd : b ≠ dx := fun q => by subst q; rw [hdx] at hb; cases hb
                  rw [upd_ne hbx, upd_ne hbd]
                  exact hb
              · show (if x = ad then none else H1 x) = none
                rw [if_neg (fun z => hax z.symm)]
                exact hx
              · rw [upd_ne hax, upd_ne hadx]
                exact y2
              · have hi : iDef g dD (.seq .lst es0 :: xs.map (·.1)) [] [] = g (.seq .lst es0 :: (xs.map (·.1) ++ dD)) [] [] := rfl
                rw [hi] at h
                cases eg : g (.seq .lst es0 :: (xs.map (·.1) ++ dD)) [] [] with
                | ex C => rw [eg] at h; exact h.elim
                | bad => rw [eg] at h; exact h.elim
                | ok y =>
                  obtain ⟨ns', es'⟩ := y
                  rw [eg] at h
                  intro H' us' us0' s' hx' ha' r0' hl' r'
                  refine ⟨rfl, ?_⟩
                  obtain rfl := reps_det y4 r0' hsc
                  have sH1 : Same H1 H' := fun b o hb => by
                    by_cases z : b = ad
                    · subst z
                      rw [y2] at hb
                      cases hb
                      exact ha'
                    · exact s' b o (show (if b = ad then none else H1 b) = some o by rw [if_neg z]; exact hb)
                  have sH : Same H H' := s1.trans sH1
                  refine h (.ref x) H' sH ⟨x, _, .ins C ns', es', us', rfl, rfl, s1.free hx, hx', ?_, ?_⟩
                  · exact ⟨c, dx, hm, hl', rfl⟩
                  · refine r'.mono fun b o hb => ?_
                    have hz : ¬ ((Bs.ini2 (ar B ρ σ H1) (fun b => if b = ad then none else H1 b) x ad).X b ∨ Own [] [] b) := fun z => by
                      rw [ar_out z] at hb
                      cases hb
                    have hbx : b ≠ x := fun z => hz (.inl (.inl z))
                    have hba : b ≠ ad := fun z => hz (.inl (.inr z))
                    by_cases hn1 : H1 b = none
                    · have hn0 : (Bs.ini2 (ar B ρ σ H1) (fun b => if b = ad then none else H1 b) x ad).H b = none := by
                        show (if b = ad then none else H1 b) = none
                        rw [if_neg hba]; exact hn1
                      rw [ar_none hz hn0] at hb
                      have hnB : ¬ ((B.add x).X b ∨ Own ρ σ b) := fun z => by
                        rcases z with (z | z) | z
                        · exact hbx z
                        · obtain ⟨o', q⟩ := S1.xt b z
                          rw [hn1] at q; cases q
                        · obtain ⟨o', q⟩ := S1.there z
                          rw [hn1] at q; cases q
                      have hBH : (B.add x).H b = none := by
                        show B.H b = none
                        cases eb : B.H b with
                        | none => rfl
                        | some o' =>
                          have := S1.bh _ _ eb
                          rw [hn1] at this; cases this
                      rw [ar_none hnB hBH]
                      exact hb
                    · have hn0 : ¬ (Bs.ini2 (ar B ρ σ H1) (fun b => if b = ad then none else H1 b) x ad).H b = none := by
                        show ¬ (if b = ad then none else H1 b) = none
                        rw [if_neg hba]; exact hn1
                      rw [ar_some hz hn0] at hb
                      have hb' : ar B ρ σ H1 b = some o := hb
                      have hnB : ¬ (B.X b ∨ Own ρ σ b) := fun z => by
                        rw [ar_out z] at hb'
                        cases hb'
                      have hnB' : ¬ ((B.add x).X b ∨ Own ρ σ b) := fun z => by
                        rcases z with (z | z) | z
                        · exact hbx z
                        · exact hnB (.inl z)
                        · exact hnB (.inr z)
                      by_cases hBH : B.H b = none
                      · rw [ar_none hnB hBH] at hb'
                        rw [ar_none hnB' hBH]
                        exact sH1 _ _ hb'
                      · rw [ar_some hnB hBH] at hb'
                        rw [ar_some hnB' hBH]
                        exact hb'
            · rw [if_neg hf] at h
              exact h.elim
        · rw [if_neg hsc] at h
          exact h.elim
  refine PySem.W.callWith_K (h₀ := X.base) I.ok.mod.kin Mk.kp (thn (haa.run pos pins s σ H _ I hta) fun us s1 ⟨vs, H1, I1, r, q⟩ => ⟨I1.kIn, ?_⟩) hst hpl
  exact run_makeSD Mk F (hr.mono hk) hb hd (tk.pass σ) I1 r q
end
/-- what the defaults stand for -/
def DV (K : PySem.W.Frag) (mg : Str → Option Value) (dD : List Dm.D) (us : List Value) : Prop := ∃ dvs : List V, Vals dvs us ∧ ∀ G : Hp, Reps K mg G dD dvs
theorem dv_nil {K : PySem.W.Frag} {mg : Str → Option Value} : DV K mg [] [] := ⟨[], .nil, fun _ => .nil⟩
theorem dv_int {K : PySem.W.Frag} {mg : Str → Option Value} {dD : List Dm.D} {us : List Value} {i : Int} {t : Tok} (r : DV K mg dD us) : DV K mg (.int i :: dD) (.int i t :: us) := by
  obtain ⟨dvs, h1, h2⟩ := r
  exact ⟨.int i :: dvs, .cons ⟨t, rfl⟩ h1, fun G => .cons (.int i) (h2 G)⟩
theorem dv_bl {K : PySem.W.Frag} {mg : Str → Option Value} {dD : List Dm.D} {us : List Value} {b : Bool} (r : DV K mg dD us) : DV K mg (.bl b :: dD) (.bool b :: us) := by
  obtain ⟨dvs, h1, h2⟩ := r
  exact ⟨.bl b :: dvs, .cons rfl h1, fun G => .cons (.bl b) (h2 G)⟩
theorem dv_str {K : PySem.W.Frag} {mg : Str → Option Value} {dD : List Dm.D} {us : List Value} {s : List Nat} {z : Str} {t : Tok} (h : z = ⟨s.toArray⟩) (r : DV K mg dD us) : DV K mg (.str s :: dD) (.str z t :: us) := by
  obtain ⟨dvs, h1, h2⟩ := r
  subst h
  exact ⟨.str ⟨s.toArray⟩ :: dvs, .cons ⟨t, rfl⟩ h1, fun G => .cons (.str s) (h2 G)⟩
theorem binds_dfl {K : PySem.W.Frag} {fd : FuncData} {T : Addr} {its : List Value} {m : Nat} {cls : Value} {od : Option Addr} {sl : Array (Option Value)} {ps : List Str} (lT : K.lookup T = some ⟨cls, od, .seq its.toArray m, sl⟩) (n j : Nat) (hn : n + (its.length - j) = ps.length)
    (h : ∀ us : List Value, us.length = n → ∃ k : Option (Array Value) → Sem (List (Str × Value)), bindArgs fd ⟨us, []⟩ = seqItems? (.ref T) >>= k ∧ k (some its.toArray) = pure (ps.zip (us ++ its.drop j))) : Binds K fd ps (its.drop j) := fun s us X hlen => by
  have hl : us.length = n := by
    rw [List.length_append, List.length_drop] at hlen
    omega
  obtain ⟨k, e1, e2⟩ := h us hl
  refine BindsTo.of_looks fun M => ?_
  rw [e1]
  exact looks_items X lT rfl (.of_pure e2)
theorem makeD {P : Program} {w : World} {K : PySem.W.Frag} {mg : Str → Option Value} {base : Heap} {b : Bool} {C : String} {k n : Nat} {g : IF} {dD : List Dm.D} {c f : Addr} {fd : FuncData} {ps : List Str} {ds : List Value} (hm : mg (C : Str) = some (.ref c)) (M : Mk K c f) (hb : Binds K fd ps ds) (hd : DV K mg dD ds)
    (F : FnOk P w K mg base (CXm b P w) k f fd ps (spI K mg C (n + dD.length) g)) : MakeOkD P w K mg base b C k n g dD := by
  obtain ⟨dvs, h1, h2⟩ := hd
  exact ⟨c, f, fd, ps, ds, dvs, hm, M, hb, h1, h2, F⟩
theorem makeBD {P : Program} {w : World} {K : PySem.W.Frag} {mg : Str → Option Value} {base : Heap} {b : Bool} {C : String} {k n : Nat} {g : IF} {dD : List Dm.D} {c f : Addr} {fd : FuncData} {ps : List Str} {ds : List Value} (hm : mg (C : Str) = some (.ref c)) (M : Mk K c f) (hb : Binds K fd ps ds) (hd : DV K mg dD ds)
    (F : FnOk P w K mg base (CXm b P w) k f fd ps (spIB K mg C (n + dD.length) g)) : MakeOkBD P w K mg base b C k n g dD := by
  obtain ⟨dvs, h1, h2⟩ := hd
  exact ⟨c, f, fd, ps, ds, dvs, hm, M, hb, h1, h2, F⟩
end Dm
end

section
set_option Elab.async false
set_option linter.all false
set_option maxRecDepth 100000
set_option maxHeartbeats 4000000
/-! Dm: xs.count(v). -/
namespace Dm
open PySem PySem.Spec L2 TL
section
open PyProof.Rows
variable {X : Cx}
def rCountD (K : PySem.W.Frag) : V → List V → Hp → VK → Prop := fun x xs H Q => ∃ (a : Addr) (y : V) (d : PyData) (ds : List PyData), x = V.ref a ∧ xs = [y] ∧ Dp K H (V.ref a) (.list ds) ∧ Dp K H y d ∧
  SeqAt.shaped (.list ds) = true ∧ SeqAt.shaped d = true ∧ Q (.int ((ds.countP fun z => PyData.eqv z d : Nat) : Int)) H
theorem mt_countD (hu : X.A.units + 65 < cLine) : MtR X "list.count" (rCountD X.K) := by
  intro pins s σ H x xs v us Q I rx rxs h
  obtain ⟨a, y, d, ds, rfl, rfl, hl, hy, sl, sd, q⟩ := h
  cases rx
  cases rxs with
  | cons ry rt =>
    rename_i uy ut
    cases rt
    obtain ⟨bs, r1⟩ := Dp.reads I d y uy hy ry
    have hxs : PyData.canLayAll0 ds = true := SeqAt.canLay_of_shaped sl
    have hroom : X.A.units + 1 + min (PyData.depthAll ds) d.depth < cLine := room_in_shaped sd hu
    cases hl with
    | lst hs ha =>
      obtain ⟨its, rv, ⟨⟨cls, dd, data, sls⟩, n, ho, hc, hdn, hdt⟩, hlen⟩ := I.list hs
      simp only at hc hdt
      subst hc hdt
      obtain ⟨as, h4⟩ := Dp.readsAll I ds _ its ha rv
      have hmap : its.map (SeqAt.readOf s.heap) = ds := SeqAt.readsAll_map ds its as hxs h4
      refine call_meets PySem.F.slot_list_count ⟨_, ho, rfl⟩ PySem.F.entry_list_count (PySem.F.args_list_count_2 _ _)
        (SeqAt.list_countAt a its.toArray n dd sls uy (fun u => PyData.eqv (SeqAt.readOf s.heap u) d)) ⟨ho, SeqAt.items_eqAt (vs := its.toArray) (show ReadsAll s.heap its.toArray.toList ds as from h4) r1 hxs (SeqAt.canLay_of_shaped sd) hroom, ?_⟩
      refine ⟨.int ((ds.countP fun z => PyData.eqv z d : Nat) : Int), H, I.tok _, ⟨s.toks, ?_⟩, q⟩
      show Value.int ((its.toArray.toList.countP (fun u => PyData.eqv (SeqAt.readOf s.heap u) d) : Nat) : Int) s.toks = Value.int _ s.toks
      rw [← hmap, List.countP_map]
      rfl
end
theorem toPs_map : ∀ ds : List D, toPs ds = ds.map toP
  | [] => rfl
  | d :: ds => by rw [toPs, toPs_map ds]; rfl
section
variable {X : Cx} {E : ExE} {W : WX} {pos apos : Pos} {a b : Expr} {ma mb : EM}
theorem pm_count (hu : X.A.units + 65 < cLine) (ha : PM X E W a ma) (hb : PM X E W b mb) (hbase : attributeBase a "count" X.env (eval a X.env) = eval a X.env := by rfl)
    (hfew : ((backTo pos (starEach [b] X.env)).all (fun x => !x.1) && (backToKw pos (keywordEach [] X.env)).all (fun x => x.1.isSome) && decide ([b].length + ([] : List Keyword).length + (if ([] : List Keyword).isEmpty then 0 else 1) < 30)) = true := by rfl)
    (hline : (apos.endLine == pos.line) = true := by rfl) (hs1 : starEach [b] X.env = (false, eval b X.env) :: starEach [] X.env := by rfl) (hplain : (backTo pos (starEach [] X.env)).any (·.1) = false := by rfl) :
    PM X E W (.Call (.Attribute a "count" apos) [b] [] pos) (mCount ma mb) :=
  PE.imp (pe_bm PySem.F.plainAttrs_list PySem.F.slot_list_count PySem.F.type_list_count (mt_countD hu) ha (pa_cons hb pa_nil hs1) hbase hfew hline hs1 hplain) fun σ H Q ⟨B, ρ, S, h⟩ => GM.bind S h fun x tx vx H1 rx e1 S1 h1 => by
    have rpx := rx.rp S1
    cases rpx <;> first | exact False.elim h1 | skip
    case lst p ds ys hv r =>
      refine ⟨.inl ⟨rfl, ys, .of hv⟩, GM.bind S1 h1 fun y ty vy H2 ry e2 S2 h2 => ?_⟩
      replace h2 : GM X.K X.mg W B ρ σ H2 (if D.lay 11 y && ds.all (D.lay 11) && decide (ds.length ≤ lim) then .ok (.int (ds.countP fun d => D.eqv d y), .cl) else .bad) Q := h2
      by_cases hc : (D.lay 11 y && ds.all (D.lay 11) && decide (ds.length ≤ lim)) = true
      · rw [if_pos hc] at h2
        rw [Bool.and_eq_true, Bool.and_eq_true] at hc
        obtain ⟨⟨c1, c2⟩, c3⟩ := hc
        have hl : D.lay 12 (.seq .lst ds) = true := c2
        have rl : Rep X.K X.mg H2 (.seq .lst ds) (.ref p) := .lst (e2 _ _ hv) ((r.mono (ar_mono e2)).mono S2.sub)
        refine ⟨p, vy, toP y, toPs ds, rfl, rfl, rep_dp 12 _ _ hl rl, rep_dp 11 y vy c1 (ry.rep S2), lay_shaped hl (by decide), lay_shaped c1 (by decide), ?_⟩
        have ec : (toPs ds).countP (fun z => PyData.eqv z (toP y)) = ds.countP fun d => D.eqv d y := by
          rw [toPs_map, List.countP_map]
          refine List.countP_congr fun d hd => ?_
          have := List.all_eq_true.mp c2 d hd
          show PyData.eqv (toP d) (toP y) = true ↔ _
          rw [eqv_toP 11 d y this c1]
        rw [ec]
        exact GM.sc (d := .int _) h2 (.int _)
      · rw [if_neg hc] at h2
        exact h2.elim
theorem toPs_get (ds : List D) (j : Nat) : (toPs ds)[j]? = (ds[j]?).map toP := by rw [toPs_map, List.getElem?_map]
theorem pm_idxD (hu : X.A.units + 65 < cLine) (ha : PM X E W a ma) (hb : PM X E W b mb) (hbase : attributeBase a "index" X.env (eval a X.env) = eval a X.env := by rfl)
    (hfew : ((backTo pos (starEach [b] X.env)).all (fun x => !x.1) && (backToKw pos (keywordEach [] X.env)).all (fun x => x.1.isSome) && decide ([b].length + ([] : List Keyword).length + (if ([] : List Keyword).isEmpty then 0 else 1) < 30)) = true := by rfl)
    (hline : (apos.endLine == pos.line) = true := by rfl) (hs1 : starEach [b] X.env = (false, eval b X.env) :: starEach [] X.env := by rfl) (hplain : (backTo pos (starEach [] X.env)).any (·.1) = false := by rfl) :
    PM X E W (.Call (.Attribute a "index" apos) [b] [] pos) (mIdxD ma mb) :=
  PE.imp (pe_bm PySem.F.plainAttrs_list PySem.F.slot_list_index PySem.F.type_list_index (mt_indexD hu) ha (pa_cons hb pa_nil hs1) hbase hfew hline hs1 hplain) fun σ H Q ⟨B, ρ, S, h⟩ => GM.bind S h fun x tx vx H1 rx e1 S1 h1 => by
    have rpx := rx.rp S1
    cases rpx <;> first | exact False.elim h1 | skip
    case lst p ds ys hv r =>
      refine ⟨.inl ⟨rfl, ys, .of hv⟩, GM.bind S1 h1 fun y ty vy H2 ry e2 S2 h2 => ?_⟩
      replace h2 : GM X.K X.mg W B ρ σ H2 (if D.lay 11 y && ds.all (D.lay 11) && decide (ds.length ≤ lim) then (match ds.findIdx? fun d => D.eqv d y with | some j => .ok (.int j, .cl) | none => .bad) else .bad) Q := h2
      by_cases hc : (D.lay 11 y && ds.all (D.lay 11) && decide (ds.length ≤ lim)) = true
      · rw [if_pos hc] at h2
        rw [Bool.and_eq_true, Bool.and_eq_true] at hc
        obtain ⟨⟨c1, c2⟩, c3⟩ := hc
        have hl : D.lay 12 (.seq .lst ds) = true := c2
        have rl : Rep X.K X.mg H2 (.seq .lst ds) (.ref p) := .lst (e2 _ _ hv) ((r.mono (ar_mono e2)).mono S2.sub)
        cases ef : ds.findIdx? (fun d => D.eqv d y) with
        | none => rw [ef] at h2; exact h2.elim
        | some j =>
          rw [ef] at h2
          obtain ⟨hj, hj1, hj2⟩ := List.findIdx?_eq_some_iff_getElem.mp ef
          have ly : ∀ d ∈ ds, PyData.eqv (toP d) (toP y) = D.eqv d y := fun d hd => eqv_toP 11 d y (List.all_eq_true.mp c2 d hd) c1
          refine ⟨p, vy, toP y, toPs ds, j, toP ds[j], rfl, rfl, rep_dp 12 _ _ hl rl, rep_dp 11 y vy c1 (ry.rep S2), lay_shaped hl (by decide), lay_shaped c1 (by decide), ?_, ?_, fun m z' hm hz' => ?_, GM.sc (d := .int _) h2 (.int _)⟩
          · rw [toPs_get, List.getElem?_eq_getElem hj]
            rfl
          · rw [ly _ (List.getElem_mem hj)]
            exact hj1
          · have hml : m < ds.length := by omega
            rw [toPs_get, List.getElem?_eq_getElem hml] at hz'
            cases hz'
            rw [ly _ (List.getElem_mem hml)]
            have := hj2 m hm
            simpa using this
      · rw [if_neg hc] at h2
        exact h2.elim
end
end Dm
end

section
set_option Elab.async false
set_option linter.all false
set_option maxRecDepth 100000
set_option maxHeartbeats 4000000
/-! Dm: pairs of places: dicts by them, sorted; sums. -/
namespace Dm
open PySem PySem.Spec L2 TL
/-! ### the keys -/
def nkPl (x : Pl) : NestedKey := .tup [.num x.1, .num x.2.1, .num x.2.2]
def nkPr (p : Pr) : NestedKey := .tup [nkPl p.1, nkPl p.2]
theorem nkPl_inj {x y : Pl} (h : nkPl x = nkPl y) : x = y := by
  obtain ⟨a, b, c⟩ := x
  obtain ⟨a', b', c'⟩ := y
  simp only [nkPl, NestedKey.tup.injEq, List.cons.injEq, NestedKey.num.injEq, and_true] at h
  obtain ⟨rfl, rfl, rfl⟩ := h
  rfl
theorem nkPr_inj {x y : Pr} (h : nkPr x = nkPr y) : x = y := by
  obtain ⟨a, b⟩ := x
  obtain ⟨a', b'⟩ := y
  simp only [nkPr, NestedKey.tup.injEq, List.cons.injEq, and_true] at h
  obtain ⟨h1, h2⟩ := h
  rw [nkPl_inj h1, nkPl_inj h2]
theorem nk_hash (w : World) (p : Pr) : (nkPr p).hash w = hsD (prD p) := by
  simp [nkPr, nkPl, prD, plD, NestedKey.hash, NestedKey.hashes, hsD, hsDs]
theorem nk_depth (p : Pr) : (nkPr p).depth ≤ 8 := by
  simp [nkPr, nkPl, NestedKey.depth, NestedKey.depthAll]
theorem pr_tkey (p : Pr) : (prD p).tkey = true := by simp [prD, plD, D.tkey, D.tk]
section
variable {X : Cx} {pins : List (Addr × Obj)} {σ : St} {H : Hp} {s : Shared}
theorem pl_is (I : Inv X pins σ H s) {x : Pl} {v : V} {u : Value} (r : Rep X.K X.mg H (plD x) v) (ru : RelV v u) : NestedIs s.heap (nkPl x) u := by
  unfold plD at r
  cases r with
  | tup h rs =>
    obtain ⟨its, rv, ⟨o, ho, hc, n, hd⟩, _⟩ := I.tuple h
    cases ru
    cases rs with
    | cons r1 rs =>
      cases rs with
      | cons r2 rs =>
        cases rs with
        | cons r3 rs =>
          cases rs
          cases r1; cases r2; cases r3
          cases rv with
          | cons a1 rv =>
            cases rv with
            | cons a2 rv =>
              cases rv with
              | cons a3 rv =>
                cases rv
                obtain ⟨t1, rfl⟩ := a1
                obtain ⟨t2, rfl⟩ := a2
                obtain ⟨t3, rfl⟩ := a3
                exact .tup ho hc hd (.cons (.int _ _) (.cons (.int _ _) (.cons (.int _ _) .nil)))
theorem pr_is (I : Inv X pins σ H s) {x : Pr} {a : Addr} (r : Rep X.K X.mg H (prD x) (.ref a)) : NestedIs s.heap (nkPr x) (.ref a) := by
  unfold prD at r
  cases r with
  | tup h rs =>
    obtain ⟨its, rv, ⟨o, ho, hc, n, hd⟩, _⟩ := I.tuple h
    cases rs with
    | cons r1 rs =>
      cases rs with
      | cons r2 rs =>
        cases rs
        cases rv with
        | cons a1 rv =>
          cases rv with
          | cons a2 rv =>
            cases rv
            exact .tup ho hc hd (.cons (pl_is I r1 a1) (.cons (pl_is I r2 a2) .nil))
theorem pr_ref {K : PySem.W.Frag} {mg : Str → Option Value} {G : Hp} {x : Pr} {v : V} (r : Rep K mg G (prD x) v) : ∃ a, v = .ref a := by
  unfold prD at r
  cases r
  exact ⟨_, rfl⟩
theorem prs_refs {K : PySem.W.Frag} {mg : Str → Option Value} {G : Hp} : ∀ {ps : List Pr} {vs : List V}, Reps K mg G (ps.map prD) vs → ∃ ka : List Addr, vs = ka.map V.ref
  | [], _, r => by cases r; exact ⟨[], rfl⟩
  | p :: ps, _, r => by
    cases r with
    | cons r1 r2 =>
      obtain ⟨a, rfl⟩ := pr_ref r1
      obtain ⟨ka, rfl⟩ := prs_refs r2
      exact ⟨a :: ka, rfl⟩
/-! ### the dict -/
abbrev nkd (X : Cx) : HeapKind X.prog X.w NestedKey := nestedKind X.prog X.w
def xsOf (ps : List Pr) (ka : List Addr) (us : List Value) : List (NestedKey × Addr × Value) := (ps.map nkPr).zip (ka.zip us)
theorem xs_ent (prog : Program) (w : World) : ∀ (ps : List Pr) (ka : List Addr) (ws : List V) (us : List Value), ka.length = ps.length → ws.length = ps.length → us.length = ps.length →
    ((entZ (ps.map prD) ka ws).zip us).map (fun z => (⟨z.1.1, .ref z.1.2.1, z.2⟩ : DictEntry)) = (xsOf ps ka us).map (entryOfKey (nestedKind prog w))
  | [], _, _, _, _, _, _ => rfl
  | p :: ps, [], _, _, h, _, _ => by simp at h
  | p :: ps, _ :: _, [], _, _, h, _ => by simp at h
  | p :: ps, _ :: _, _ :: _, [], _, _, h => by simp at h
  | p :: ps, a :: ka, w1 :: ws, u :: us, h1, h2, h3 => by
    have ih := xs_ent prog w ps ka ws us (by simpa using h1) (by simpa using h2) (by simpa using h3)
    have e : entryOfKey (nestedKind prog w) (nkPr p, a, u) = ⟨hsD (prD p), .ref a, u⟩ := by
      show (⟨(nkPr p).hash w, _, _⟩ : DictEntry) = _
      rw [nk_hash]
    simp only [entZ, xsOf, List.map_cons, List.zip_cons_cons] at ih ⊢
    rw [ih, e]
theorem xs_vals : ∀ (ps : List Pr) (ka : List Addr) (ws : List V), ka.length = ps.length → ws.length = ps.length → (entZ (ps.map prD) ka ws).map (·.2.2) = ws
  | [], _, [], _, _ => rfl
  | [], _, _ :: _, _, h => by simp at h
  | p :: ps, [], _, h, _ => by simp at h
  | p :: ps, _ :: _, [], _, h => by simp at h
  | p :: ps, a :: ka, w1 :: ws, h1, h2 => by
    have ih := xs_vals ps ka ws (by simpa using h1) (by simpa using h2)
    simp only [entZ, List.map_cons, List.zip_cons_cons] at ih ⊢
    rw [ih]
theorem xs_len (ps : List Pr) (ka : List Addr) (ws : List V) (h1 : ka.length = ps.length) (h2 : ws.length = ps.length) : (entZ (ps.map prD) ka ws).length = ps.length := by
  simp [entZ, h1, h2]
theorem xs_keys : ∀ (ps : List Pr) (ka : List Addr) (us : List Value), ka.length = ps.length → us.length = ps.length → (xsOf ps ka us).map (·.1) = ps.map nkPr
  | [], _, _, _, _ => rfl
  | p :: ps, [], _, h, _ => by simp at h
  | p :: ps, _ :: _, [], _, h => by simp at h
  | p :: ps, a :: ka, u :: us, h1, h2 => by
    have ih := xs_keys ps ka us (by simpa using h1) (by simpa using h2)
    simp only [xsOf, List.map_cons, List.zip_cons_cons] at ih ⊢
    rw [ih]
theorem xs_is (I : Inv X pins σ H s) : ∀ (ps : List Pr) (ka : List Addr) (us : List Value), Reps X.K X.mg H (ps.map prD) (ka.map V.ref) → ∀ x ∈ xsOf ps ka us, (nkd X).is s.heap x.1 x.2.1
  | [], _, _, _, x, hx => by simp [xsOf] at hx
  | p :: ps, [], _, r, x, hx => by simp [xsOf] at hx
  | p :: ps, _ :: _, [], r, x, hx => by simp [xsOf] at hx
  | p :: ps, a :: ka, u :: us, r, x, hx => by
    cases r with
    | cons r1 r2 =>
      simp only [xsOf, List.map_cons, List.zip_cons_cons, List.mem_cons] at hx
      rcases hx with rfl | hx
      · exact ⟨pr_is I r1, nk_depth p⟩
      · exact xs_is I ps ka us r2 x hx
theorem nk_nodup {ps : List Pr} (h : (ps.map prD).Nodup) : (ps.map nkPr).Nodup := by
  rw [List.nodup_iff_pairwise_ne, List.pairwise_map] at h ⊢
  exact h.imp fun h e => h (by rw [nkPr_inj e])
theorem pr_nodup {ps : List Pr} (h : (ps.map prD).Nodup) : ps.Nodup := by
  rw [List.nodup_iff_pairwise_ne, List.pairwise_map] at h
  rw [List.nodup_iff_pairwise_ne]
  exact h.imp fun h e => h (by rw [e])
theorem nodup_pr {ps : List Pr} (h : ps.Nodup) : (ps.map prD).Nodup := by
  rw [List.nodup_iff_pairwise_ne] at h
  rw [List.nodup_iff_pairwise_ne, List.pairwise_map]
  exact h.imp fun h e => h (prD_inj e)
/-- at a: the dict by ps -/
structure DtAt (X : Cx) (H : Hp) (a : Addr) (ps : List Pr) (ka : List Addr) (ws : List V) : Prop where
  at_ : ∃ ob, H a = some (dN a ob (entZ (ps.map prD) ka ws))
  ok : DitOk (ps.map prD) ka ws
  ks : Reps X.K X.mg H (ps.map prD) (ka.map V.ref)
theorem DtAt.look {a : Addr} {ps : List Pr} {ka : List Addr} {ws : List V} (I : Inv X pins σ H s) (d : DtAt X H a ps ka ws) : (a == sysModules) = false ∧ ps.length ≤ sizeLine ∧ ∃ us, Vals ws us ∧ us.length = ps.length ∧ s.heap.DictOfH (nkd X) a (xsOf ps ka us) := by
  obtain ⟨ob, hH⟩ := d.at_
  obtain ⟨⟨hg, hs, hz, he, us, arr, ep, rv, hd, hl⟩, _⟩ := (show ObjOk X.prog X.w H s.heap a (dN a ob _) from I.hok a _ hH)
  have l1 : ka.length = ps.length := by simpa using d.ok.ka
  have l2 : ws.length = ps.length := by simpa using d.ok.vs
  rw [xs_vals ps ka ws l1 l2] at rv
  rw [xs_len ps ka ws l1 l2] at hz
  have l3 : us.length = ps.length := by rw [← rv.length, l2]
  refine ⟨hs, hz, us, rv, l3, ob, arr, ep, hg, he, hd, ?_, xs_is I ps ka us d.ks, ?_⟩
  · rw [hl]
    exact xs_ent X.prog X.w ps ka ws us l1 l2 l3
  · rw [xs_keys ps ka us l1 l3]
    exact nk_nodup d.ok.nd
theorem DtAt.of {h' : Heap} {H' : Hp} {a : Addr} {ps : List Pr} {ka : List Addr} {ws : List V} {us : List Value} (l1 : ka.length = ps.length) (rv : Vals ws us) (l3 : us.length = ps.length) (hs : (a == sysModules) = false) (hz : ps.length ≤ sizeLine) (d : h'.DictOfH (nkd X) a (xsOf ps ka us)) :
    ∃ ob, ObjOk X.prog X.w H' h' a (dN a ob (entZ (ps.map prD) ka ws)) := by
  obtain ⟨ob, arr, ep, hg, he, hd, hl, _⟩ := d
  have l2 : ws.length = ps.length := by rw [rv.length, l3]
  have D : DNo a ob (entZ (ps.map prD) ka ws) := ⟨hs, by rw [xs_len ps ka ws l1 l2]; exact hz, he, us, arr, ep, by rw [xs_vals ps ka ws l1 l2]; exact rv, hd, by rw [hl, xs_ent X.prog X.w ps ka ws us l1 l2 l3]⟩
  exact ⟨ob, ⟨hg, D⟩, ⟨ob, hg⟩, fun h1 h2 q k => ⟨k _ q.1, D⟩⟩
theorem at_mem : ∀ (ps : List Pr) (ka : List Addr) (us : List Value) (p : Pr), ka.length = ps.length → us.length = ps.length → ((atKey (xsOf ps ka us) (nkPr p)).isSome = true ↔ p ∈ ps)
  | [], _, _, p, _, _ => by simp [xsOf, atKey]
  | q :: ps, [], _, _, h, _ => by simp at h
  | q :: ps, _ :: _, [], _, _, h => by simp at h
  | q :: ps, a :: ka, u :: us, p, h1, h2 => by
    have ih := at_mem ps ka us p (by simpa using h1) (by simpa using h2)
    simp only [atKey, xsOf, List.map_cons, List.zip_cons_cons, List.find?_cons, List.mem_cons] at ih ⊢
    by_cases e : nkPr q = nkPr p
    · have := nkPr_inj e
      subst this
      simp
    · have ne : ¬ p = q := fun z => e (by rw [z])
      rw [decide_eq_false e]
      simp only [ne, false_or]
      exact ih
theorem put_same : ∀ (ps : List Pr) (ka : List Addr) (us : List Value) (k : NestedKey) (v : Value), (∀ u ∈ us, u = v) → (xsOf ps ka us).map (putAt k v) = xsOf ps ka us
  | [], _, _, _, _, _ => rfl
  | q :: ps, [], _, _, _, h => by simp [xsOf]
  | q :: ps, _ :: _, [], _, _, h => by simp [xsOf]
  | q :: ps, a :: ka, u :: us, k, v, h => by
    have ih := put_same ps ka us k v (fun x hx => h x (List.mem_cons_of_mem _ hx))
    have e := h u List.mem_cons_self
    subst e
    simp only [xsOf, List.map_cons, List.zip_cons_cons] at ih ⊢
    rw [ih]
    congr 1
    unfold putAt
    split <;> rfl
theorem xs_app : ∀ (ps : List Pr) (ka : List Addr) (us : List Value) (p : Pr) (a : Addr) (u : Value), ka.length = ps.length → us.length = ps.length → xsOf ps ka us ++ [(nkPr p, a, u)] = xsOf (ps ++ [p]) (ka ++ [a]) (us ++ [u])
  | [], [], [], _, _, _, _, _ => rfl
  | [], _ :: _, _, _, _, _, h, _ => by simp at h
  | [], [], _ :: _, _, _, _, _, h => by simp at h
  | q :: ps, [], _, _, _, _, h, _ => by simp at h
  | q :: ps, _ :: _, [], _, _, _, _, h => by simp at h
  | q :: ps, b :: ka, v :: us, p, a, u, h1, h2 => by
    have ih := xs_app ps ka us p a u (by simpa using h1) (by simpa using h2)
    simp only [xsOf, List.cons_append, List.map_cons, List.zip_cons_cons] at ih ⊢
    rw [ih]
theorem isT_reps {K : PySem.W.Frag} {mg : Str → Option Value} {G : Hp} : ∀ {ds : List D} {ws : List V}, ds.all D.isTrue = true → Reps K mg G ds ws → ∀ w ∈ ws, w = .bl true
  | [], _, _, r, w, hw => by cases r; cases hw
  | d :: ds, _, h, r, w, hw => by
    rw [List.all_cons, Bool.and_eq_true] at h
    cases r with
    | cons r1 r2 =>
      have e := isTrue_eq h.1
      subst e
      cases r1
      rcases List.mem_cons.mp hw with rfl | hw
      · rfl
      · exact isT_reps h.2 r2 w hw
theorem vals_true : ∀ {ws : List V} {us : List Value}, (∀ w ∈ ws, w = .bl true) → Vals ws us → ∀ u ∈ us, u = .bool true
  | _, _, h, .nil, u, hu => by cases hu
  | _, _, h, .cons r t, u, hu => by
    rcases List.mem_cons.mp hu with rfl | hu
    · have e := h _ List.mem_cons_self
      subst e
      exact r
    · exact vals_true (fun w hw => h w (List.mem_cons_of_mem _ hw)) t u hu
end
/-! ### {} -/
section
variable {X : Cx} {E : ExE} {W : WX} {pos p : Pos} {a b c e o i value : Expr} {ma mb mc : EM} {td ty tv : TE}
theorem dt_empty (h : Heap) (P : Program) (w : World) (H : Hp) (hb : sysModules < h.objs.size) : ObjOk P w H (h.push { cls := .type "dict", data := .dict #[] }) h.objs.size (dN h.objs.size { cls := .type "dict", data := .dict #[] } []) := by
  have hg : (h.push { cls := .type "dict", data := .dict #[] }).get? h.objs.size = some { cls := .type "dict", data := .dict #[] } := Heap.get?_push_size _ rfl
  have D : DNo h.objs.size { cls := .type "dict", data := .dict #[] } [] := ⟨beq_eq_false_iff_ne.mpr (Ne.symm (Nat.ne_of_lt hb)), Nat.zero_le _, ⟨rfl, rfl, rfl⟩, [], #[], 0, .nil, rfl, rfl⟩
  exact ⟨⟨hg, D⟩, ⟨_, hg⟩, fun h1 h2 q k => ⟨k _ q.1, D⟩⟩
theorem pe_dt0 : PE X (.Dict [] [] pos) (fun _ H Q => ∀ p ob, H p = none → Q (.ref p) (upd H p (dN p ob []))) := ⟨fun pins s σ H Q I h =>
  wpAny_Dict_empty ⟨.ref s.heap.objs.size, _, I.laid (a := s.heap.objs.size) (o := dN s.heap.objs.size { cls := .type "dict", data := .dict #[] } []) (t' := s.toks) (fun _ _ q => Heap.get?_push_of_some _ q) (Nat.le_refl _) (dt_empty s.heap _ _ _ I.big), rfl, h _ _ (I.hok.fresh (Nat.le_refl _))⟩⟩
theorem pm_dt0 : PM X E W (.Dict [] [] pos) mDt0 :=
  PE.imp pe_dt0 fun σ H Q ⟨B, ρ, S, h⟩ p ob hp => h (.ref p) _ (Same.upd hp) ⟨p, _, .dit [], [], [], rfl, rfl, hp, upd_same, ⟨ob, [], [], rfl, ⟨rfl, rfl, List.nodup_nil, fun k hk => nomatch hk⟩, rfl⟩, .nil⟩
/-! ### d[k] = True -/
theorem ps_tput (hu : X.A.units + 64 < cLine) (ho : PE X o td) (hi : PE X i ty) (hv : PE X value tv) (hs : swapsWith value (some (.Subscript o i p)) pos.line X.env = pure false) :
    PS X (.Assign [.Subscript o i p] value pos) (fun D σ H => tv σ H fun v H1 => td σ H1 fun x H2 => ty σ H2 fun y H3 => ∃ (a kb : Addr) (q : Pr) (ps : List Pr) (ka : List Addr) (ws : List V), x = .ref a ∧ y = .ref kb ∧ v = .bl true ∧ DtAt X H3 a ps ka ws ∧ Rep X.K X.mg H3 (prD q) (.ref kb) ∧
      (∀ w ∈ ws, w = .bl true) ∧ ps.length < sizeLine ∧ (q ∈ ps → ∀ ob, D.nx σ (upd H3 a (dN a ob (entZ (ps.map prD) ka ws)))) ∧ (¬ q ∈ ps → ∀ ob, D.nx σ (upd H3 a (dN a ob (entZ ((ps ++ [q]).map prD) (ka ++ [kb]) (ws ++ [.bl true])))))) := by
  refine ⟨fun pins s σ H D I h => ?_⟩
  refine wpAny_Assign_Subscript (thn (hv.run pins s σ H _ I h) fun r s1 ⟨v, H1, I1, rv, q1⟩ => thn (ho.run pins s1 σ H1 _ I1 q1) fun u s2 ⟨x, H2, I2, rx, q2⟩ => thn (hi.run pins s2 σ H2 _ I2 q2) fun iv s3 ⟨y, H3, I3, ry, a, kb, q, ps, ka, ws, ex, ey, ev, d, rk, hw, hz, k1, k2⟩ => ?_) hs
  subst ex ey ev
  obtain rfl : u = Value.ref a := rx
  obtain rfl : iv = Value.ref kb := ry
  obtain rfl : r = Value.bool true := rv
  obtain ⟨hsm, hlen, us, rv, l3, hd⟩ := d.look I3
  have l1 : ka.length = ps.length := by simpa using d.ok.ka
  have hut := vals_true hw rv
  refine wpAny_setItem_heap (knd := nkd X) (k := nkPr q) (hsz := by simp [xsOf, l1, l3]; omega) (show X.A.units + 1 + 8 < cLine by omega) ⟨pr_is I3 rk, nk_depth q⟩ hd fun h' hd' sb => ?_
  obtain ⟨ob0, h0⟩ := d.at_
  have wr : ∀ {es : List (Int × Addr × V)} {ob : Obj} (t : Nat), ObjOk X.prog X.w (upd H3 a (dN a ob es)) h' a (dN a ob es) → Inv X pins σ (upd H3 a (dN a ob es)) { s3 with heap := h', toks := t } := fun {es ob} t ok =>
    I3.write (x := a) (e := a) (o := dN a ob es) (t' := t) (by rw [h0]; trivial) (.inl rfl) (fun b u hb e => (sb.2 b hb).trans e) ⟨ob, ok.1.1⟩ ok
  by_cases hq : q ∈ ps
  · have hsome : (atKey (xsOf ps ka us) (nkPr q)).isSome = true := (at_mem ps ka us q l1 l3).mpr hq
    have e : storedH (xsOf ps ka us) (nkPr q) kb (.bool true) = xsOf ps ka us := by
      unfold storedH
      rw [if_pos hsome]
      exact put_same ps ka us _ _ hut
    rw [e] at hd'
    obtain ⟨ob, ok⟩ := DtAt.of (X := X) (H' := H3) l1 rv l3 hsm hlen hd'
    exact ⟨σ, _, wr _ ok, k1 hq ob⟩
  · have hnone : ¬ (atKey (xsOf ps ka us) (nkPr q)).isSome = true := fun z => hq ((at_mem ps ka us q l1 l3).mp z)
    have e : storedH (xsOf ps ka us) (nkPr q) kb (.bool true) = xsOf (ps ++ [q]) (ka ++ [kb]) (us ++ [.bool true]) := by
      unfold storedH
      rw [if_neg hnone]
      exact xs_app ps ka us q kb _ l1 l3
    rw [e] at hd'
    obtain ⟨ob, ok⟩ := DtAt.of (X := X) (H' := H3) (ws := ws ++ [.bl true]) (by simp [l1]) (rv.append (.cons (show RelV (.bl true) (.bool true) from rfl) .nil)) (by simp [l3]) hsm (by rw [List.length_append]; exact hz) hd'
    exact ⟨σ, _, wr _ ok, k2 hq ob⟩
theorem psm_putT (i : Nat) {x : Str} {p1 : Pos} (hu : X.A.units + 64 < cLine) (hb : PM X E W b mb) (hc : PM X E W c mc) (hN : X.N[i]? = some x := by rfl) (hv : Vis X.env.scope x := by first | exact Or.inl rfl | exact Or.inr (Or.inl rfl) | exact Or.inr (Or.inr rfl)) (hd : (x == ("__debug__" : Str)) = false := by decide)
    (hcd : (x == ("__classdict__" : Str)) = false := by decide) (hs : swapsWith c (some (.Subscript (.Name x p1) b p)) pos.line X.env = pure false := by rfl) : PSM X E W (.Assign [.Subscript (.Name x p1) b p] c pos) (smPutT i mb mc) :=
  PS.imp (ps_tput hu (pe_var hN hv hd hcd) hb hc hs) fun D σ H ⟨B, ρ, S, h⟩ => by
    refine GS.bindE S h fun z tz vz H1 rz e1 S1 h1 => ?_
    split at h1
    · rename_i ks ds eo
      obtain ⟨a, o, vs, g1, g2, hk, r⟩ := S1.ow i (.dit ks) ds eo
      obtain ⟨ob, ka, ws, rfl, dk, rfl⟩ := hk
      refine ⟨.ref a, g1, GS.bindE S1 h1 fun y ty vy H2 ry e2 S2 h2 => ?_⟩
      by_cases hz : z.isTrue = true
      · rw [if_pos hz] at h2
        have ez := isTrue_eq hz
        subst ez
        have hvz : vz = .bl true := by
          have := rz.rp S1
          cases this
          rfl
        subst hvz
        cases e3 : asPrs ks with
        | none => rw [e3] at h2; exact h2.elim
        | some ps =>
          cases e4 : asPr y with
          | none => rw [e3, e4] at h2; exact h2.elim
          | some q =>
            rw [e3, e4, putPr_some] at h2
            have ek := asPrs_eq e3
            have ey := asPr_eq e4
            subst ek ey
            have r2 := r.mono (ar_mono e2)
            obtain ⟨r3, r4⟩ := Reps.split (by rw [List.length_map, List.length_map]; simpa using dk.ka.symm) r2
            have ty0 : Rep X.K X.mg (ar B ρ σ H2) (prD q) vy := by
              have := ry.rp S2
              unfold prD at this
              cases this with
              | tup a b => exact .tup a b
            obtain ⟨kb, rfl⟩ := pr_ref ty0
            by_cases hcnd : ds.length < lim ∧ ds.all Dm.D.isTrue = true
            · rw [if_pos hcnd] at h2
              have hw := isT_reps hcnd.2 r4
              have hl : ds.length = ps.length := by rw [r4.length, dk.vs, List.length_map]
              refine ⟨a, kb, q, ps, ka, ws, rfl, rfl, rfl, ⟨⟨ob, e2 _ _ g2⟩, dk, r3.mono S2.sub⟩, ty0.mono S2.sub, hw, by rw [← hl, lim_eq]; exact hcnd.1, fun hq ob' => ?_, fun hq ob' => ?_⟩
              · rw [if_pos hq] at h2
                exact h2 _ _ (S2.updO (k1 := .dit (ps.map prD)) (ds' := ds) eo g1 ⟨ob', ka, ws, rfl, dk, rfl⟩ r2)
              · rw [if_neg hq] at h2
                have dk2 : DitOk ((ps ++ [q]).map prD) (ka ++ [kb]) (ws ++ [.bl true]) := ⟨by simpa using dk.ka, by simpa using dk.vs, by
                  refine nodup_pr ?_
                  have := pr_nodup dk.nd
                  rw [List.nodup_append]
                  exact ⟨this, by simp, by
                    intro x hx y hy e
                    simp at hy
                    subst hy e
                    exact hq hx⟩, by
                  intro k hk
                  obtain ⟨z, _, rfl⟩ := List.mem_map.mp hk
                  exact pr_tkey z⟩
                have em : (ps ++ [q]).map prD = ps.map prD ++ [prD q] := by simp
                refine h2 _ _ (S2.updO (k1 := .dit (ps.map prD ++ [prD q])) (ds' := ds ++ [.bl true]) eo g1 (vs' := (ka ++ [kb]).map V.ref ++ (ws ++ [.bl true])) ⟨ob', ka ++ [kb], ws ++ [.bl true], rfl, em ▸ dk2, by rw [em]⟩ ?_)
                show Reps X.K X.mg (ar B ρ σ H2) ((ps.map prD ++ [prD q]) ++ (ds ++ [.bl true])) _
                rw [List.map_append]
                exact (r3.app (.cons ty0 .nil)).app (r4.app (.cons (.bl true) .nil))
            · rw [if_neg hcnd] at h2
              exact h2.elim
      · rw [if_neg hz] at h2
        exact h2.elim
    · exact h1.elim
end
/-! ### k in d -/
section
variable {X : Cx} {E : ExE} {W : WX} {pos : Pos} {a b : Expr} {ma mb : EM}
def rInT (X : Cx) (f : Bool → Bool) : R2 := fun x y H Q => ∃ (a kb : Addr) (q : Pr) (ps : List Pr) (ka : List Addr) (ws : List V), x = .ref kb ∧ y = .ref a ∧ DtAt X H a ps ka ws ∧ Rep X.K X.mg H (prD q) (.ref kb) ∧ Q (.bl (f (decide (q ∈ ps)))) H
theorem op_inT (hu : X.A.units + 64 < cLine) : OpR X (compareOp .In) (rInT X id) := by
  intro pins s σ H x y v u Q I rx ry ⟨a, kb, q, ps, ka, ws, ex, ey, d, rk, hq⟩
  subst ex ey
  cases rx
  cases ry
  obtain ⟨hsm, hlen, us, rv, l3, hd⟩ := d.look I
  have l1 : ka.length = ps.length := by simpa using d.ok.ka
  refine wpAny_in_heap (knd := nkd X) (k := nkPr q) (show X.A.units + 1 + 8 < cLine by omega) ⟨pr_is I rk, nk_depth q⟩ hsm hd ?_
  have e : (atKey (xsOf ps ka us) (nkPr q)).isSome = decide (q ∈ ps) := by
    rw [Bool.eq_iff_iff, decide_eq_true_eq]
    exact at_mem ps ka us q l1 l3
  rw [e]
  exact ⟨.bl _, H, I.tok _, rfl, hq⟩
theorem op_notInT (hu : X.A.units + 64 < cLine) : OpR X (compareOp .NotIn) (rInT X not) := by
  intro pins s σ H x y v u Q I rx ry ⟨a, kb, q, ps, ka, ws, ex, ey, d, rk, hq⟩
  subst ex ey
  cases rx
  cases ry
  obtain ⟨hsm, hlen, us, rv, l3, hd⟩ := d.look I
  have l1 : ka.length = ps.length := by simpa using d.ok.ka
  have e : (atKey (xsOf ps ka us) (nkPr q)).isSome = decide (q ∈ ps) := by
    rw [Bool.eq_iff_iff, decide_eq_true_eq]
    exact at_mem ps ka us q l1 l3
  show wpAny _ _ (do return Value.bool (!(← contains (Value.ref a) (Value.ref kb))) : Sem Value) _ _ s
  refine wpAny_bind (PySem.wpAny_contains_heap (knd := nkd X) (k := nkPr q) (show X.A.units + 1 + 8 < cLine by omega) ⟨pr_is I rk, nk_depth q⟩ hsm hd ?_)
  rw [e]
  exact wpAny_pure ⟨.bl _, H, I.tok _, rfl, hq⟩
theorem in_some {x y : D} {k : Bool} (h : inT x y = .ok k) : ∃ (q : Pr) (ps : List Pr) (ds : List D), x = prD q ∧ y = .dit (ps.map prD) ds ∧ k = decide (q ∈ ps) := by
  unfold inT at h
  split at h
  · rename_i ks ds
    cases e1 : asPr x with
    | none => rw [e1] at h; cases h
    | some q =>
      cases e2 : asPrs ks with
      | none => rw [e1, e2] at h; cases h
      | some ps =>
        rw [e1, e2] at h
        cases h
        exact ⟨q, ps, ds, asPr_eq e1, by rw [asPrs_eq e2], rfl⟩
  · cases h
theorem in_look {B : Bs} {ρ : Rho} {σ : St} {H : Hp} {q : Pr} {ps : List Pr} {ds : List D} {vx vy : V} (S : SR X.K X.mg E B ρ σ H) (rx : RP X.K X.mg B ρ σ H (prD q) vx) (ry : RP X.K X.mg B ρ σ H (.dit (ps.map prD) ds) vy) :
    ∃ (a kb : Addr) (ka : List Addr) (ws : List V), vx = .ref kb ∧ vy = .ref a ∧ DtAt X H a ps ka ws ∧ Rep X.K X.mg H (prD q) (.ref kb) := by
  have r1 := rx.rep S
  obtain ⟨kb, rfl⟩ := pr_ref r1
  have r2 := ry.rep S
  cases r2 with
  | dit g dk k r => exact ⟨_, kb, _, _, rfl, rfl, ⟨⟨_, g⟩, dk, k⟩, r1⟩
theorem cm_inT : CmpM X E W (rInT X id) inT := by
  intro B ρ σ H x y vx vy Q S rx ry hq ⟨k, hk⟩
  have hq := hq k hk
  obtain ⟨q, ps, ds, rfl, rfl, rfl⟩ := in_some hk
  obtain ⟨a, kb, ka, ws, rfl, rfl, d, r⟩ := in_look S rx ry
  exact ⟨a, kb, q, ps, ka, ws, rfl, rfl, d, r, hq⟩
theorem cm_notInT : CmpM X E W (rInT X not) notInT := by
  intro B ρ σ H x y vx vy Q S rx ry hq ⟨k, hk⟩
  have hq := hq k hk
  unfold notInT at hk
  cases e : inT x y with
  | ok k' =>
    rw [e] at hk
    cases hk
    obtain ⟨q, ps, ds, rfl, rfl, rfl⟩ := in_some e
    obtain ⟨a, kb, ka, ws, rfl, rfl, d, r⟩ := in_look S rx ry
    exact ⟨a, kb, q, ps, ka, ws, rfl, rfl, d, r, hq⟩
  | ex C => rw [e] at hk; cases hk
  | bad => rw [e] at hk; cases hk
theorem mild_inT : Mild inT := fun x y C h => by
  unfold inT at h
  split at h
  · split at h <;> cases h
  · cases h
theorem mild_notInT : Mild notInT := fun x y C h => by
  unfold notInT at h
  cases e : inT x y with
  | ok k => rw [e] at h; cases h
  | ex C' => exact mild_inT x y C' e
  | bad => rw [e] at h; cases h
theorem pmt_inT (hu : X.A.units + 64 < cLine) (ha : PM X E W a ma) (hb : PM X E W b mb) (hm : behindInMarks .In b = false := by rfl) : PMT X E W (.Compare a [.In] [b] pos) (mTB (mCmp inT ma mb)) := pmt_cmp (op_inT hu) cm_inT mild_inT ha hb hm
theorem pmt_notInT (hu : X.A.units + 64 < cLine) (ha : PM X E W a ma) (hb : PM X E W b mb) (hm : behindInMarks .NotIn b = false := by rfl) : PMT X E W (.Compare a [.NotIn] [b] pos) (mTB (mCmp notInT ma mb)) := pmt_cmp (op_notInT hu) cm_notInT mild_notInT ha hb hm
end
/-! ### sorted -/
section
open PyProof.Rows (seqObj)
open PySem.W (EachIs)
def encPl (x : Pl) : PyData := .tuple [.int x.1, .int x.2.1, .int x.2.2]
def encPr (p : Pr) : PyData := .tuple [encPl p.1, encPl p.2]
theorem encPl_eqv (x y : Pl) : PyData.eqv (encPl x) (encPl y) = decide (x = y) := by
  obtain ⟨a, b, c⟩ := x
  obtain ⟨a', b', c'⟩ := y
  simp only [encPl, PyData.eqv, PyData.eqvAll]
  rw [Bool.eq_iff_iff]
  simp
theorem alike_pl (x y : Pl) : PySem.W.alike (encPl x) (encPl y) = true := by simp [encPl, PySem.W.alike, PySem.W.alikeAll]
theorem alike_pr (x y : Pr) : PySem.W.alike (encPr x) (encPr y) = true := by simp [encPr, PySem.W.alike, PySem.W.alikeAll, alike_pl]
theorem lt_pl (x y : Pl) : PySem.W.dataLt (encPl x) (encPl y) = ltPl x y := by
  obtain ⟨a, b, c⟩ := x
  obtain ⟨a', b', c'⟩ := y
  unfold encPl ltPl
  rw [PySem.W.dataLt_tuple, PySem.W.dataLt_cons (by simp [PySem.W.alike]), PySem.W.dataLt_cons (by simp [PySem.W.alike]), PySem.W.dataLt_cons (by simp [PySem.W.alike])]
  simp only [PySem.W.dataLt_int, PyData.eqv]
  by_cases h1 : a = a'
  · subst h1
    by_cases h2 : b = b'
    · subst h2
      by_cases h3 : c = c'
      · subst h3
        simp [PySem.W.keyToksAll, PyProof.Rows.lexLt, PyProof.Rows.itemLt]
      · simp [h3]
    · simp [h2]
  · simp [h1]
theorem ltPl_self (x : Pl) : ltPl x x = false := by simp [ltPl]
theorem lt_pr (p q : Pr) : PySem.W.dataLt (encPr p) (encPr q) = ltP p q := by
  unfold encPr ltP
  rw [PySem.W.dataLt_pair (alike_pl _ _) (alike_pl _ _), lt_pl, lt_pl, encPl_eqv, encPl_eqv]
  by_cases h1 : p.1 = q.1
  · by_cases h2 : p.2 = q.2
    · simp [h1, h2, ltPl_self]
    · simp [h1, h2]
  · simp [h1]
theorem dataLe_pr : PySem.W.dataLe false encPr = leP := by
  rw [PySem.W.dataLe_eq]
  funext a b
  show (!PySem.W.dataLt (encPr b) (encPr a)) = _
  rw [lt_pr]
  rfl
theorem depth_pr (p : Pr) : (encPr p).depth = 2 := by simp [encPr, encPl, PyData.depth, PyData.depthAll]
variable {X : Cx} {pins : List (Addr × Obj)} {σ : St} {H : Hp} {s : Shared}
theorem pr_dp {G : Hp} {p : Pr} {v : V} (r : Rep X.K X.mg G (prD p) v) : Dp X.K G v (encPr p) := rep_dp 3 (prD p) v (by simp [prD, plD, D.lay]) r
theorem each_of (I : Inv X pins σ H s) {G : Hp} (g : Same G H) : ∀ {ps : List Pr} {ws : List V} {us : List Value}, Reps X.K X.mg G (ps.map prD) ws → Vals ws us →
    EachIs (fun u p => ∃ w : V, RelV w u ∧ Rep X.K X.mg G (prD p) w) us ps ∧ EachIs (fun u p => ∃ as, Reads s.heap u (encPr p) as) us ps
  | [], _, _, r, v => by cases r; cases v; exact ⟨.nil, .nil⟩
  | p :: ps, _, _, r, v => by
    cases r with
    | cons r1 r2 =>
      cases v with
      | cons v1 v2 =>
        obtain ⟨h1, h2⟩ := each_of I g r2 v2
        exact ⟨.cons ⟨_, v1, r1⟩ h1, .cons (Dp.reads I _ _ _ (pr_dp (r1.mono g)) v1) h2⟩
theorem of_each {G : Hp} : ∀ {us : List Value} {ps : List Pr}, EachIs (fun u p => ∃ w : V, RelV w u ∧ Rep X.K X.mg G (prD p) w) us ps → ∃ ws, Vals ws us ∧ Reps X.K X.mg G (ps.map prD) ws
  | _, _, .nil => ⟨[], .nil, .nil⟩
  | _, _, .cons ⟨w, v1, r1⟩ t => by
    obtain ⟨ws, h1, h2⟩ := of_each t
    exact ⟨w :: ws, .cons v1 h1, .cons r1 h2⟩
def rSortP (X : Cx) : List V → Hp → VK → Prop := fun xs H Q => ∃ (a : Addr) (ps : List Pr) (G : Hp), xs = [.ref a] ∧ Same G H ∧ ps.length ≤ sizeLine ∧
  ((∃ vs, SqL X.K H a vs ∧ Reps X.K X.mg G (ps.map prD) vs) ∨ (∃ ka ws, DtAt X H a ps ka ws ∧ Reps X.K X.mg G (ps.map prD) (ka.map V.ref))) ∧
  ∀ (ws : List V) (p : Addr), Reps X.K X.mg G ((sortP ps).map prD) ws → H p = none → Q (.ref p) (upd H p (.lst ws))
theorem refs_at : ∀ {us : List Value} {ka : List Addr}, us.length = ka.length → (∀ (j : Nat) (v : Value), us[j]? = some v → ∃ b, ka[j]? = some b ∧ v = Value.ref b) → us = ka.map Value.ref
  | [], [], _, _ => rfl
  | u :: us, k :: ks, hl, h => by
    obtain ⟨b, e1, e2⟩ := h 0 u rfl
    cases e1
    rw [List.map_cons, e2, refs_at (us := us) (ka := ks) (by simpa using hl) fun j v e => h (j + 1) v (by simpa using e)]
  | [], _ :: _, hl, _ => by simp at hl
  | _ :: _, [], hl, _ => by simp at hl
theorem vals_refs : ∀ ka : List Addr, Vals (ka.map V.ref) (ka.map Value.ref)
  | [] => .nil
  | a :: ka => .cons rfl (vals_refs ka)
theorem xs_addr : ∀ (ps : List Pr) (ka : List Addr) (us : List Value) (i : Nat) (y : NestedKey × Addr × Value), (xsOf ps ka us)[i]? = some y → ka[i]? = some y.2.1
  | [], _, _, i, y, h => by simp [xsOf] at h
  | p :: ps, [], _, i, y, h => by simp [xsOf] at h
  | p :: ps, _ :: _, [], i, y, h => by simp [xsOf] at h
  | p :: ps, a :: ka, u :: us, 0, y, h => by
    simp [xsOf] at h
    subst h
    rfl
  | p :: ps, a :: ka, u :: us, i + 1, y, h => by
    have := xs_addr ps ka us i y (by simpa [xsOf] using h)
    simpa using this
theorem cr_sortP (hu : X.A.units + 64 < cLine) (hcalm : X.calm = true) : CallR X (.builtin "sorted") (rSortP X) := by
  intro pins s σ H xs us Q I r ⟨a, ps, G, ex, g, hz, h1, hq⟩
  subst ex
  obtain ⟨u, eu, rx⟩ := vals1 r
  subst eu
  cases rx
  have hal : PySem.W.AllAlike (ps.map encPr) := PySem.W.AllAlike.of alike_pr
  have hk : PySem.W.Sortable (ps.map encPr) := PySem.W.Sortable.tuples fun b => ⟨_, _, rfl⟩
  rcases h1 with ⟨vs, hl, hr⟩ | ⟨ka, ws, d, hr⟩
  · obtain ⟨its, rv, hp, hz2⟩ := I.list hl
    obtain ⟨e1, e2⟩ := each_of I g hr rv
    refine PySem.W.sorted_data hp.isList e1 e2 hal hk hz (fun b _ => by rw [depth_pr]; omega) fun out ho eo => ?_
    rw [dataLe_pr] at eo
    obtain ⟨zs, v1, v2⟩ := of_each eo
    obtain ⟨c, hc⟩ := PyProof.Rows.sortedAll_at s.heap its out.toArray
    have hlen : zs.length ≤ sizeLine := by rw [v1.length, ho]; exact hz
    exact ⟨.ref _, upd H (s.heap.objs.size + 1) (.lst zs), I.laid (t' := s.toks) (fun _ _ => PyProof.Rows.sortedAll_old) (Nat.le_succ _) ⟨hlen, out, c, v1, hc⟩, rfl, hq zs _ v2 (I.hok.fresh (Nat.le_succ _))⟩
  · obtain ⟨hsm, hlen, us, rv, l3, hd⟩ := d.look I
    have l1 : ka.length = ps.length := by simpa using d.ok.ka
    obtain ⟨es, ep, hraw, hes, hent⟩ := hd.raw
    have hesl : es.size = ps.length := by rw [hes]; simp [xsOf, l1, l3]
    refine Calls.call_function_entry PyProof.Rows.kind_sorted PyProof.Rows.plain_sorted PyProof.Rows.entry_sorted (PyProof.Rows.args_sorted1 _) ?_
    unfold Builtin.«sorted»
    refine wpAny_bind (m := checkCount "sorted" 1 1 _) (wpAny_pure ?_)
    refine wpAny_bind (PySem.W.kdu_collect (A := X.A.in1) (KdlSrc.rawDict hsm) (I.ok.hd hcalm) hraw (by rw [hesl]; exact hz) fun h' tk acc hk' hacc => ?_)
    have hacl : acc.toList = ka.map Value.ref := by
      refine refs_at (by rw [Array.length_toList, hacc.1, hesl, l1]) fun j v e => ?_
      obtain ⟨hi, ev⟩ := hacc.2 j v (by rw [← Array.getElem?_toList]; exact e)
      obtain ⟨y, hy, e1, e2, _⟩ := hent j hi
      exact ⟨y.2.1, xs_addr ps ka us j y hy, by rw [ev, e1]⟩
    rw [hacl]
    have I1 : Inv X pins σ H { s with heap := h', toks := tk } := I.kept hk'
    obtain ⟨e1, e2⟩ := each_of I1 g hr (vals_refs ka)
    have hkl : (ka.map Value.ref).length ≤ sizeLine := by rw [List.length_map, l1]; exact hz
    refine wpAny_bind (wpAny_newList ?_ hkl)
    have hoL : (h'.push (seqObj "list" (ka.map Value.ref).toArray 0)).get? h'.objs.size = some (seqObj "list" (ka.map Value.ref).toArray 0) := Heap.get?_push_size _ rfl
    show wpAny _ _ _ _ _ { s with heap := h'.push (seqObj "list" (ka.map Value.ref).toArray 0), toks := tk }
    have old : ∀ b o, h'.get? b = some o → (PySem.W.sortingHeap (h'.push (seqObj "list" (ka.map Value.ref).toArray 0)) h'.objs.size (ka.map Value.ref)).get? b = some o := fun b o e =>
      PySem.W.sortingHeap_old (Nat.ne_of_lt (Heap.lt_size e)) (Heap.get?_push_of_some _ e)
    have er' : EachIs (fun v b => ∃ as, Reads (PySem.W.sortingHeap (h'.push (seqObj "list" (ka.map Value.ref).toArray 0)) h'.objs.size (ka.map Value.ref)) v (encPr b) as) (ka.map Value.ref) ps := e2.mono fun _ _ ⟨as, r⟩ => ⟨as, PyProof.Rows.Reads.keeps old r⟩
    refine wpAny_bind (wpAny_holding (wpAny_call_entry PyProof.Rows.slot_list_sort ⟨_, hoL, rfl⟩ PyProof.Rows.entry_list_sort
      (PySem.W.list_sort_vals (s := { s with heap := h'.push (seqObj "list" (ka.map Value.ref).toArray 0), toks := tk }) hoL (PySem.W.SortsAt.data (s := { s with heap := PySem.W.sortingHeap (h'.push (seqObj "list" (ka.map Value.ref).toArray 0)) h'.objs.size (ka.map Value.ref), toks := tk }) (PySem.W.each_map (R := fun v d => ∃ as, Reads (PySem.W.sortingHeap (h'.push (seqObj "list" (ka.map Value.ref).toArray 0)) h'.objs.size (ka.map Value.ref)) v d as) encPr er') hal hk (PySem.W.bound_map fun b _ => by rw [depth_pr]; show X.A.units + 1 + 1 + 2 < cLine; omega)) hkl ⟨_, rfl, ?_⟩)
      (PyProof.Rows.args_list_sort _)))
    have eo := PySem.W.sortVals_data false e1 er' hal
    rw [dataLe_pr] at eo
    obtain ⟨zs, v1, v2⟩ := of_each eo
    obtain ⟨c, hc⟩ := PyProof.Rows.sortedHeap_at (vs := ka.map Value.ref) (out := (PySem.W.sortVals (PySem.W.dataKind (PySem.W.sortingHeap (h'.push (seqObj "list" (ka.map Value.ref).toArray 0)) h'.objs.size (ka.map Value.ref)) (ps.map encPr)) false (ka.map Value.ref) (ka.map Value.ref)).toArray) hoL
    have hzl : zs.length ≤ sizeLine := by rw [v2.length.symm, List.length_map]; rw [List.length_mergeSort]; exact hz
    refine wpAny_pure ⟨_, rfl, .ref h'.objs.size, upd H h'.objs.size (.lst zs), I1.laid (t' := tk) (fun b u e => ?_) (Nat.le_refl _) (show ObjOk X.prog X.w _ _ _ (.lst zs) from ⟨hzl, _, c, v1, hc⟩), rfl, hq zs _ v2 (I1.hok.fresh (Nat.le_refl _))⟩
    have hb : b < h'.objs.size := Heap.lt_size e
    rw [PyProof.Rows.sortedHeap_old (Nat.ne_of_lt hb) (by rw [PyProof.Rows.size_push']; exact Nat.lt_succ_of_lt hb)]
    exact Heap.get?_push_of_some _ e
variable {E : ExE} {W : WX} {pos p : Pos} {e : Expr} {ma : EM}
theorem pm_sortT (hu : X.A.units + 64 < cLine) (hc : X.calm = true) (hm : X.mg "sorted" = none) (ha : PM X E W e ma) (hg : Gl X "sorted" := by rfl)
    (he : starEach [e] X.env = (false, eval e X.env) :: starEach [] X.env := by rfl) (hpl : (backTo pos (starEach [] X.env)).any (·.1) = false := by rfl) : PM X E W (.Call (.Name "sorted" p) [e] [] pos) (mSortT ma) :=
  PE.imp (pe_callB (cr_sortP hu hc) hg hm (by decide +kernel) (pa_cons ha pa_nil he) (by decide) (by decide) he hpl) fun σ H Q ⟨B, ρ, S, h⟩ => GM.bind S h fun x tx vx H1 rx e1 S1 h1 => by
    have rp := rx.rp S1
    cases rp <;> first | exact False.elim h1 | skip
    case lst a ds vs hv r =>
      replace h1 : GM X.K X.mg W B ρ σ H1 (sortPs (asPrs ds)) Q := h1
      cases e3 : asPrs ds with
      | none => rw [e3] at h1; exact h1.elim
      | some ps =>
        rw [e3, sortPs_some] at h1
        have ed := asPrs_eq e3
        subst ed
        by_cases hl : ps.length ≤ lim
        · rw [if_pos hl] at h1
          exact ⟨a, ps, ar B ρ σ H1, rfl, S1.sub, by rw [lim_eq]; exact hl, .inl ⟨vs, .of hv, r⟩, fun ws q rw_ hq => GM.fresh S1 h1 rw_ hq⟩
        · rw [if_neg hl] at h1
          exact h1.elim
    case dit a o ks ds ka vs hv dk rk r =>
      replace h1 : GM X.K X.mg W B ρ σ H1 (sortPs (asPrs ks)) Q := h1
      cases e3 : asPrs ks with
      | none => rw [e3] at h1; exact h1.elim
      | some ps =>
        rw [e3, sortPs_some] at h1
        have ed := asPrs_eq e3
        subst ed
        by_cases hl : ps.length ≤ lim
        · rw [if_pos hl] at h1
          exact ⟨a, ps, ar B ρ σ H1, rfl, S1.sub, by rw [lim_eq]; exact hl, .inr ⟨ka, vs, ⟨⟨o, hv⟩, dk, rk.mono S1.sub⟩, rk⟩, fun ws q rw_ hq => GM.fresh S1 h1 rw_ hq⟩
        · rw [if_neg hl] at h1
          exact h1.elim
/-! ### sum -/
theorem bm_sum : BltM X E W (rSum X.K) bSum := by
  intro B ρ σ H xs vs Q S hl hx h
  match xs, h with
  | [], h => exact False.elim h
  | x :: y :: r, h =>
    have eb : bSum (x :: y :: r) = .bad := by cases x <;> first | rfl | (rename_i k _; cases k <;> rfl)
    rw [eb] at h
    exact False.elim h
  | [x], h =>
    obtain ⟨v, rfl, r⟩ := args1 hl hx
    cases r <;> first | exact False.elim h | skip
    case lst a ds ws hv r =>
      have h3 : GM X.K X.mg W B ρ σ H ((match intsOf ds with | some ns => Res.ok (D.int ns.sum) | none => .bad).bind fun d => .ok (d, .cl)) Q := h
      cases e : intsOf ds with
      | none => rw [e] at h3; exact h3.elim
      | some ns =>
        rw [e] at h3
        have hy := intsV_rep r e
        subst hy
        exact ⟨a, ns, rfl, .of hv, GM.sc (d := .int _) h3 (.int _)⟩
    case rol a ds ws hv r =>
      have h3 : GM X.K X.mg W B ρ σ H ((match intsOf ds with | some ns => Res.ok (D.int ns.sum) | none => .bad).bind fun d => .ok (d, .cl)) Q := h
      cases e : intsOf ds with
      | none => rw [e] at h3; exact h3.elim
      | some ns =>
        rw [e] at h3
        have hy := intsV_rep r e
        subst hy
        exact ⟨a, ns, rfl, hv, GM.sc (d := .int _) h3 (.int _)⟩
end
/-! ### y = x.pop() -/
section
variable {K : PySem.W.Frag} {mg : Str → Option Value} {E : ExE} {B : Bs} {ρ : Rho} {σ : St} {H : Hp}
theorem updO_same {i : Nat} {k0 k1 : OwK} {ds ds' : List D} {o0 : HO} {a : Addr} (h1 : ρ[i]? = some (.oo k0 ds)) (h2 : σ[i]? = some (some (.ref a))) : Same (ar B ρ σ H) (ar B (ρ.set i (.oo k1 ds')) σ (upd H a o0)) := by
  have own' : ∀ b, Own (ρ.set i (.oo k1 ds')) σ b → Own ρ σ b := fun b ⟨j, l, es, q1, q2⟩ => by
    by_cases hj : i = j
    · subst hj
      exact ⟨i, k0, ds, h1, q2⟩
    · rw [List.getElem?_set_ne hj] at q1
      exact ⟨j, l, es, q1, q2⟩
  have oa : Own ρ σ a := ⟨i, k0, ds, h1, h2⟩
  have : ar B ρ σ H = ar B ρ σ (upd H a o0) := (ar_upd (.inr oa)).symm
  rw [this]
  exact ar_own own'
theorem Reps.dropLast' {G : Hp} {ds : List D} {vs : List V} (r : Reps K mg G ds vs) : Reps K mg G ds.dropLast vs.dropLast := by
  rw [List.dropLast_eq_take, List.dropLast_eq_take, r.length]
  exact r.take _
end
section
variable {X : Cx} {E : ExE} {W : WX} {pos p : Pos} {e : Expr} {ma : EM}
theorem psm_pop (j i : Nat) {x y : Str} {pos' p1 p2 : Pos} (hn : X.N.Nodup) (hj : X.N[j]? = some y := by rfl) (hx : Loc X.env.scope y := by first | exact Or.inl rfl | exact Or.inr rfl)
    (hN : X.N[i]? = some x := by rfl) (hv : Vis X.env.scope x := by first | exact Or.inl rfl | exact Or.inr (Or.inl rfl) | exact Or.inr (Or.inr rfl)) (hd : (x == ("__debug__" : Str)) = false := by decide)
    (hcd : (x == ("__classdict__" : Str)) = false := by decide) (hbase : attributeBase (.Name x p1) "pop" X.env (eval (.Name x p1) X.env) = eval (.Name x p1) X.env := by rfl) (hline : (p2.endLine == p.line) = true := by rfl)
    (hs : swapsWith (.Call (.Attribute (.Name x p1) "pop" p2) [] [] p) (some (.Name y pos')) pos.line X.env = pure false := by rfl) (hf : X.fn y = true ∨ X.env.scope.names.lookup y = some .local := by first | exact .inl rfl | exact .inr rfl) :
    PSM X E W (.Assign [.Name y pos'] (.Call (.Attribute (.Name x p1) "pop" p2) [] [] p) pos) (smPop j i) :=
  PS.imp (ps_set hn hj hx (pe_bm0 PySem.F.plainAttrs_list PySem.F.slot_list_pop PySem.F.type_list_pop mt_pop (pe_var hN hv hd hcd) hbase hline) hs hf) fun D σ H ⟨B, ρ, S, h⟩ => by
    unfold smPop at h
    split at h
    · rename_i ds eo
      obtain ⟨l, vs, e1, e2, e3⟩ := S.owl i ds eo
      split at h
      · rename_i d ed
        obtain ⟨v, ev, rv⟩ := e3.get ed
        refine ⟨.ref l, e1, .inl ⟨rfl, vs, .of e2⟩, l, vs, v, rfl, rfl, e2, by rw [← e3.length]; exact ev, ?_⟩
        have T := S.updOw eo e1 (e3.dropLast')
        exact h _ _ (T.setFz j (rv.mono (updO_same eo e1)))
      · exact h.elim
    · exact h.elim
theorem pm_tupOf (hm : X.mg "tuple" = none) (ha : PM X E W e ma) (hg : Gl X "tuple" := by rfl)
    (he : starEach [e] X.env = (false, eval e X.env) :: starEach [] X.env := by rfl) (hpl : (backTo pos (starEach [] X.env)).any (·.1) = false := by rfl) : PM X E W (.Call (.Name "tuple" p) [e] [] pos) (mTupOf ma) :=
  PE.imp (pe_callTy call_tuple_of hg hm (by decide +kernel) (pa_cons ha pa_nil he) (by decide) (by decide) he hpl) fun σ H Q ⟨B, ρ, S, h⟩ => GM.bind S h fun x tx vx H1 rx e1 S1 h1 => by
    have rp := rx.rp S1
    cases rp <;> first | exact False.elim h1 | skip
    case lst a ds vs hv r =>
      replace h1 : GM X.K X.mg W B ρ σ H1 (.ok (.seq .tup ds, .cl)) Q := h1
      exact ⟨a, vs, rfl, .inl ⟨.of hv, fun l hl => h1 (.ref l) _ (Same.upd hl) (Rep.tup (.of (ar_at S1 hl)) (r.mono (ar_mono (Same.upd hl))))⟩⟩
    case rol a ds vs hv r =>
      replace h1 : GM X.K X.mg W B ρ σ H1 (.ok (.seq .tup ds, .cl)) Q := h1
      exact ⟨a, vs, rfl, .inl ⟨hv, fun l hl => h1 (.ref l) _ (Same.upd hl) (Rep.tup (.of (ar_at S1 hl)) (r.mono (ar_mono (Same.upd hl))))⟩⟩
    case tup a ds vs hv r =>
      replace h1 : GM X.K X.mg W B ρ σ H1 (.ok (.seq .tup ds, .cl)) Q := h1
      exact ⟨a, vs, rfl, .inr ⟨same_tup S1.sub hv, GM.pure h1 (Rep.tup hv r)⟩⟩
end
/-! ### the keys of a dict, walked -/
def Itn (d : Addr) (o : Obj) (es : List (Int × Addr × V)) : It :=
  ⟨fun i H => H d = some (dN d o es) ∧ i < es.length, fun i H x H' => H' = H ∧ ∃ z, es[i]? = some z ∧ x = .ref z.2.1, fun i H => H d = some (dN d o es) ∧ es.length ≤ i⟩
section
variable {P : Program} {w : World} {K : PySem.W.Frag} {tg : Expr} {d : Addr} {o : Obj} {arr : Array DictEntry} {ep : Nat}
theorem dn_get {X : Cx} {pins : List (Addr × Obj)} {σ : St} {H : Hp} {s : Shared} {es : List (Int × Addr × V)} (I : Inv X pins σ H s) (h : H d = some (dN d o es)) : s.heap.get? d = some o ∧ DNo d o es := (show ObjOk X.prog X.w H s.heap d (dN d o es) from I.hok d _ h).1
theorem dno_at {es : List (Int × Addr × V)} (D : DNo d o es) (hod : o.data = .dict arr ep) : arr.size = es.length ∧ ∀ (i : Nat) (z : Int × Addr × V), es[i]? = some z → ∃ en : DictEntry, arr[i]? = some en ∧ en.key = Value.ref z.2.1 := by
  obtain ⟨_, _, _, us, arr', ep', rv, hd, hl⟩ := D
  rw [hod] at hd
  cases hd
  have l3 : us.length = es.length := by rw [← rv.length, List.length_map]
  refine ⟨by rw [← Array.length_toList, hl, List.length_map, List.length_zip, l3, Nat.min_self], fun i z hz => ?_⟩
  obtain ⟨hi, ez⟩ := List.getElem?_eq_some_iff.mp hz
  have hi2 : i < us.length := by omega
  refine ⟨⟨z.1, .ref z.2.1, us[i]⟩, ?_, rfl⟩
  rw [← Array.getElem?_toList, hl, List.getElem?_map]
  have : (es.zip us)[i]? = some (z, us[i]) := List.getElem?_zip_eq_some.mpr ⟨hz, List.getElem?_eq_getElem hi2⟩
  rw [this]
  rfl
theorem turn_dn {es : List (Int × Addr × V)} (it : Addr) (hod : o.data = .dict arr ep) : Turn P w K tg (Itn d o es) [it] it (fun i h => h.IsKeyIter it d i es.length ep) where
  mem := by simp
  obj := fun i h st b hb => by
    have e : b = it := by simpa using hb
    subst e
    obtain ⟨oi, e, c, dd⟩ := st
    exact ⟨oi, e, fun v z => by rw [dd] at z; cases z⟩
  keep := fun i h h' st k => st.at fun oi e => k it (by simp) oi e
  item := by
    intro X hP hw hK hc i pins s σ H E I hf st hg
    subst hP hw hK
    obtain ⟨hd, hi⟩ := hg
    obtain ⟨f0, f1, f2, f3, f4, f5⟩ := hf it (by simp)
    obtain ⟨hgd, D⟩ := dn_get I hd
    obtain ⟨hsz, ent⟩ := dno_at D hod
    obtain ⟨en, hen, hkey⟩ := ent i es[i] (List.getElem?_eq_getElem hi)
    refine next_key_item st hgd hod hsz hen fun h' st' sb => ?_
    have I1 : Inv X pins σ H { s with heap := h' } := I.turned (t' := s.toks) (fun b ob hb e => (sb.2 b hb).trans e) f0 f1 f3 f4 f5
    obtain ⟨oi, e, c, dd⟩ := id st'
    exact ⟨en.key, rfl, go_of (s := { s with heap := h' }) e c dd (by decide) ⟨.ref es[i].2.1, H, I1, hkey, ⟨rfl, es[i], List.getElem?_eq_getElem hi, rfl⟩, st', fun b hb => (hf b hb).1⟩⟩
  done := by
    intro X hP hw hK hc i pins s σ H E I hf st hg
    subst hP hw hK
    obtain ⟨hd, hi⟩ := hg
    obtain ⟨f0, f1, f2, f3, f4, f5⟩ := hf it (by simp)
    obtain ⟨hgd, D⟩ := dn_get I hd
    obtain ⟨hsz, ent⟩ := dno_at D hod
    exact next_key_end (I.ok.hd hc) st hgd hod hsz hi fun h' eb => ⟨rfl, I.turned (t' := s.toks) (fun b ob hb e => eb b ob hb e) f0 f1 f3 f4 f5⟩
  self := fun A i s Q E st h => by
    refine wpAny_pyIter_slot st.typeIs PySem.F.slot_dict_keyiterator_iter (wpAny_call_entry PySem.F.slot_dict_keyiterator_iter st.typeIs PySem.F.entry_dict_keyiterator_iter ?_ (PySem.F.args_dict_keyiterator_iter_1 _))
    show wpAny _ _ (ret (.ref it)) _ _ s
    exact wpAny_pure ⟨_, rfl, "dict_keyiterator", _, st.typeIs, PySem.F.slot_dict_keyiterator_next.lookup, h⟩
end
section
variable {X : Cx} {E : ExE} {W : WX} {tg e : Expr} {td : TE} {ma : EM}
def iKeysN (td : TE) : TI := fun σ H R => td σ H fun x H1 => ∃ d o es, x = .ref d ∧ H1 d = some (dN d o es) ∧ R (Itn d o es) H1
theorem pi_keysN (he : PE X e td) : PI X tg e (iKeysN td) := by
  refine ⟨fun pins s σ H R I h => ?_⟩
  refine thn (he.run pins s σ H _ I h) fun u s1 ⟨x, H1, I1, rx, d, o, es, ex, hd, q⟩ => ?_
  subst ex
  obtain rfl : u = Value.ref d := rx
  obtain ⟨hgd, D⟩ := dn_get I1 hd
  obtain ⟨hs, hz, hx, us, arr, ep, rv, hdt, hl⟩ := id D
  refine iter_keys hs hgd hx hdt (pi_one (tk := s1.toks) I1 _ (turn_dn _ hdt) ⟨_, Heap.get?_push_size _ rfl, rfl, ?_⟩ q)
  rw [(dno_at D hdt).1] <;> rfl
theorem wk_dn {K : PySem.W.Frag} {mg : Str → Option Value} {A Hb : Hp} {q : Addr} {o : Obj} {ks : List D} {ka : List Addr} {vs : List V} (h : Hb q = some (dN q o (entZ ks ka vs))) (dk : DitOk ks ka vs) (r : Reps K mg A ks (ka.map V.ref)) (hA : ∀ H, Same Hb H → Same A H) : Wk K mg A Hb (Itn q o (entZ ks ka vs)) ks := by
  have hl : (entZ ks ka vs).length = ks.length := by simp [entZ, dk.ka, dk.vs]
  exact {
    go := fun i H s hi => ⟨s _ _ h, by rw [hl]; exact hi⟩
    stop := fun i H s hi => ⟨s _ _ h, by rw [hl]; exact hi⟩
    yld := fun i H x H' s hi y => by
      obtain ⟨rfl, z, hz, rfl⟩ := y
      have hk : (ka.map V.ref)[i]? = some (.ref z.2.1) := by
        have h1 := (List.getElem?_zip_eq_some.mp hz).2
        have h2 := (List.getElem?_zip_eq_some.mp h1).1
        rw [List.getElem?_map, h2]
        rfl
      obtain ⟨d, h1, h2⟩ := r.get' hk
      exact ⟨Same.refl _, d, h1, h2.mono (gn_of (hA _ s) (Same.refl _))⟩ }
theorem pmi_keysT (ha : PM X E W e ma) : PMI X E W tg e (wmK ma) :=
  PI.imp (pi_keysN ha) fun σ H R ⟨B, ρ, S, h⟩ => GG.bindE S h fun x tx vx H1 rx e1 S1 h1 => by
    cases tx with
    | cl =>
      have rr : Rep X.K X.mg (ar B ρ σ H1) x vx := rx
      cases rr <;> first | exact False.elim h1 | skip
      case dit q o ks ds ka vs hv dk rk r =>
        exact ⟨q, o, _, rfl, S1.sub _ _ hv, h1 _ H1 e1 S1 (wk_dn (ar_hid S1 (fun _ z => z) _ _ hv) dk rk fun H' s => (ar_hid S1 fun _ z => z).trans s)⟩
    | own i =>
      obtain ⟨l, ds, q1, rfl, q3⟩ := rx
      cases l <;> first | exact h1.elim | skip
      case dit ks =>
        obtain ⟨a, o, vs, e2, e3, hk, e4⟩ := S1.ow i (.dit ks) ds q1
        rw [q3] at e2
        cases e2
        obtain ⟨ob, ka, ws, rfl, dk, rfl⟩ := hk
        obtain ⟨rk, rw_⟩ := Reps.split (by rw [List.length_map]; exact dk.ka.symm) e4
        refine ⟨a, ob, _, rfl, e3, h1 _ H1 e1 S1 (wk_dn ?_ dk rk fun H' s => (ar_hid S1 fun _ z => own_frzO z).trans s)⟩
        have S2 := S1.frz i
        have hf : (Dm.frz i ρ)[i]? = some (.fz (.dit ks ds)) := by
          unfold Dm.frz
          rw [q1]
          exact List.getElem?_set_self (List.getElem?_eq_some_iff.mp q1).1
        obtain ⟨v, h3, h4⟩ := S2.fz i _ hf
        rw [q3] at h3
        cases h3
        cases h4 with
        | dit hv dk' rk' r' =>
          have := S2.sub _ _ hv
          rw [e3] at this
          have e9 := Option.some.inj this
          have hh := ar_hid S2 (ρ' := Dm.frz i ρ) (fun _ z => z) _ _ hv
          rw [← e9] at hh
          exact hh
    | fr => exact (by
        obtain ⟨q, o, l, ds, vs, rfl, rfl, q3, q4, hk, q5⟩ := rx
        cases l <;> first | exact h1.elim | skip
        case dit ks =>
          obtain ⟨ob, ka, ws, rfl, dk, rfl⟩ := hk
          obtain ⟨rk, rw_⟩ := Reps.split (by rw [List.length_map]; exact dk.ka.symm) (q5.mono ar_add)
          refine ⟨q, ob, _, rfl, q4, h1 _ H1 e1 S1 (wk_dn ?_ dk rk fun H' s => (ar_hid S1 fun _ z => own_frzO z).trans s)⟩
          have hx : ¬ (B.X q ∨ Own ρ σ q) := fun z => by
            rcases z with z | z
            · obtain ⟨o, e⟩ := S.xt q z
              rw [q3] at e; cases e
            · obtain ⟨vs, e⟩ := S.there z
              rw [q3] at e; cases e
          show hid B ρ σ H1 q = _
          unfold hid
          rw [if_neg hx]
          exact q4)
end
/-! ### xs != ys, with empty dicts among the items -/
section
variable {X : Cx} {E : ExE} {W : WX} {pos : Pos} {a b : Expr} {ma mb : EM}
def rNeX (X : Cx) : R2 := fun x y H Q => ∃ (a b : Addr) (ds es : List D) (vs ws : List V) (k : Bool), x = .ref a ∧ y = .ref b ∧ SqL X.K H a vs ∧ SqL X.K H b ws ∧ Reps X.K X.mg H ds vs ∧ Reps X.K X.mg H es ws ∧ allX ds es = some k ∧ Q (.bl (!k)) H
theorem eqX_at {pins : List (Addr × Obj)} {σ : St} {H : Hp} {s : Shared} {A : Around} (I : Inv X pins σ H s) (hu : A.units + 64 < cLine) {d e : D} {v w : V} {u u' : Value} {k : Bool} (h : eqX d e = some k) (r : Rep X.K X.mg H d v) (r' : Rep X.K X.mg H e w) (ru : RelV v u) (ru' : RelV w u') : SeqAt.EqAt A s u u' k := by
  unfold eqX at h
  split at h
  · rename_i hl
    rw [Bool.and_eq_true] at hl
    cases h
    obtain ⟨as, r1⟩ := Dp.reads I _ _ _ (rep_dp 11 d v hl.1 r) ru
    obtain ⟨bs, r2⟩ := Dp.reads I _ _ _ (rep_dp 11 e w hl.2 r') ru'
    obtain ⟨c1, d1⟩ := lay_dp 11 d hl.1
    obtain ⟨c2, d2⟩ := lay_dp 11 e hl.2
    rw [← eqv_toP 11 d e hl.1 hl.2]
    exact SeqAt.eqAt_reads _ _ A s _ _ as bs r1 r2 c1 c2 (by have := Nat.min_le_left (toP d).depth (toP e).depth; omega)
  · split at h
    · cases h
      generalize hd : D.dic [] [] = dd at r r'
      cases r <;> first | cases hd | skip
      rename_i a kk ds vs g hl rr
      generalize he : D.dic (kk.map keyD) ds = ee at r'
      have hk0 : kk = [] := by
        injection hd with h1 _
        cases kk with
        | nil => rfl
        | cons _ _ => simp at h1
      subst hk0
      rw [← he] at r'
      generalize hf : D.dic (([] : List Key).map keyD) ds = ff at r'
      cases r' <;> first | cases hf | skip
      rename_i b kk' ds' vs' g' hl' rr'
      have hk0' : kk' = [] := by
        injection hf with h1 _
        cases kk' with
        | nil => rfl
        | cons _ _ => simp at h1
      subst hk0'
      have g1 : H a = some (.dK []) := by simpa using g
      have g2 : H b = some (.dK []) := by simpa using g'
      obtain rfl : u = Value.ref a := ru
      obtain rfl : u' = Value.ref b := ru'
      by_cases hab : a = b
      · subst hab
        exact SeqAt.EqAt.same _
      · refine SeqAt.EqAt.of_refs hab fun prog w E Q hq => ?_
        obtain ⟨_, ya, va, ra, da⟩ := (show ObjOk X.prog X.w H s.heap a (.dK []) from I.hok a _ g1)
        obtain ⟨_, yb, vb, rb, db⟩ := (show ObjOk X.prog X.w H s.heap b (.dK []) from I.hok b _ g2)
        cases ra
        cases rb
        have emp : ∀ c, s.heap.DictOf (mixKind X.prog X.w) c [] → s.heap.DictOf (mixKind prog w) c [] := fun c ⟨o, es, ep, h1, h2, h3, h4, h5, h6⟩ => by
          have e0 : es = #[] := by
            cases es with
            | mk l =>
              cases l with
              | nil => rfl
              | cons z zs => cases h5
          subst e0
          refine ⟨o, #[], ep, h1, h2, h3, ?_, .nil, h6⟩
          intro i hi
          simp at hi
        have da' := emp a da
        have db' := emp b db
        exact PySem.W.keq_eq (knd := mixKind prog w) (r := true) ya yb da' db' (by omega) (fun _ => .nil) hq
    · cases h
theorem allX_len : ∀ {ds es : List D} {k : Bool}, allX ds es = some k → ds.length = es.length
  | [], [], _, _ => rfl
  | [], _ :: _, _, h => by cases h
  | _ :: _, [], _, h => by cases h
  | d :: ds, e :: es, k, h => by
    unfold allX at h
    cases e1 : eqX d e with
    | none => rw [e1] at h; cases h
    | some a =>
      rw [e1] at h
      cases e2 : allX ds es with
      | none => rw [e2] at h; cases h
      | some b => rw [List.length_cons, List.length_cons, allX_len e2]
theorem allX_at : ∀ {ds es : List D} {k : Bool}, allX ds es = some k → ∃ e : Nat → Bool, (∀ (j : Nat) (d d' : D), ds[j]? = some d → es[j]? = some d' → eqX d d' = some (e j)) ∧ (List.range ds.length).all e = k
  | [], [], k, h => by
    cases h
    exact ⟨fun _ => true, fun j d d' h => by simp at h, rfl⟩
  | [], _ :: _, _, h => by cases h
  | _ :: _, [], _, h => by cases h
  | d :: ds, e :: es, k, h => by
    unfold allX at h
    cases e1 : eqX d e with
    | none => rw [e1] at h; cases h
    | some a =>
      rw [e1] at h
      cases e2 : allX ds es with
      | none => rw [e2] at h; cases h
      | some b =>
        rw [e2] at h
        cases h
        obtain ⟨f, h1, h2⟩ := allX_at e2
        refine ⟨fun j => match j with | 0 => a | j + 1 => f j, fun j d0 d1 g1 g2 => ?_, ?_⟩
        · cases j with
          | zero =>
            simp at g1 g2
            subst g1 g2
            exact e1
          | succ j => exact h1 j d0 d1 (by simpa using g1) (by simpa using g2)
        · rw [List.length_cons, List.range_succ_eq_map, List.all_cons, List.all_map]
          show (a && (List.range ds.length).all f) = (a && b)
          rw [h2]
theorem op_neX (hu : X.A.units + 65 < cLine) : OpR X (compareOp .NotEq) (rNeX X) := by
  intro pins s σ H x y v u Q I rx ry ⟨a, b, ds, es, vs, ws, k, ex, ey, ha, hb, ra, rb, hk, q⟩
  subst ex ey
  cases rx
  cases ry
  obtain ⟨its, rv, hp, _⟩ := I.list ha
  obtain ⟨its2, rv2, hp2, _⟩ := I.list hb
  obtain ⟨e, he, hall⟩ := allX_at hk
  have hl := allX_len hk
  have l1 : its.length = ds.length := by rw [← rv.length, ra.length]
  have l2 : its2.length = es.length := by rw [← rv2.length, rb.length]
  have hne := SeqAt.RcNeAt.lists (A := X.A) (e := e) hp.isList hp2.isList (by simp; omega) (by omega) fun j h1 h2 => by
    have j1 : j < its.length := by simpa using h1
    have j2 : j < its2.length := by simpa using h2
    obtain ⟨d, g1⟩ : ∃ d, ds[j]? = some d := ⟨ds[j]'(by omega), List.getElem?_eq_getElem _⟩
    obtain ⟨d', g2⟩ : ∃ d, es[j]? = some d := ⟨es[j]'(by omega), List.getElem?_eq_getElem _⟩
    obtain ⟨w1, w2, w3⟩ := ra.get g1
    obtain ⟨z1, z2, z3⟩ := rb.get g2
    obtain ⟨u1, u2, u3⟩ := rv.get w2
    obtain ⟨t1, t2, t3⟩ := rv2.get z2
    have e1 : its.toArray[j] = u1 := by
      have := (List.getElem?_eq_some_iff.mp u2).2
      simpa using this
    have e2 : its2.toArray[j] = t1 := by
      have := (List.getElem?_eq_some_iff.mp t2).2
      simpa using this
    rw [e1, e2]
    exact eqX_at I (show X.A.units + 1 + 64 < cLine by omega) (he j d d' g1 g2) w3 z3 u3 t3
  refine hne X.prog X.w _ _ ?_
  have hs : its.toArray.size = ds.length := by simpa using l1
  rw [hs, hall]
  exact ⟨.bl _, H, I, rfl, q⟩
theorem cm_neX : CmpM X E W (rNeX X) cNeX := by
  intro B ρ σ H x y vx vy Q S rx ry hq ⟨k, hk⟩
  have hq := hq k hk
  unfold cNeX at hk
  split at hk
  · rename_i xs ys
    cases e : allX xs ys with
    | none => rw [e] at hk; cases hk
    | some j =>
      rw [e] at hk
      cases hk
      have r1 := rx.rep S
      have r2 := ry.rep S
      cases r1 with
      | lst g1 q1 =>
        cases r2 with
        | lst g2 q2 => exact ⟨_, _, xs, ys, _, _, j, rfl, rfl, .of g1, .of g2, q1, q2, e, hq⟩
  · cases hk
theorem mild_neX : Mild cNeX := fun x y C h => by
  unfold cNeX at h
  split at h
  · split at h <;> cases h
  · cases h
theorem pmt_neX (hu : X.A.units + 65 < cLine) (ha : PM X E W a ma) (hb : PM X E W b mb) : PMT X E W (.Compare a [.NotEq] [b] pos) (mTB (mCmp cNeX ma mb)) := pmt_cmp (op_neX hu) cm_neX mild_neX ha hb (nomark _)
end
end Dm
end

section
set_option Elab.async false
set_option linter.all false
set_option maxRecDepth 100000
set_option maxHeartbeats 4000000
/-! Dm: what is come to: the rows in the heap. -/
namespace Dm
open PySem PySem.Spec L2 TL
def ky (k : Nat) : Key := .inl (k : Int)
theorem ky_inj {j k : Nat} : ky j = ky k ↔ j = k := by
  unfold ky
  constructor
  · intro h
    have := Sum.inl.inj h
    omega
  · rintro rfl
    rfl
/-- the rows T lie at a, what they hold is read in the area A -/
structure TabAt (K : PySem.W.Frag) (mg : Str → Option Value) (A H : Hp) (a : Addr) (kvs : List (Key × V)) (T : Tb) : Prop where
  at_ : H a = some (.dK kvs)
  len : kvs.length ≤ T.n
  no : ∀ k, T.f k = none → valV kvs (ky k) = none
  row : ∀ k xs, T.f k = some xs → ∃ p vs, valV kvs (ky k) = some (.ref p) ∧ H p = some (.lst vs) ∧ Reps K mg A (xs.map enD) vs
  inj : ∀ j k p, valV kvs (ky j) = some (.ref p) → valV kvs (ky k) = some (.ref p) → j = k
  self : ∀ k, valV kvs (ky k) ≠ some (.ref a)
/-- where the rows lie -/
def TabX (kvs : List (Key × V)) (a : Addr) : Addr → Prop := fun b => b = a ∨ ∃ k, valV kvs (ky k) = some (.ref b)
section
variable {K : PySem.W.Frag} {mg : Str → Option Value} {A A' H H' : Hp} {a : Addr} {kvs : List (Key × V)} {T : Tb}
theorem TabAt.mono (h : TabAt K mg A H a kvs T) (eA : Same A A') (eH : ∀ b, TabX kvs a b → H' b = H b) : TabAt K mg A' H' a kvs T where
  at_ := by rw [eH a (.inl rfl)]; exact h.at_
  len := h.len
  no := h.no
  row := fun k xs e => by
    obtain ⟨p, vs, h1, h2, h3⟩ := h.row k xs e
    exact ⟨p, vs, h1, by rw [eH p (.inr ⟨k, h1⟩)]; exact h2, h3.mono eA⟩
  inj := h.inj
  self := h.self
/-- an empty dict -/
theorem TabAt.nil (h : H a = some (.dK [])) : TabAt K mg A H a [] ⟨fun _ => none, 0⟩ where
  at_ := h
  len := Nat.le_refl _
  no := fun _ _ => rfl
  row := fun k xs e => by cases e
  inj := fun j k p e => by cases e
  self := fun k e => by cases e
/-- a new row, at p -/
theorem TabAt.new {k : Nat} {p : Addr} (h : TabAt K mg A H a kvs T) (hn : T.f k = none) (hp : H p = some (.lst [])) (ha : p ≠ a) (hf : ∀ j, valV kvs (ky j) ≠ some (.ref p)) :
    TabAt K mg A (upd H a (.dK (putK kvs (ky k) (.ref p)))) a (putK kvs (ky k) (.ref p)) (T.put k (T.row k)) where
  at_ := upd_same ..
  len := Nat.le_trans (length_putK ..) (Nat.succ_le_succ h.len)
  no := fun j e => by
    have e' : (if j = k then some (T.row k) else T.f j) = none := e
    split at e'
    · cases e'
    · rename_i hj
      rw [valV_put, if_neg (fun z => hj (ky_inj.mp z))]
      exact h.no j e'
  row := fun j xs e => by
    have e' : (if j = k then some (T.row k) else T.f j) = some xs := e
    by_cases hj : j = k
    · rw [if_pos hj] at e'
      cases e'
      refine ⟨p, [], by rw [valV_put, if_pos (ky_inj.mpr hj)], by rw [upd_ne ha]; exact hp, ?_⟩
      unfold Tb.row
      rw [hn]
      exact .nil
    · rw [if_neg hj] at e'
      obtain ⟨q, vs, h1, h2, h3⟩ := h.row j xs e'
      refine ⟨q, vs, by rw [valV_put, if_neg (fun z => hj (ky_inj.mp z))]; exact h1, ?_, h3⟩
      rw [upd_ne (fun z => h.self j (by rw [h1, z]))]
      exact h2
  inj := fun i j q e1 e2 => by
    rw [valV_put] at e1 e2
    split at e1 <;> split at e2
    · rename_i x y
      exact (ky_inj.mp x).trans (ky_inj.mp y).symm
    · cases e1
      exact absurd e2 (hf j)
    · cases e2
      exact absurd e1 (hf i)
    · exact h.inj i j q e1 e2
  self := fun j e => by
    rw [valV_put] at e
    split at e
    · cases e
      exact ha rfl
    · exact h.self j e
/-- a row longer by one -/
theorem TabAt.app {k : Nat} {p : Addr} {xs : List En} {vs : List V} {x : En} {v : V} (h : TabAt K mg A H a kvs T) (hk : T.f k = some xs) (h1 : valV kvs (ky k) = some (.ref p)) (h2 : H p = some (.lst vs)) (h3 : Reps K mg A (xs.map enD) vs) (r : Rep K mg A (enD x) v) :
    TabAt K mg A (upd H p (.lst (vs ++ [v]))) a kvs (T.put k (xs ++ [x])) where
  at_ := by
    rw [upd_ne (fun z => h.self k (by rw [h1, z]))]
    exact h.at_
  len := Nat.le_trans h.len (Nat.le_succ _)
  no := fun j e => by
    have e' : (if j = k then some (xs ++ [x]) else T.f j) = none := e
    split at e'
    · cases e'
    · exact h.no j e'
  row := fun j ys e => by
    have e' : (if j = k then some (xs ++ [x]) else T.f j) = some ys := e
    by_cases hj : j = k
    · rw [if_pos hj] at e'
      cases e'
      subst hj
      refine ⟨p, vs ++ [v], h1, upd_same .., ?_⟩
      rw [List.map_append]
      exact h3.app (.cons r .nil)
    · rw [if_neg hj] at e'
      obtain ⟨q, ws, g1, g2, g3⟩ := h.row j ys e'
      refine ⟨q, ws, g1, ?_, g3⟩
      rw [upd_ne (fun z => hj (h.inj j k p (by rw [g1, z]) h1))]
      exact g2
  inj := h.inj
  self := h.self
theorem TabAt.same (h : TabAt K mg A H a kvs T) (eA : Same A A') (e : Same H H') : TabAt K mg A' H' a kvs T where
  at_ := e _ _ h.at_
  len := h.len
  no := h.no
  row := fun k xs q => by
    obtain ⟨p, vs, h1, h2, h3⟩ := h.row k xs q
    exact ⟨p, vs, h1, e _ _ h2, h3.mono eA⟩
  inj := h.inj
  self := h.self
theorem TabAt.there (h : TabAt K mg A H a kvs T) {k : Nat} {p : Addr} (e : valV kvs (ky k) = some (.ref p)) : ∃ o, H p = some o := by
  cases q : T.f k with
  | none =>
    rw [h.no k q] at e
    cases e
  | some xs =>
    obtain ⟨p', vs, h1, h2, h3⟩ := h.row k xs q
    rw [h1] at e
    cases e
    exact ⟨_, h2⟩
/-- a row that stands: the table counts one more -/
theorem TabAt.old {k : Nat} {xs : List En} (h : TabAt K mg A H a kvs T) (hk : T.f k = some xs) : TabAt K mg A H a kvs (T.put k (T.row k)) := by
  have e : (T.put k (T.row k)).f = T.f := by
    funext j
    show (if j = k then some ((T.f k).getD []) else T.f j) = T.f j
    split
    · rename_i z
      rw [z, hk]
      rfl
    · rfl
  exact ⟨h.at_, Nat.le_trans h.len (Nat.le_succ _), fun j q => h.no j (by rw [← e]; exact q), fun j ys q => h.row j ys (by rw [← e]; exact q), h.inj, h.self⟩
end
section
variable {K : PySem.W.Frag} {mg : Str → Option Value} {E : ExE} {B : Bs} {ρ ρ' : Rho} {σ σ' : St} {H H' : Hp} {i : Nat} {a : Addr} {kvs : List (Key × V)} {T : Tb}
/-- the slots, and the rows in the slot i, out of all areas -/
structure SRt (K : PySem.W.Frag) (mg : Str → Option Value) (E : ExE) (B : Bs) (ρ : Rho) (σ : St) (H : Hp) (i : Nat) (a : Addr) (kvs : List (Key × V)) (T : Tb) : Prop where
  S : SR K mg E B ρ σ H
  sl : σ[i]? = some (some (.ref a))
  tab : TabAt K mg (ar B ρ σ H) H a kvs T
  hid : ∀ b, TabX kvs a b → B.X b
theorem SRt.same (R : SRt K mg E B ρ σ H i a kvs T) (e : Same H H') : SRt K mg E B ρ σ H' i a kvs T where
  S := R.S.mono e
  sl := R.sl
  tab := R.tab.same (ar_mono e) e
  hid := R.hid
/-- a write at an address laid aside -/
theorem SR.updX' (S : SR K mg E B ρ σ H) {p : Addr} {o : HO} (h : B.X p) : SR K mg E B ρ σ (upd H p o) := by
  have hA : ar B ρ σ (upd H p o) = ar B ρ σ H := ar_upd (.inl h)
  have hp : B.H p = none := S.new p (.inl h)
  refine ⟨S.len, fun j d q => ?_, fun j k ds q => ?_, S.dj, S.ex, S.gh, fun b ob q => ?_, S.new, S.xo, fun b hb => ?_⟩
  · rw [hA]
    exact S.fz j d q
  · rw [hA]
    obtain ⟨b, ob, vs, h1, h2, h3, h4⟩ := S.ow j k ds q
    refine ⟨b, ob, vs, h1, ?_, h3, h4⟩
    rw [upd_ne]
    · exact h2
    · intro z
      subst z
      exact S.xo _ h ⟨j, k, ds, q, h1⟩
  · rw [upd_ne]
    · exact S.bh _ _ q
    · intro z
      subst z
      rw [hp] at q
      cases q
  · by_cases z : b = p
    · subst z
      exact ⟨o, upd_same ..⟩
    · obtain ⟨ob, q⟩ := S.xt b hb
      exact ⟨ob, by rw [upd_ne z]; exact q⟩
/-- a row is laid: a new list at p -/
theorem SRt.new {k : Nat} {p : Addr} (R : SRt K mg E B ρ σ H i a kvs T) (hn : T.f k = none) (hp : H p = none) :
    SRt K mg E (B.add p) ρ σ (upd (upd H p (.lst [])) a (.dK (putK kvs (ky k) (.ref p)))) i a (putK kvs (ky k) (.ref p)) (T.put k (T.row k)) := by
  have e := Same.upd (o := HO.lst []) hp
  have ha : p ≠ a := fun z => by
    rw [z, R.tab.at_] at hp
    cases hp
  have hf : ∀ j, valV kvs (ky j) ≠ some (.ref p) := fun j q => by
    obtain ⟨o, h2⟩ := R.tab.there q
    rw [hp] at h2
    cases h2
  have S1 := R.S.add hp e (upd_same ..)
  have hX : (B.add p).X a := .inr (R.hid a (.inl rfl))
  have t1 : TabAt K mg (ar (B.add p) ρ σ (upd H p (.lst []))) (upd H p (.lst [])) a kvs T := R.tab.same (ar_new (R.S.newB hp) hp e) e
  have t2 := t1.new hn (upd_same ..) ha hf
  refine ⟨S1.updX' hX, R.sl, ?_, fun b hb => ?_⟩
  · rw [ar_upd (.inl hX)]
    exact t2
  · rcases hb with rfl | ⟨j, hb⟩
    · exact hX
    · rw [valV_put] at hb
      split at hb
      · cases hb
        exact .inl rfl
      · exact .inr (R.hid b (.inr ⟨j, hb⟩))
/-- a row longer by one -/
theorem SRt.app {k : Nat} {p : Addr} {x : En} {v : V} (R : SRt K mg E B ρ σ H i a kvs T) (hk : (T.f k).isSome = true) (h1 : valV kvs (ky k) = some (.ref p)) (r : Rep K mg (ar B ρ σ H) (enD x) v) :
    ∃ ws, H p = some (.lst ws) ∧ ws.length = (T.row k).length ∧ SRt K mg E B ρ σ (upd H p (.lst (ws ++ [v]))) i a kvs (T.put k (T.row k ++ [x])) := by
  obtain ⟨xs, hx⟩ := Option.isSome_iff_exists.mp hk
  obtain ⟨p', ws, g1, g2, g3⟩ := R.tab.row k xs hx
  rw [h1] at g1
  cases g1
  have hX : B.X p := R.hid p (.inr ⟨k, h1⟩)
  have er : T.row k = xs := by
    unfold Tb.row
    rw [hx]
    rfl
  refine ⟨ws, g2, ?_, R.S.updX' hX, R.sl, ?_, R.hid⟩
  · rw [er, ← g3.length, List.length_map]
  · rw [ar_upd (.inl hX), er]
    exact R.tab.app hx h1 g2 g3 r
end
/-! ### the statements of rows -/
section
variable {X : Cx} {E : ExE} {W : WX} {B : Bs} {ρ : Rho} {σ : St} {H : Hp} {i : Nat} {a : Addr} {kvs : List (Key × V)} {T : Tb} {mk mx : EM}
/-- rows.setdefault(k, []) -/
def tOpn (X : Cx) (E : ExE) (W : WX) (i : Nat) (mk : EM) : TE := tDSetd (tVar i) (tE X.K X.mg E W mk) (tLst tNil)
theorem opn_ok {k : Nat} {t : Tg} {Q : VK} (R : SRt X.K X.mg E B ρ σ H i a kvs T) (hk : mk ρ = .ok (.int k, t)) (hn : T.n < lim)
    (h : ∀ (B' : Bs) (H' : Hp) (kvs' : List (Key × V)) (p : Addr), B'.G = B.G → B'.H = B.H → SRt X.K X.mg E B' ρ σ H' i a kvs' (T.put k (T.row k)) → valV kvs' (ky k) = some (.ref p) →
      (∀ j w, valV kvs (ky j) = some w → valV kvs' (ky j) = some w) → Q (.ref p) H') : tOpn X E W i mk σ H Q := by
  refine ⟨.ref a, R.sl, a, rfl, .inl ⟨kvs, .of R.tab.at_⟩, B, ρ, R.S, ?_⟩
  show GM X.K X.mg W B ρ σ H (mk ρ) _
  rw [hk]
  intro v H2 e2 r2
  have R2 := R.same e2
  have rp := r2.rp R2.S
  cases rp
  refine ⟨Nat.zero_le _, fun p hp => ?_⟩
  have e3 := Same.upd (o := HO.lst []) hp
  refine ⟨kvs, ky k, e3 _ _ R2.tab.at_, rfl, ?_, fun w hw => ?_, fun hw => ?_⟩
  · have := R.tab.len
    rw [sizeLine_eq]
    rw [lim_def] at hn
    omega
  · cases q : T.f k with
    | none =>
      rw [R.tab.no k q] at hw
      cases hw
    | some xs =>
      obtain ⟨p', vs, g1, g2, g3⟩ := R.tab.row k xs q
      rw [hw] at g1
      cases g1
      have R3 := R2.same e3
      exact h B _ kvs p' rfl rfl ⟨R3.S, R3.sl, R3.tab.old q, R3.hid⟩ hw fun _ _ z => z
  · have q : T.f k = none := by
      cases q : T.f k with
      | none => rfl
      | some xs =>
        obtain ⟨p', vs, g1, _⟩ := R.tab.row k xs q
        rw [hw] at g1
        cases g1
    refine h (B.add p) _ _ p rfl rfl (R2.new q hp) (by rw [valV_put, if_pos rfl]) fun j w hjw => ?_
    rw [valV_put, if_neg]
    · exact hjw
    · intro z
      rw [z, hw] at hjw
      cases hjw
theorem pe_opn {x : Str} {ek : Expr} {p1 p2 p3 p4 : Pos} (hk : PM X E W ek mk) (hN : X.N[i]? = some x) (hv : Vis X.env.scope x) (m : M2 X (.Name x p1) "setdefault" p2 ek (.List [] p3) p4) (hd : (x == ("__debug__" : Str)) = false := by decide) (hcd : (x == ("__classdict__" : Str)) = false := by decide) :
    PE X (.Call (.Attribute (.Name x p1) "setdefault" p2) [ek, .List [] p3] [] p4) (tOpn X E W i mk) := pe_dsetd (pe_var hN hv hd hcd) hk (pe_lst pa_nil) m
/-- rows.setdefault(k, []).append(x) -/
def tRowAdd (X : Cx) (E : ExE) (W : WX) (i : Nat) (mk mx : EM) : TS := tDrop (tBM X.K "list" rAppend (tOpn X E W i mk) (tCons (tE X.K X.mg E W mx) tNil))
theorem rowadd_ok {k : Nat} {t : Tg} {x : En} {D : Ends} (R : SRt X.K X.mg E B ρ σ H i a kvs T) (hk : mk ρ = .ok (.int k, t)) (hx : mx ρ = .ok (enD x, .cl)) (hn : T.n < lim) (hr : (T.row k).length < lim)
    (h : ∀ (B' : Bs) (H' : Hp) (kvs' : List (Key × V)), B'.G = B.G → B'.H = B.H → SRt X.K X.mg E B' ρ σ H' i a kvs' (T.put2 k (T.row k ++ [x])) → (∀ j w, valV kvs (ky j) = some w → valV kvs' (ky j) = some w) → D.nx σ H') : tRowAdd X E W i mk mx D σ H := by
  refine opn_ok R hk hn fun B' H' kvs' p hG hH R' hp hext => ?_
  have hsome : ((T.put k (T.row k)).f k).isSome = true := by
    show (if k = k then some (T.row k) else T.f k).isSome = true
    rw [if_pos rfl]
    rfl
  have er : (T.put k (T.row k)).row k = T.row k := by
    unfold Tb.row
    show (if k = k then some ((T.f k).getD []) else T.f k).getD [] = _
    rw [if_pos rfl]
    rfl
  obtain ⟨xs, hxs⟩ := Option.isSome_iff_exists.mp hsome
  obtain ⟨p', ws, g1, g2, g3⟩ := R'.tab.row k xs hxs
  rw [hp] at g1
  cases g1
  refine ⟨.inl ⟨rfl, ws, .of g2⟩, B', ρ, R'.S, ?_⟩
  show GM X.K X.mg W B' ρ σ H' (mx ρ) _
  rw [hx]
  intro v H2 e2 r2
  have R2 := R'.same e2
  obtain ⟨ws', q1, q2, R3⟩ := R2.app hsome hp r2
  refine ⟨p, ws', v, rfl, rfl, q1, ?_, ?_⟩
  · rw [q2, er, sizeLine_eq]
    rw [lim_def] at hr
    exact hr
  · rw [er] at R3
    refine h B' _ kvs' hG hH ?_ hext
    have e0 : (T.put k (T.row k)).put k (T.row k ++ [x]) = T.put2 k (T.row k ++ [x]) := by
      unfold Tb.put2 Tb.put
      congr 1
      funext j
      dsimp only
      split <;> rfl
    rw [e0] at R3
    exact R3
theorem ps_rowadd {x : Str} {ek ex : Expr} {p1 p2 p3 p4 p5 p6 pos : Pos} (hk : PM X E W ek mk) (hx : PM X E W ex mx) (hN : X.N[i]? = some x) (hv : Vis X.env.scope x) (m : M2 X (.Name x p1) "setdefault" p2 ek (.List [] p3) p4)
    (hd : (x == ("__debug__" : Str)) = false := by decide) (hcd : (x == ("__classdict__" : Str)) = false := by decide)
    (hbase : attributeBase (.Call (.Attribute (.Name x p1) "setdefault" p2) [ek, .List [] p3] [] p4) "append" X.env (eval (.Call (.Attribute (.Name x p1) "setdefault" p2) [ek, .List [] p3] [] p4) X.env) = eval (.Call (.Attribute (.Name x p1) "setdefault" p2) [ek, .List [] p3] [] p4) X.env := by rfl)
    (hfew : ((backTo p6 (starEach [ex] X.env)).all (fun x => !x.1) && (backToKw p6 (keywordEach [] X.env)).all (fun x => x.1.isSome) && decide ([ex].length + ([] : List Keyword).length + (if ([] : List Keyword).isEmpty then 0 else 1) < 30)) = true := by rfl)
    (hline : (p5.endLine == p6.line) = true := by rfl) (hs1 : starEach [ex] X.env = (false, eval ex X.env) :: starEach [] X.env := by rfl) (hplain : (backTo p6 (starEach [] X.env)).any (·.1) = false := by rfl)
    (hs : swapsWith (.Call (.Attribute (.Call (.Attribute (.Name x p1) "setdefault" p2) [ek, .List [] p3] [] p4) "append" p5) [ex] [] p6) none pos.line X.env = pure false := by rfl) :
    PS X (.Expr (.Call (.Attribute (.Call (.Attribute (.Name x p1) "setdefault" p2) [ek, .List [] p3] [] p4) "append" p5) [ex] [] p6) pos) (tRowAdd X E W i mk mx) :=
  ps_expr (pe_bm PySem.F.plainAttrs_list PySem.F.slot_list_append PySem.F.type_list_append mt_append (pe_opn hk hN hv m hd hcd) (pa_cons hx pa_nil hs1) hbase hfew hline hs1 hplain) hs
theorem own_set {ρ : Rho} {σ : St} {j : Nat} {d : Dm.D} {v : V} : ∀ b, Own (ρ.set j (.fz d)) (σ.set j (some v)) b → Own ρ σ b := fun b ⟨n, k, ds, h1, h2⟩ => by
  by_cases e : j = n
  · subst e
    by_cases hl : j < ρ.length
    · rw [List.getElem?_set_self hl] at h1
      cases h1
    · rw [List.getElem?_eq_none (by rw [List.length_set]; omega)] at h1
      cases h1
  · rw [List.getElem?_set_ne e] at h1 h2
    exact ⟨n, k, ds, h1, h2⟩
/-- a slot is set to plain data -/
theorem SRt.setFz {j : Nat} {d : Dm.D} {v : V} (R : SRt X.K X.mg E B ρ σ H i a kvs T) (hj : j ≠ i) (r : Rep X.K X.mg (ar B ρ σ H) d v) : SRt X.K X.mg E B (ρ.set j (.fz d)) (σ.set j (some v)) H i a kvs T where
  S := R.S.setFz j r
  sl := by
    rw [List.getElem?_set_ne hj]
    exact R.sl
  tab := R.tab.same (ar_own own_set) (Same.refl H)
  hid := R.hid
theorem asg_ok {j : Nat} {m : EM} {d : Dm.D} {D : Ends} (R : SRt X.K X.mg E B ρ σ H i a kvs T) (hm : m ρ = .ok (d, .cl)) (hj : j ≠ i)
    (h : ∀ (v : V) (H' : Hp), SRt X.K X.mg E B (ρ.set j (.fz d)) (σ.set j (some v)) H' i a kvs T → D.nx (σ.set j (some v)) H') : tAsg (tE X.K X.mg E W m) (gName j) D σ H := by
  refine ⟨B, ρ, R.S, ?_⟩
  show GM X.K X.mg W B ρ σ H (m ρ) _
  rw [hm]
  intro v H2 e2 r2
  exact h v H2 ((R.same e2).setFz hj r2)
/-- .. and the row of the length n in the slot r -/
structure SRr (K : PySem.W.Frag) (mg : Str → Option Value) (E : ExE) (B : Bs) (ρ : Rho) (σ : St) (H : Hp) (i : Nat) (a : Addr) (kvs : List (Key × V)) (T : Tb) (r : Nat) (n : Nat) (p : Addr) : Prop where
  R : SRt K mg E B ρ σ H i a kvs T
  sr : σ[r]? = some (some (.ref p))
  vr : valV kvs (ky n) = some (.ref p)
variable {r n : Nat} {p : Addr}
theorem SRr.row (h : SRr X.K X.mg E B ρ σ H i a kvs T r n p) : ∃ vs, H p = some (.lst vs) ∧ Reps X.K X.mg (ar B ρ σ H) ((T.row n).map enD) vs := by
  cases q : T.f n with
  | none =>
    have := h.R.tab.no n q
    rw [h.vr] at this
    cases this
  | some xs =>
    obtain ⟨p', vs, g1, g2, g3⟩ := h.R.tab.row n xs q
    rw [h.vr] at g1
    cases g1
    refine ⟨vs, g2, ?_⟩
    unfold Tb.row
    rw [q]
    exact g3
theorem SRr.same (h : SRr X.K X.mg E B ρ σ H i a kvs T r n p) {H' : Hp} (e : Same H H') : SRr X.K X.mg E B ρ σ H' i a kvs T r n p := ⟨h.R.same e, h.sr, h.vr⟩
theorem SRr.setFz {j : Nat} {d : Dm.D} {v : V} (h : SRr X.K X.mg E B ρ σ H i a kvs T r n p) (hj : j ≠ i) (hr : j ≠ r) (q : Rep X.K X.mg (ar B ρ σ H) d v) : SRr X.K X.mg E B (ρ.set j (.fz d)) (σ.set j (some v)) H i a kvs T r n p :=
  ⟨h.R.setFz hj q, by rw [List.getElem?_set_ne hr]; exact h.sr, h.vr⟩
/-- row = rows.setdefault(n, []) -/
theorem rowset_ok {t : Tg} {D : Ends} (R : SRt X.K X.mg E B ρ σ H i a kvs T) (hk : mk ρ = .ok (.int n, t)) (hn : T.n < lim) (hr : r ≠ i) (hl : r < σ.length) (hno : ρ[r]? = some .no)
    (h : ∀ (B' : Bs) (H' : Hp) (kvs' : List (Key × V)) (p : Addr), B'.G = B.G → B'.H = B.H → SRr X.K X.mg E B' ρ (σ.set r (some (.ref p))) H' i a kvs' (T.put n (T.row n)) r n p → D.nx (σ.set r (some (.ref p))) H') : tAsg (tOpn X E W i mk) (gName r) D σ H := by
  refine opn_ok R hk hn fun B' H' kvs' p hG hH R' hp _ => ?_
  have hrl : r < ρ.length := (List.getElem?_eq_some_iff.mp hno).1
  have eρ : ρ.set r .no = ρ := by
    obtain ⟨_, e⟩ := List.getElem?_eq_some_iff.mp hno
    rw [← e, List.set_getElem_self]
  have S2 := R'.S.setNo r (some (.ref p))
  rw [eρ] at S2
  have ho : ∀ b, Own ρ (σ.set r (some (.ref p))) b → Own ρ σ b := fun b ⟨m, k, ds, h1, h2⟩ => by
    by_cases e : r = m
    · subst e
      rw [hno] at h1
      cases h1
    · rw [List.getElem?_set_ne e] at h2
      exact ⟨m, k, ds, h1, h2⟩
  exact h B' H' kvs' p hG hH ⟨⟨S2, by rw [List.getElem?_set_ne hr]; exact R'.sl, R'.tab.same (ar_own ho) (Same.refl _), R'.hid⟩, List.getElem?_set_self hl, hp⟩
end
/-! ### d[k] = v, k a pair that is not in d -/
section
variable {X : Cx} {E : ExE} {W : WX} {pos p : Pos} {o i value : Expr} {td ty tv : TE}
theorem ps_tputN (hu : X.A.units + 64 < cLine) (ho : PE X o td) (hi : PE X i ty) (hv : PE X value tv) (hs : swapsWith value (some (.Subscript o i p)) pos.line X.env = pure false) :
    PS X (.Assign [.Subscript o i p] value pos) (fun D σ H => tv σ H fun v H1 => td σ H1 fun x H2 => ty σ H2 fun y H3 => ∃ (a kb : Addr) (q : Pr) (ps : List Pr) (ka : List Addr) (ws : List V), x = .ref a ∧ y = .ref kb ∧ DtAt X H3 a ps ka ws ∧ Rep X.K X.mg H3 (prD q) (.ref kb) ∧
      ps.length < sizeLine ∧ ¬ q ∈ ps ∧ ∀ ob, D.nx σ (upd H3 a (dN a ob (entZ ((ps ++ [q]).map prD) (ka ++ [kb]) (ws ++ [v]))))) := by
  refine ⟨fun pins s σ H D I h => ?_⟩
  refine wpAny_Assign_Subscript (thn (hv.run pins s σ H _ I h) fun r s1 ⟨v, H1, I1, rv, q1⟩ => thn (ho.run pins s1 σ H1 _ I1 q1) fun u s2 ⟨x, H2, I2, rx, q2⟩ => thn (hi.run pins s2 σ H2 _ I2 q2) fun iv s3 ⟨y, H3, I3, ry, a, kb, q, ps, ka, ws, ex, ey, d, rk, hz, hq, k2⟩ => ?_) hs
  subst ex ey
  obtain rfl : u = Value.ref a := rx
  obtain rfl : iv = Value.ref kb := ry
  obtain ⟨hsm, hlen, us, rvs, l3, hd⟩ := d.look I3
  have l1 : ka.length = ps.length := by simpa using d.ok.ka
  refine wpAny_setItem_heap (knd := nkd X) (k := nkPr q) (hsz := by simp [xsOf, l1, l3]; omega) (show X.A.units + 1 + 8 < cLine by omega) ⟨pr_is I3 rk, nk_depth q⟩ hd fun h' hd' sb => ?_
  obtain ⟨ob0, h0⟩ := d.at_
  have wr : ∀ {es : List (Int × Addr × V)} {ob : Obj} (t : Nat), ObjOk X.prog X.w (upd H3 a (dN a ob es)) h' a (dN a ob es) → Inv X pins σ (upd H3 a (dN a ob es)) { s3 with heap := h', toks := t } := fun {es ob} t ok =>
    I3.write (x := a) (e := a) (o := dN a ob es) (t' := t) (by rw [h0]; trivial) (.inl rfl) (fun b u hb e => (sb.2 b hb).trans e) ⟨ob, ok.1.1⟩ ok
  have hnone : ¬ (atKey (xsOf ps ka us) (nkPr q)).isSome = true := fun z => hq ((at_mem ps ka us q l1 l3).mp z)
  have e : storedH (xsOf ps ka us) (nkPr q) kb r = xsOf (ps ++ [q]) (ka ++ [kb]) (us ++ [r]) := by
    unfold storedH
    rw [if_neg hnone]
    exact xs_app ps ka us q kb _ l1 l3
  rw [e] at hd'
  obtain ⟨ob, ok⟩ := DtAt.of (X := X) (H' := H3) (ws := ws ++ [v]) (by simp [l1]) (rvs.append (.cons rv .nil)) (by simp [l3]) hsm (by rw [List.length_append]; exact hz) hd'
  exact ⟨σ, _, wr _ ok, k2 ob⟩
end
section
variable {X : Cx} {E : ExE} {W : WX} {B : Bs} {ρ : Rho} {σ : St} {H : Hp} {i : Nat} {a : Addr} {kvs : List (Key × V)} {T : Tb} {mb mc : EM}
theorem SRt.updO {c : Nat} {k0 k1 : OwK} {ds ds' : List Dm.D} {b : Addr} {o' : HO} (R : SRt X.K X.mg E B ρ σ H i a kvs T) (eo : ρ[c]? = some (.oo k0 ds)) (g1 : σ[c]? = some (some (.ref b)))
    (S' : SR X.K X.mg E B (ρ.set c (.oo k1 ds')) σ (upd H b o')) : SRt X.K X.mg E B (ρ.set c (.oo k1 ds')) σ (upd H b o') i a kvs T where
  S := S'
  sl := R.sl
  tab := R.tab.mono (updO_same eo g1) fun x hx => by
    rw [upd_ne]
    intro z
    subst z
    exact R.S.xo _ (R.hid _ hx) ⟨c, k0, ds, eo, g1⟩
  hid := R.hid
/-- d[k] = v in the slot c, k not in d -/
def tPutN (X : Cx) (E : ExE) (W : WX) (c : Nat) (mb mc : EM) : TS := fun D σ H => tE X.K X.mg E W mc σ H fun v H1 => tVar c σ H1 fun x H2 => tE X.K X.mg E W mb σ H2 fun y H3 => ∃ (a kb : Addr) (q : Pr) (ps : List Pr) (ka : List Addr) (ws : List V), x = .ref a ∧ y = .ref kb ∧ DtAt X H3 a ps ka ws ∧ Rep X.K X.mg H3 (prD q) (.ref kb) ∧
      ps.length < sizeLine ∧ ¬ q ∈ ps ∧ ∀ ob, D.nx σ (upd H3 a (dN a ob (entZ ((ps ++ [q]).map prD) (ka ++ [kb]) (ws ++ [v]))))
theorem putn_ok {c : Nat} {ps : List Pr} {ds : List Dm.D} {q : Pr} {d : Dm.D} {D : Ends} (R : SRt X.K X.mg E B ρ σ H i a kvs T) (eo : ρ[c]? = some (.oo (.dit (ps.map prD)) ds)) (hc : mc ρ = .ok (d, .cl)) (hb : mb ρ = .ok (prD q, .cl)) (hq : ¬ q ∈ ps) (hl : ps.length < lim)
    (h : ∀ H', SRt X.K X.mg E B (ρ.set c (.oo (.dit ((ps ++ [q]).map prD)) (ds ++ [d]))) σ H' i a kvs T → D.nx σ H') : tPutN X E W c mb mc D σ H := by
  refine ⟨B, ρ, R.S, ?_⟩
  show GM X.K X.mg W B ρ σ H (mc ρ) _
  rw [hc]
  intro v H1 e1 r1
  have R1 := R.same e1
  obtain ⟨b, o, vs, g1, g2, hk, r⟩ := R1.S.ow c _ ds eo
  obtain ⟨ob, ka, ws, rfl, dk, rfl⟩ := hk
  refine ⟨.ref b, g1, B, ρ, R1.S, ?_⟩
  show GM X.K X.mg W B ρ σ H1 (mb ρ) _
  rw [hb]
  intro y H2 e2 r2
  have R2 := R1.same e2
  have r' := r.mono (ar_mono e2)
  obtain ⟨r3, r4⟩ := Reps.split (by rw [List.length_map, List.length_map]; simpa using dk.ka.symm) r'
  have ty0 : Rep X.K X.mg (ar B ρ σ H2) (prD q) y := r2
  obtain ⟨kb, rfl⟩ := pr_ref ty0
  refine ⟨b, kb, q, ps, ka, ws, rfl, rfl, ⟨⟨ob, e2 _ _ g2⟩, dk, r3.mono R2.S.sub⟩, ty0.mono R2.S.sub, by rw [lim_eq]; exact hl, hq, fun ob' => h _ ?_⟩
  have dk2 : DitOk ((ps ++ [q]).map prD) (ka ++ [kb]) (ws ++ [v]) := ⟨by simpa using dk.ka, by simpa using dk.vs, by
    refine nodup_pr ?_
    have := pr_nodup dk.nd
    rw [List.nodup_append]
    exact ⟨this, by simp, by
      intro x hx y hy e
      simp at hy
      subst hy e
      exact hq hx⟩, by
    intro k hk
    obtain ⟨z, _, rfl⟩ := List.mem_map.mp hk
    exact pr_tkey z⟩
  refine R2.updO eo g1 (R2.S.updO (k1 := .dit ((ps ++ [q]).map prD)) (ds' := ds ++ [d]) eo g1 (vs' := (ka ++ [kb]).map V.ref ++ (ws ++ [v])) ⟨ob', ka ++ [kb], ws ++ [v], rfl, dk2, rfl⟩ ?_)
  show Reps X.K X.mg (ar B ρ σ H2) ((ps ++ [q]).map prD ++ (ds ++ [d])) _
  rw [List.map_append, List.map_append]
  exact (r3.app (.cons ty0 .nil)).app (r4.app (.cons (show Rep X.K X.mg (ar B ρ σ H2) d v from (show Rep X.K X.mg (ar B ρ σ H1) d v from r1).mono (ar_mono e2)) .nil))
/-- k < len(row) -/
def tLenLt (X : Cx) (E : ExE) (W : WX) (r : Nat) (ma : EM) : TT := tTest (tOp (rI0 fun i j => .bl (decide (i < j))) (tE X.K X.mg E W ma) (tCB (fun xs H Q => ∃ p ys, xs = [.ref p] ∧ (SqL X.K H p ys ∨ SqT X.K H p ys) ∧ Q (.int ys.length) H) (tCons (tVar r) tNil)))
theorem pt_lenlt {r : Nat} {x : Str} {ea : Expr} {ma : EM} {p1 p2 p3 pos : Pos} (ha : PM X E W ea ma) (hN : X.N[r]? = some x) (hv : Vis X.env.scope x) (hm : X.mg "len" = none) (hg : Gl X "len" := by rfl) (hd : (x == ("__debug__" : Str)) = false := by decide) (hcd : (x == ("__classdict__" : Str)) = false := by decide)
    (hs : starEach [.Name x p1] X.env = (false, eval (.Name x p1) X.env) :: starEach [] X.env := by rfl) (hpl : (backTo p3 (starEach [] X.env)).any (·.1) = false := by rfl) :
    PT X (.Compare ea [.Lt] [.Call (.Name "len" p2) [.Name x p1] [] p3] pos) (tLenLt X E W r ma) :=
  pt_cmpR op_lt ha (pe_callB call_len_seq hg hm (by decide +kernel) (pa_cons (pe_var hN hv hd hcd) pa_nil hs) (he := hs) (hpl := hpl)) (by rfl)
theorem lenlt_ok {r n k : Nat} {p : Addr} {t : Tg} {ma : EM} {Q : Bool → Hp → Prop} (R : SRr X.K X.mg E B ρ σ H i a kvs T r n p) (hk : ma ρ = .ok (.int k, t))
    (h : ∀ H', SRr X.K X.mg E B ρ σ H' i a kvs T r n p → Q (decide (k < (T.row n).length)) H') : tLenLt X E W r ma σ H Q := by
  refine ⟨B, ρ, R.R.S, ?_⟩
  show GM X.K X.mg W B ρ σ H (ma ρ) _
  rw [hk]
  intro v H1 e1 r1
  have R1 := R.same e1
  have rp := r1.rp R1.R.S
  cases rp
  obtain ⟨vs, g1, g2⟩ := R1.row
  have hl : vs.length = (T.row n).length := by rw [← g2.length, List.length_map]
  refine ⟨.ref p, R1.sr, p, vs, rfl, .inl (.of g1), _, _, rfl, rfl, _, rfl, ?_⟩
  have e : decide ((k : Int) < (vs.length : Int)) = decide (k < (T.row n).length) := by
    rw [hl]
    congr 1
    exact propext (by omega)
  rw [e]
  exact h H1 R1
/-- pair, ahead = row[k] -/
def tRowIx (X : Cx) (E : ExE) (W : WX) (r : Nat) (ma : EM) (j l : Nat) : TS := tAsg (tOp (rIx X.K) (tVar r) (tE X.K X.mg E W ma)) (gTup X.K 2 (gNames [j, l]))
theorem rowix_ok {r n k j l : Nat} {p : Addr} {t : Tg} {ma : EM} {e : En} {D : Ends} (R : SRr X.K X.mg E B ρ σ H i a kvs T r n p) (hk : ma ρ = .ok (.int k, t)) (he : (T.row n)[k]? = some e) (hj : j ≠ i) (hj2 : j ≠ r) (hl : l ≠ i) (hl2 : l ≠ r)
    (h : ∀ (v w : V) (H' : Hp), SRr X.K X.mg E B ((ρ.set j (.fz (prD e.1))).set l (.fz (opD e.2))) ((σ.set j (some v)).set l (some w)) H' i a kvs T r n p → D.nx ((σ.set j (some v)).set l (some w)) H') : tRowIx X E W r ma j l D σ H := by
  refine ⟨.ref p, R.sr, B, ρ, R.R.S, ?_⟩
  show GM X.K X.mg W B ρ σ H (ma ρ) _
  rw [hk]
  intro v H1 e1 r1
  have R1 := R.same e1
  have rp := r1.rp R1.R.S
  cases rp
  obtain ⟨vs, g1, g2⟩ := R1.row
  have he' : ((T.row n).map enD)[k]? = some (enD e) := by
    rw [List.getElem?_map, he]
    rfl
  obtain ⟨z, q1, q2⟩ := g2.get he'
  have hz : atI vs (k : Int) = some z := by
    have hkl : k < vs.length := (List.getElem?_eq_some_iff.mp q1).1
    rw [atI_nat hkl, ← List.getElem?_eq_getElem hkl, q1]
  refine .inl ⟨p, vs, k, z, rfl, rfl, .of g1, hz, ?_⟩
  unfold enD at q2
  cases q2 with
  | tup hv rs =>
    cases rs with
    | cons ra rs =>
      cases rs with
      | cons rb rs =>
        cases rs
        refine ⟨_, _, rfl, same_tup R1.R.S.sub hv, rfl, _, _, rfl, _, _, rfl, rfl, ?_⟩
        have Ra := R1.setFz hj hj2 ra
        exact h _ _ H1 (Ra.setFz hl hl2 (rb.mono (ar_own own_set)))
/-! the same, a row in its slot -/
variable {r n : Nat} {p : Addr}
theorem asgr_ok {j : Nat} {m : EM} {d : Dm.D} {D : Ends} (R : SRr X.K X.mg E B ρ σ H i a kvs T r n p) (hm : m ρ = .ok (d, .cl)) (hj : j ≠ i) (hr : j ≠ r)
    (h : ∀ (v : V) (H' : Hp), SRr X.K X.mg E B (ρ.set j (.fz d)) (σ.set j (some v)) H' i a kvs T r n p → D.nx (σ.set j (some v)) H') : tAsg (tE X.K X.mg E W m) (gName j) D σ H :=
  asg_ok R.R hm hj fun v H' R' => h v H' ⟨R', by rw [List.getElem?_set_ne hr]; exact R.sr, R.vr⟩
theorem rowaddr_ok {k : Nat} {t : Tg} {x : En} {D : Ends} {mk mx : EM} (R : SRr X.K X.mg E B ρ σ H i a kvs T r n p) (hk : mk ρ = .ok (.int k, t)) (hx : mx ρ = .ok (enD x, .cl)) (hn : T.n < lim) (hr : (T.row k).length < lim)
    (h : ∀ (B' : Bs) (H' : Hp) (kvs' : List (Key × V)), B'.G = B.G → B'.H = B.H → SRr X.K X.mg E B' ρ σ H' i a kvs' (T.put2 k (T.row k ++ [x])) r n p → D.nx σ H') : tRowAdd X E W i mk mx D σ H :=
  rowadd_ok R.R hk hx hn hr fun B' H' kvs' hG hH R' hext => h B' H' kvs' hG hH ⟨R', R.sr, hext _ _ R.vr⟩
theorem putnr_ok {c : Nat} {ps : List Pr} {ds : List Dm.D} {q : Pr} {d : Dm.D} {D : Ends} (R : SRr X.K X.mg E B ρ σ H i a kvs T r n p) (eo : ρ[c]? = some (.oo (.dit (ps.map prD)) ds)) (hc : mc ρ = .ok (d, .cl)) (hb : mb ρ = .ok (prD q, .cl)) (hq : ¬ q ∈ ps) (hl : ps.length < lim)
    (h : ∀ H', SRr X.K X.mg E B (ρ.set c (.oo (.dit ((ps ++ [q]).map prD)) (ds ++ [d]))) σ H' i a kvs T r n p → D.nx σ H') : tPutN X E W c mb mc D σ H :=
  putn_ok R.R eo hc hb hq hl fun H' R' => h H' ⟨R', R.sr, R.vr⟩
end
/-! ### back from a loop, more laid aside -/
section
variable {K : PySem.W.Frag} {mg : Str → Option Value} {E : ExE} {B B1 : Bs} {ρ ρ' : Rho} {σ σ' : St} {H H' : Hp} {i : Nat} {a : Addr} {kvs : List (Key × V)} {T : Tb}
def Bs.withX (B : Bs) (Y : Addr → Prop) : Bs := ⟨B.G, B.H, Y⟩
theorem ar_backX (S : SR K mg E B ρ σ H) (g : B1.G = (B.re ρ σ H).G) (h0 : B1.H = (B.re ρ σ H).H) (e : Same (hid B ρ σ H) H') : Same (ar B1 ρ' σ' H') (ar (B.withX B1.X) ρ' σ' H') := fun b o h => by
  by_cases hx : B1.X b ∨ Own ρ' σ' b
  · rw [ar_out hx] at h
    cases h
  · have hx' : ¬ ((B.withX B1.X).X b ∨ Own ρ' σ' b) := hx
    by_cases hn : B1.H b = none
    · rw [ar_none hx hn] at h
      have hn' : hid B ρ σ H b = none := by rw [h0] at hn; exact hn
      have : (B.withX B1.X).H b = none := by
        show B.H b = none
        by_cases z : B.X b ∨ Own ρ σ b
        · exact S.new b z
        · unfold hid at hn'
          rw [if_neg z] at hn'
          exact S.newB hn'
      rw [ar_none hx' this]
      exact h
    · rw [ar_some hx hn, g] at h
      have h' : ar B ρ σ H b = some o := h
      have hh := ar_hid S (fun _ z => z) _ _ h'
      by_cases hb : B.H b = none
      · rw [ar_none hx' hb]
        exact e _ _ hh
      · rw [ar_some hx' hb]
        by_cases z : B.X b ∨ Own ρ σ b
        · rw [ar_out z] at h'
          cases h'
        · rw [ar_some z hb] at h'
          exact h'
theorem SR.backX (S : SR K mg E B ρ σ H) (R : SR K mg E B1 ρ' σ' H') (g : B1.G = (B.re ρ σ H).G) (h0 : B1.H = (B.re ρ σ H).H) : SR K mg E (B.withX B1.X) ρ' σ' H' := by
  have hb : Same (hid B ρ σ H) H' := by
    have := R.bh
    rw [h0] at this
    exact this
  refine ⟨R.len, fun i d h => ?_, fun i k d h => ?_, R.dj, R.ex, S.gh, (show Same B.H H' from bh_back S hb), fun b z => ?_, R.xo, R.xt⟩
  · obtain ⟨v, h1, h2⟩ := R.fz i d h
    exact ⟨v, h1, h2.mono (ar_backX S g h0 hb)⟩
  · obtain ⟨a, o, vs, h1, h2, hk, h3⟩ := R.ow i k d h
    exact ⟨a, o, vs, h1, h2, hk, h3.mono (ar_backX S g h0 hb)⟩
  · have hn : hid B ρ σ H b = none := by
      have := R.new b z
      rw [h0] at this
      exact this
    show B.H b = none
    by_cases y : B.X b ∨ Own ρ σ b
    · exact S.new b y
    · unfold hid at hn
      rw [if_neg y] at hn
      exact S.newB hn
theorem SRt.backX (S : SR K mg E B ρ σ H) (R : SRt K mg E B1 ρ' σ' H' i a kvs T) (g : B1.G = (B.re ρ σ H).G) (h0 : B1.H = (B.re ρ σ H).H) : SRt K mg E (B.withX B1.X) ρ' σ' H' i a kvs T where
  S := S.backX R.S g h0
  sl := R.sl
  tab := R.tab.same (ar_backX S g h0 (by
    have := R.S.bh
    rw [h0] at this
    exact this)) (Same.refl H')
  hid := R.hid
theorem ar_re0 (S : SR K mg E B ρ σ H) : ar (B.re ρ σ H) ρ σ H = ar B ρ σ H := by
  funext b
  by_cases hx : B.X b ∨ Own ρ σ b
  · have hx' : (B.re ρ σ H).X b ∨ Own ρ σ b := hx
    rw [ar_out hx, ar_out hx']
  · have hx' : ¬ ((B.re ρ σ H).X b ∨ Own ρ σ b) := hx
    have hh : (B.re ρ σ H).H b = H b := by
      show hid B ρ σ H b = H b
      unfold hid
      rw [if_neg hx]
    by_cases hn : H b = none
    · rw [ar_none hx' (hh.trans hn), ar_none hx (S.newB hn)]
    · rw [ar_some hx' (fun z => hn (hh.symm.trans z))]
      rfl
theorem SRt.re (R : SRt K mg E B ρ σ H i a kvs T) : SRt K mg E (B.re ρ σ H) ρ σ H i a kvs T where
  S := R.S.re
  sl := R.sl
  tab := by
    rw [ar_re0 R.S]
    exact R.tab
  hid := R.hid
/-- rows = {} -/
theorem rows0_ok {D : Ends} (S : SR K mg E B ρ σ H) (hno : ρ[i]? = some .no) (hl : i < σ.length)
    (h : ∀ (a : Addr) (H' : Hp), Same H H' → SRt K mg E (B.add a) ρ (σ.set i (some (.ref a))) H' i a [] ⟨fun _ => none, 0⟩ → D.nx (σ.set i (some (.ref a))) H') :
    tAsg (fun _ H Q => ∀ p, H p = none → Q (.ref p) (upd H p (.dK []))) (gName i) D σ H := fun p hp => by
  have e := Same.upd (o := HO.dK []) hp
  have S1 := S.add hp e (upd_same ..)
  have eρ : ρ.set i .no = ρ := by
    obtain ⟨_, e⟩ := List.getElem?_eq_some_iff.mp hno
    rw [← e, List.set_getElem_self]
  have S2 := S1.setNo i (some (.ref p))
  rw [eρ] at S2
  exact h p _ e ⟨S2, List.getElem?_set_self hl, TabAt.nil (upd_same ..), fun b hb => by
    rcases hb with rfl | ⟨j, hb⟩
    · exact .inl rfl
    · cases hb⟩
end
end Dm
end

section
set_option Elab.async false
set_option linter.all false
set_option maxRecDepth 100000
set_option maxHeartbeats 4000000
/-! Dm: what is come to: the loops, and the rule of the def's body. -/
namespace Dm
open PySem PySem.Spec L2 TL
theorem bind_ok {α β : Type} {r : Res α} {f : α → Res β} {b : β} (h : r.bind f = .ok b) : ∃ a, r = .ok a ∧ f a = .ok b := by
  cases r with
  | ok a => exact ⟨a, rfl, h⟩
  | ex C => cases h
  | bad => cases h
theorem drop_at {α : Type} {xs : List α} {i : Nat} {x : α} (h : xs[i]? = some x) : xs.drop i = x :: xs.drop (i + 1) := by
  obtain ⟨hl, rfl⟩ := List.getElem?_eq_some_iff.mp h
  exact List.drop_eq_getElem_cons hl
theorem natOf_ok {r : Res (D × Bool)} {k : Nat} (h : natOf r = .ok k) : ∃ b, r = .ok (.int k, b) := by
  obtain ⟨⟨d, b⟩, rfl, h⟩ := bind_ok h
  cases d with
  | int i =>
    have h' : (if 0 ≤ i then Res.ok i.toNat else .bad) = .ok k := h
    split at h'
    · cases h'
      exact ⟨b, by rw [Int.toNat_of_nonneg (by assumption)]⟩
    · cases h'
  | _ => cases h
theorem bitOf_ok {r : Res (D × Bool)} {k : Nat} (h : bitOf r = .ok k) : ∃ c b, r = .ok (.bl c, b) ∧ k = if c then 1 else 0 := by
  obtain ⟨⟨d, b⟩, rfl, h⟩ := bind_ok h
  cases d with
  | bl c =>
    cases h
    exact ⟨c, b, rfl, rfl⟩
  | _ => cases h
theorem prsOf_ok {r : Res (D × Bool)} {ps : List Pr} (h : prsOf r = .ok ps) : ∃ b, r = .ok (.seq .lst (ps.map prD), b) := by
  obtain ⟨⟨d, b⟩, rfl, h⟩ := bind_ok h
  cases d with
  | seq k ds =>
    cases k with
    | lst =>
      have h' : (match asPrs ds with | some qs => Res.ok qs | none => .bad) = .ok ps := h
      split at h'
      · rename_i qs e
        cases h'
        exact ⟨b, by rw [asPrs_eq e]⟩
      · cases h'
    | _ => cases h
  | _ => cases h
/-- the slots of come_to -/
noncomputable def sC (c : D) (C : List En) (a3 a4 a6 a7 a8 a9 : Sl) : Rho := [.fz c, .oo (.dit ((C.map Prod.fst).map prD)) (C.map fun e => opD e.2), .no, a3, a4, .no, a6, a7, a8, a9]
noncomputable def eK (sa : FM) : EM := mCall sa (amCons (mV 0) (amCons (mIx (mIx (mV 3) (mC (.int 0))) (mC (.int 0))) amNil))
noncomputable def eX1 : EM := mTup (amCons (mV 3) (amCons (mC .non) amNil))
noncomputable def eL : EM := mB oAdd (mV 4) (mV 9)
noncomputable def eX2 : EM := mTup (amCons (mV 8) (amCons (mV 3) amNil))
noncomputable def eS (st : FM) : EM := mBlt bInt (amCons (mCall st (amCons (mV 3) (amCons (mV 8) amNil))) amNil)
noncomputable def eInc (i : Nat) : EM := mB oAdd (mV i) (mC (.int 1))
noncomputable def wF (fp : FM) : WM := wmA (mCall fp (amCons (mV 0) amNil))
noncomputable def wN (nx : FM) : WM := wmA (mCall nx (amCons (mV 0) (amCons (mV 3) amNil)))
noncomputable def tmNI : TM := mTB (mCmp notInT (mV 3) (mV 1))
noncomputable def tmLE (pl : FM) : TM := mTB (mCmp cLe (mV 4) (mCall pl (amCons (mV 0) amNil)))
section
variable {c : D} {C : List En} {a3 a4 a6 a7 a8 a9 : Sl} {p q : Pr} {k n : Nat} {sa st fp nx pl : FM} {ps : List Pr}
theorem two_lim : 2 ≤ lim := by rw [lim_def]; decide
theorem eK_ok (h : natOf (sa [c, .int p.1.1]) = .ok k) : ∃ t, eK sa (sC c C (.fz (prD p)) a4 a6 a7 a8 a9) = .ok (.int k, t) := by
  obtain ⟨b, e⟩ := natOf_ok h
  refine ⟨.cl, ?_⟩
  have : eK sa (sC c C (.fz (prD p)) a4 a6 a7 a8 a9) = (sa [c, .int p.1.1]).bind fun r => if r.1.sc then .ok (r.1, .cl) else .ok (r.1, if r.2 then .fr else .cl) := rfl
  rw [this, e]
  rfl
theorem eX1_ok : eX1 (sC c C (.fz (prD p)) a4 a6 a7 a8 a9) = .ok (enD (p, none), .cl) := by
  have : eX1 (sC c C (.fz (prD p)) a4 a6 a7 a8 a9) = if 2 ≤ lim then .ok (.seq .tup [prD p, .non], .cl) else .bad := rfl
  rw [this, if_pos two_lim]
  rfl
theorem eX2_ok : eX2 (sC c C (.fz (prD p)) a4 a6 a7 (.fz (prD q)) a9) = .ok (enD (q, some p), .cl) := by
  have : eX2 (sC c C (.fz (prD p)) a4 a6 a7 (.fz (prD q)) a9) = if 2 ≤ lim then .ok (.seq .tup [prD q, prD p], .cl) else .bad := rfl
  rw [this, if_pos two_lim]
  rfl
theorem eS_ok (h : bitOf (st [prD p, prD q]) = .ok k) : eS st (sC c C (.fz (prD p)) a4 a6 a7 (.fz (prD q)) a9) = .ok (.int k, .cl) := by
  obtain ⟨d, b, e, rfl⟩ := bitOf_ok h
  have : eS st (sC c C (.fz (prD p)) a4 a6 a7 (.fz (prD q)) a9) = ((((st [prD p, prD q]).bind fun r => if r.1.sc then Res.ok (r.1, Tg.cl) else .ok (r.1, if r.2 then .fr else .cl)).bind fun x => .ok [x]).bind fun xs => (bInt (xs.map (·.1))).bind fun d => .ok (d, .cl)) := rfl
  rw [this, e]
  cases d <;> rfl
theorem eL_ok : eL (sC c C a3 (.fz (.int n)) a6 a7 a8 (.fz (.int k))) = .ok (.int ((n + k : Nat) : Int), .cl) := by
  have : eL (sC c C a3 (.fz (.int n)) a6 a7 a8 (.fz (.int k))) = .ok (.int ((n : Int) + k), .cl) := rfl
  rw [this, Int.natCast_add]
theorem wF_ok (h : prsOf (fp [c]) = .ok ps) : wF fp (sC c C a3 a4 a6 a7 a8 a9) = .ok (ps.map prD, none) := by
  obtain ⟨b, e⟩ := prsOf_ok h
  have : wF fp (sC c C a3 a4 a6 a7 a8 a9) = ((fp [c]).bind fun r => if r.1.sc then Res.ok (r.1, Tg.cl) else .ok (r.1, if r.2 then .fr else .cl)).bind fun x => match x.1 with
      | .seq .tup xs => .ok (xs, none)
      | .seq _ xs => .ok (xs, x.2.slot)
      | .str s => .ok (s.map fun c => .str [c], none)
      | _ => .bad := rfl
  rw [this, e]
  cases b <;> rfl
theorem wN_ok (h : prsOf (nx [c, prD p]) = .ok ps) : wN nx (sC c C (.fz (prD p)) a4 a6 a7 a8 a9) = .ok (ps.map prD, none) := by
  obtain ⟨b, e⟩ := prsOf_ok h
  have : wN nx (sC c C (.fz (prD p)) a4 a6 a7 a8 a9) = ((nx [c, prD p]).bind fun r => if r.1.sc then Res.ok (r.1, Tg.cl) else .ok (r.1, if r.2 then .fr else .cl)).bind fun x => match x.1 with
      | .seq .tup xs => .ok (xs, none)
      | .seq _ xs => .ok (xs, x.2.slot)
      | .str s => .ok (s.map fun c => .str [c], none)
      | _ => .bad := rfl
  rw [this, e]
  cases b <;> rfl
theorem tmNI_ok : tmNI (sC c C (.fz (prD p)) a4 a6 a7 a8 a9) = .ok (!decide (p ∈ C.map Prod.fst)) := by
  have : tmNI (sC c C (.fz (prD p)) a4 a6 a7 a8 a9) = ((notInT (prD p) (.dit ((C.map Prod.fst).map prD) (C.map fun e => opD e.2))).bind fun k => Res.ok (D.bl k, Tg.cl)).bind fun x => x.1.isB := rfl
  rw [this]
  have e : inT (prD p) (.dit ((C.map Prod.fst).map prD) (C.map fun e => opD e.2)) = .ok (decide (p ∈ C.map Prod.fst)) := by
    show (match asPr (prD p), asPrs ((C.map Prod.fst).map prD) with
      | some p, some ps => Res.ok (decide (p ∈ ps))
      | _, _ => .bad) = _
    rw [asPrs_map, asPr_prD]
  unfold notInT
  rw [e]
  rfl
theorem tmLE_ok {m : Nat} (h : natOf (pl [c]) = .ok n) : tmLE pl (sC c C a3 (.fz (.int m)) a6 a7 a8 a9) = .ok (decide (m ≤ n)) := by
  obtain ⟨b, e⟩ := natOf_ok h
  have : tmLE pl (sC c C a3 (.fz (.int m)) a6 a7 a8 a9) = ((((pl [c]).bind fun r => if r.1.sc then Res.ok (r.1, Tg.cl) else .ok (r.1, if r.2 then .fr else .cl)).bind fun y => (cLe (.int m) y.1).bind fun k => Res.ok (D.bl k, Tg.cl)).bind fun x => x.1.isB) := rfl
  rw [this, e]
  show Res.ok (decide ((m : Int) ≤ (n : Int))) = _
  congr 1
  exact decide_eq_decide.mpr (by omega)
end
section
variable {X : Cx} {E : ExE} {W : WX} {B : Bs} {ρ : Rho} {σ : St} {H : Hp} {D : Ends}
/-- a loop over a list that stands, its invariant told behind the list -/
theorem for_P {wm : WM} {g : TG} {tb : TS} {ds : List Dm.D} (S : SR X.K X.mg E B ρ σ H) (hw : wm ρ = .ok (ds, none))
    (k : ∀ H1, Same H H1 → SR X.K X.mg E B ρ σ H1 → ∃ P : Nat → St → Hp → Prop, P 0 σ H1 ∧ ∀ i σ' H', P i σ' H' →
      ∃ (B' : Bs) (ρ' : Rho), B'.G = (B.re ρ σ H1).G ∧ B'.H = (B.re ρ σ H1).H ∧ SR X.K X.mg E B' ρ' σ' H' ∧
        (∀ d, ds[i]? = some d → ∀ x H2, Same H' H2 → Rep X.K X.mg (ar B' ρ' σ' H2) d x → g x σ' H2 fun σ3 H3 => tb { D with nx := P (i + 1), ct := P (i + 1), bk := D.nx } σ3 H3) ∧
        (i = ds.length → D.nx σ' H')) : tFor (tI X.K X.mg E W wm) g tb D σ H := by
  refine ⟨B, ρ, S, ?_⟩
  rw [hw]
  refine fun J H1 e1 S1 wk => ?_
  obtain ⟨P, p0, step⟩ := k H1 e1 S1
  refine ⟨fun i m σ' H' => m = ds.length - i ∧ i ≤ ds.length ∧ P i σ' H', ⟨ds.length, by simp, Nat.zero_le _, p0⟩, ?_⟩
  rintro i m σ' H' ⟨rfl, hi, p⟩
  obtain ⟨B', ρ', g0, h0, S', hb, he⟩ := step i σ' H' p
  have hbH : Same (hid B ρ σ H1) H' := by
    have := S'.bh
    rw [h0] at this
    exact this
  by_cases hlt : i < ds.length
  · refine .inr ⟨wk.go i H' hbH hlt, P (i + 1), fun σ2 H2 n => ⟨ds.length - (i + 1), by omega, rfl, hlt, n⟩, fun x H2 y => ?_⟩
    obtain ⟨s2, d, ed, rd⟩ := wk.yld i H' x H2 hbH hlt y
    refine hb d ed x H2 s2 (rd.mono fun b ob hb' => ?_)
    by_cases hn : H' b = none
    · have hb2 : H2 b = some ob := by simpa [hn] using hb'
      have hx : ¬ (B'.X b ∨ Own ρ' σ' b) := fun z => by
        rcases z with z | z
        · obtain ⟨u, q⟩ := S'.xt b z
          rw [hn] at q; cases q
        · obtain ⟨u, q⟩ := S'.there z
          rw [hn] at q; cases q
      rw [ar_none hx (S'.newB hn)]
      exact hb2
    · have hb2 : ar B ρ σ H1 b = some ob := by simpa [hn] using hb'
      have hb3 : hid B ρ σ H1 b = some ob := ar_hid S1 (fun _ z => z) _ _ hb2
      have hx : ¬ (B'.X b ∨ Own ρ' σ' b) := fun z => by
        have := S'.new b z
        rw [h0, show (B.re ρ σ H1).H b = hid B ρ σ H1 b from rfl, hb3] at this
        cases this
      rw [ar_some hx (by rw [h0, show (B.re ρ σ H1).H b = hid B ρ σ H1 b from rfl, hb3]; simp), g0]
      exact hb2
  · have hge : ds.length ≤ i := by omega
    exact .inl ⟨wk.stop _ H' hbH hge, he (by omega)⟩
variable {a : Addr} {kvs : List (Key × V)} {T T' : Tb} {c : Dm.D} {C C' : List En} {a3 a4 a6 a7 a8 a9 : Sl} {p q : Pr} {k n : Nat} {sa st fp nx pl : FM} {ps : List Pr}
def tFirst (X : Cx) (E : ExE) (W : WX) (sa : FM) : TS := tRowAdd X E W 2 (eK sa) eX1
theorem for1_ok {wm : WM} (R : SRt X.K X.mg E B (sC c C a3 a4 a6 a7 a8 a9) σ H 2 a kvs T) (hw : wm (sC c C a3 a4 a6 a7 a8 a9) = .ok (ps.map prD, none)) (hT : comeFirst (fun i => natOf (sa [c, .int i])) ps T = .ok T')
    (h : ∀ (B' : Bs) (a3' : Sl) (kvs' : List (Key × V)) (σ' : St) (H' : Hp), B'.G = B.G → B'.H = B.H → SRt X.K X.mg E B' (sC c C a3' a4 a6 a7 a8 a9) σ' H' 2 a kvs' T' → D.nx σ' H') :
    tFor (tI X.K X.mg E W wm) (gName 3) (tFirst X E W sa) D σ H := by
  refine for_P R.S hw fun H1 e1 S1 => ⟨fun i σ' H' => ∃ (B' : Bs) (a3' : Sl) (kvs' : List (Key × V)) (T1 : Tb), B'.G = (B.re (sC c C a3 a4 a6 a7 a8 a9) σ H1).G ∧ B'.H = (B.re (sC c C a3 a4 a6 a7 a8 a9) σ H1).H ∧
    SRt X.K X.mg E B' (sC c C a3' a4 a6 a7 a8 a9) σ' H' 2 a kvs' T1 ∧ comeFirst (fun i => natOf (sa [c, .int i])) (ps.drop i) T1 = .ok T', ⟨B.re _ σ H1, a3, kvs, T, rfl, rfl, (R.same e1).re, hT⟩, ?_⟩
  rintro i σ' H' ⟨B', a3', kvs', T1, g, h0, R', hT'⟩
  refine ⟨B', _, g, h0, R'.S, fun d ed x H2 e2 rx => ?_, fun hi => ?_⟩
  · obtain ⟨p, hp, rfl⟩ := List.mem_map.mp (List.mem_of_getElem? ed) |> fun _ => (by simpa using ed : ∃ p, ps[i]? = some p ∧ prD p = d)
    rw [drop_at hp] at hT'
    unfold comeFirst at hT'
    obtain ⟨k, hk, hT'⟩ := bind_ok hT'
    obtain ⟨T2, hT2, hT'⟩ := bind_ok hT'
    unfold Tb.add at hT2
    split at hT2
    · rename_i hl
      cases hT2
      have R2 : SRt X.K X.mg E B' (sC c C (.fz (prD p)) a4 a6 a7 a8 a9) (σ'.set 3 (some x)) H2 2 a kvs' T1 := (R'.same e2).setFz (j := 3) (by decide) rx
      obtain ⟨t, hk'⟩ := eK_ok (C := C) (a4 := a4) (a6 := a6) (a7 := a7) (a8 := a8) (a9 := a9) hk
      exact rowadd_ok R2 hk' eX1_ok hl.1 hl.2 fun B2 H3 kvs2 hG hH R3 _ => ⟨B2, _, kvs2, _, hG.trans g, hH.trans h0, R3, hT'⟩
    · cases hT2
  · rw [List.drop_eq_nil_of_le (by rw [hi]; simp)] at hT'
    cases hT'
    exact h (B.withX B'.X) a3' kvs' σ' H' rfl rfl (SRt.backX (R.S.mono e1) R' g h0)
theorem SRr.re {r n : Nat} {ad : Addr} {i : Nat} (R : SRr X.K X.mg E B ρ σ H i a kvs T r n ad) : SRr X.K X.mg E (B.re ρ σ H) ρ σ H i a kvs T r n ad := ⟨R.R.re, R.sr, R.vr⟩
def tThen2 (X : Cx) (E : ExE) (W : WX) (st : FM) : TS := tSeq (tAsg (tE X.K X.mg E W (eS st)) (gName 9)) (tRowAdd X E W 2 eL eX2)
theorem for2_ok {wm : WM} {ad : Addr} (R : SRr X.K X.mg E B (sC c C (.fz (prD p)) (.fz (.int n)) a6 a7 a8 a9) σ H 2 a kvs T 5 n ad) (hw : wm (sC c C (.fz (prD p)) (.fz (.int n)) a6 a7 a8 a9) = .ok (ps.map prD, none))
    (hT : comeAdd (fun p q => bitOf (st [prD p, prD q])) n p ps T = .ok T')
    (h : ∀ (B' : Bs) (a8' a9' : Sl) (kvs' : List (Key × V)) (σ' : St) (H' : Hp), B'.G = B.G → B'.H = B.H → SRr X.K X.mg E B' (sC c C (.fz (prD p)) (.fz (.int n)) a6 a7 a8' a9') σ' H' 2 a kvs' T' 5 n ad → D.nx σ' H') :
    tFor (tI X.K X.mg E W wm) (gName 8) (tThen2 X E W st) D σ H := by
  refine for_P R.R.S hw fun H1 e1 S1 => ⟨fun i σ' H' => ∃ (B' : Bs) (a8' a9' : Sl) (kvs' : List (Key × V)) (T1 : Tb), B'.G = (B.re (sC c C (.fz (prD p)) (.fz (.int n)) a6 a7 a8 a9) σ H1).G ∧ B'.H = (B.re (sC c C (.fz (prD p)) (.fz (.int n)) a6 a7 a8 a9) σ H1).H ∧
    SRr X.K X.mg E B' (sC c C (.fz (prD p)) (.fz (.int n)) a6 a7 a8' a9') σ' H' 2 a kvs' T1 5 n ad ∧ comeAdd (fun p q => bitOf (st [prD p, prD q])) n p (ps.drop i) T1 = .ok T', ⟨B.re _ σ H1, a8, a9, kvs, T, rfl, rfl, (R.same e1).re, hT⟩, ?_⟩
  rintro i σ' H' ⟨B', a8', a9', kvs', T1, g, h0, R', hT'⟩
  refine ⟨B', _, g, h0, R'.R.S, fun d ed x H2 e2 rx => ?_, fun hi => ?_⟩
  · obtain ⟨q, hp, rfl⟩ := (by simpa using ed : ∃ q, ps[i]? = some q ∧ prD q = d)
    rw [drop_at hp] at hT'
    unfold comeAdd at hT'
    obtain ⟨k, hk, hT'⟩ := bind_ok hT'
    obtain ⟨T2, hT2, hT'⟩ := bind_ok hT'
    unfold Tb.add at hT2
    split at hT2
    · rename_i hl
      cases hT2
      have R2 : SRr X.K X.mg E B' (sC c C (.fz (prD p)) (.fz (.int n)) a6 a7 (.fz (prD q)) a9') (σ'.set 8 (some x)) H2 2 a kvs' T1 5 n ad := (R'.same e2).setFz (j := 8) (by decide) (by decide) rx
      refine asgr_ok (W := W) R2 (eS_ok hk) (by decide) (by decide) fun v H3 R3 => ?_
      exact rowaddr_ok (σ := (σ'.set 8 (some x)).set 9 (some v)) (ρ := sC c C (.fz (prD p)) (.fz (.int n)) a6 a7 (.fz (prD q)) (.fz (.int k))) R3 eL_ok eX2_ok hl.1 hl.2 fun B2 H4 kvs2 hG hH R4 => ⟨B2, _, _, kvs2, _, hG.trans g, hH.trans h0, R4, hT'⟩
    · cases hT2
  · rw [List.drop_eq_nil_of_le (by rw [hi]; simp)] at hT'
    cases hT'
    exact h (B.withX B'.X) a8' a9' kvs' σ' H' rfl rfl ⟨SRt.backX (R.R.S.mono e1) R'.R g h0, R'.sr, R'.vr⟩
end
/-! ### the two whiles -/
section
variable {X : Cx} {E : ExE} {W : WX} {B : Bs} {ρ : Rho} {σ : St} {H : Hp} {D : Ends}
variable {a ad : Addr} {kvs : List (Key × V)} {T T' : Tb} {c : Dm.D} {C C' : List En} {a3 a4 a6 a7 a8 a9 : Sl} {p q : Pr} {k n : Nat} {sa st fp nx pl : FM} {ps : List Pr}
def tNew (X : Cx) (E : ExE) (W : WX) (nx st : FM) : TS := tSeq (tPutN X E W 1 (mV 3) (mV 7)) (tFor (tI X.K X.mg E W (wN nx)) (gName 8) (tThen2 X E W st))
def tInB (X : Cx) (E : ExE) (W : WX) (nx st : FM) : TS := tSeq (tRowIx X E W 5 (mV 6) 3 7) (tSeq (tAsg (tE X.K X.mg E W (eInc 6)) (gName 6)) (tIfS (tT X.K X.mg E W tmNI) (tNew X E W nx st) tNext))
def tIn (X : Cx) (E : ExE) (W : WX) (nx st : FM) : TS := tWhile (tLenLt X E W 5 (mV 6)) (tInB X E W nx st)
theorem new_ok {e : En} (R : SRr X.K X.mg E B (sC c C (.fz (prD e.1)) (.fz (.int n)) a6 (.fz (opD e.2)) a8 a9) σ H 2 a kvs T 5 n ad) (he : ¬ e.1 ∈ C.map Prod.fst) (hl : C.length < lim)
    (hn : prsOf (nx [c, prD e.1]) = .ok ps) (hT : comeAdd (fun p q => bitOf (st [prD p, prD q])) n e.1 ps T = .ok T')
    (h : ∀ (B' : Bs) (a8' a9' : Sl) (kvs' : List (Key × V)) (σ' : St) (H' : Hp), B'.G = B.G → B'.H = B.H → SRr X.K X.mg E B' (sC c (C ++ [e]) (.fz (prD e.1)) (.fz (.int n)) a6 (.fz (opD e.2)) a8' a9') σ' H' 2 a kvs' T' 5 n ad → D.nx σ' H') :
    tNew X E W nx st D σ H := by
  refine putnr_ok (c := 1) (mb := mV 3) (mc := mV 7) (ps := C.map Prod.fst) (ds := C.map fun e => opD e.2) (q := e.1) (d := opD e.2) R rfl rfl rfl he (by rw [List.length_map]; exact hl) fun H1 R1 => ?_
  have R2 : SRr X.K X.mg E B (sC c (C ++ [e]) (.fz (prD e.1)) (.fz (.int n)) a6 (.fz (opD e.2)) a8 a9) σ H1 2 a kvs T 5 n ad := by
    have e1 : (C ++ [e]).map Prod.fst = C.map Prod.fst ++ [e.1] := by rw [List.map_append]; rfl
    have e2 : ((C ++ [e]).map fun e => opD e.2) = (C.map fun e => opD e.2) ++ [opD e.2] := by rw [List.map_append]; rfl
    unfold sC
    rw [e1, e2]
    exact R1
  exact for2_ok R2 (wN_ok hn) hT h
theorem inc_ok {i : Nat} (h : ρ[i]? = some (.fz (.int k))) : eInc i ρ = .ok (.int ((k + 1 : Nat) : Int), .cl) := by
  unfold eInc mB mV mC
  rw [h]
  show Res.ok (D.int ((k : Int) + 1), Tg.cl) = _
  rw [Int.natCast_add]
  rfl
theorem in_ok {f : Nat} (R : SRr X.K X.mg E B (sC c C a3 (.fz (.int n)) (.fz (.int k)) a7 a8 a9) σ H 2 a kvs T 5 n ad)
    (hT : comeIn (fun p => prsOf (nx [c, prD p])) (fun p q => bitOf (st [prD p, prD q])) n f k C T = .ok (C', T'))
    (h : ∀ (B' : Bs) (a3' a6' a7' a8' a9' : Sl) (kvs' : List (Key × V)) (σ' : St) (H' : Hp), B'.G = B.G → B'.H = B.H → SRr X.K X.mg E B' (sC c C' a3' (.fz (.int n)) a6' a7' a8' a9') σ' H' 2 a kvs' T' 5 n ad → D.nx σ' H') :
    tIn X E W nx st D σ H := by
  refine ⟨fun m σ' H' => ∃ (B' : Bs) (a3' a7' a8' a9' : Sl) (kvs' : List (Key × V)) (C1 : List En) (T1 : Tb) (k1 : Nat), B'.G = B.G ∧ B'.H = B.H ∧
    SRr X.K X.mg E B' (sC c C1 a3' (.fz (.int n)) (.fz (.int k1)) a7' a8' a9') σ' H' 2 a kvs' T1 5 n ad ∧ comeIn (fun p => prsOf (nx [c, prD p])) (fun p q => bitOf (st [prD p, prD q])) n m k1 C1 T1 = .ok (C', T'),
    ⟨f, B, a3, a7, a8, a9, kvs, C, T, k, rfl, rfl, R, hT⟩, ?_⟩
  rintro m σ1 H1 ⟨B1, b3, b7, b8, b9, kvs1, C1, T1, k1, g, h0, R1, hT1⟩
  refine lenlt_ok (ma := mV 6) (k := k1) (t := .cl) R1 rfl fun H2 R2 => ?_
  cases m with
  | zero => cases hT1
  | succ m =>
    unfold comeIn at hT1
    split at hT1
    · rename_i e
      have this : ¬ k1 < (T1.row n).length := fun z => by
        rw [List.getElem?_eq_getElem z] at e
        cases e
      rw [decide_eq_false this]
      cases hT1
      refine iteF ?_
      exact h B1 b3 _ b7 b8 b9 kvs1 σ1 H2 g h0 R2
    · rename_i e he
      have hk : k1 < (T1.row n).length := (List.getElem?_eq_some_iff.mp he).1
      rw [decide_eq_true hk]
      refine iteT ⟨_, fun σ' H' z => ⟨m, Nat.lt_succ_self _, z⟩, ?_⟩
      refine rowix_ok (k := k1) (t := .cl) (ma := mV 6) R2 rfl he (by decide) (by decide) (by decide) (by decide) fun v w H3 R3 => ?_
      have R3' : SRr X.K X.mg E B1 (sC c C1 (.fz (prD e.1)) (.fz (.int n)) (.fz (.int k1)) (.fz (opD e.2)) b8 b9) _ H3 2 a kvs1 T1 5 n ad := R3
      refine asgr_ok (W := W) R3' (inc_ok (k := k1) rfl) (by decide) (by decide) fun v4 H4 R4 => ?_
      have R4' : SRr X.K X.mg E B1 (sC c C1 (.fz (prD e.1)) (.fz (.int n)) (.fz (.int ((k1 + 1 : Nat) : Int))) (.fz (opD e.2)) b8 b9) _ H4 2 a kvs1 T1 5 n ad := R4
      refine ⟨B1, _, R4'.R.S, ?_⟩
      rw [tmNI_ok]
      refine fun H5 e5 => ?_
      have R5 := R4'.same e5
      split at hT1
      · rename_i hm
        rw [decide_eq_true hm]
        refine iteF ?_
        exact ⟨B1, _, _, _, _, kvs1, C1, T1, k1 + 1, g, h0, R5, hT1⟩
      · rename_i hm
        rw [decide_eq_false hm]
        refine iteT ?_
        split at hT1
        · rename_i hl
          obtain ⟨qs, hq, hT1⟩ := bind_ok hT1
          obtain ⟨T2, hT2, hT1⟩ := bind_ok hT1
          exact new_ok R5 hm hl hq hT2 fun B6 b8' b9' kvs6 σ6 H6 g6 h6 R6 => ⟨B6, _, _, _, _, kvs6, _, T2, k1 + 1, g6.trans g, h6.trans h0, R6, hT1⟩
        · cases hT1
def tOutB (X : Cx) (E : ExE) (W : WX) (nx st : FM) : TS := tSeq (tAsg (tOpn X E W 2 (mV 4)) (gName 5)) (tSeq (tAsg (tE X.K X.mg E W (mC (.int 0))) (gName 6)) (tSeq (tIn X E W nx st) (tAsg (tE X.K X.mg E W (eInc 4)) (gName 4))))
def tOut (X : Cx) (E : ExE) (W : WX) (pl nx st : FM) : TS := tWhile (tT X.K X.mg E W (tmLE pl)) (tOutB X E W nx st)
theorem out_ok {f N : Nat} (R : SRt X.K X.mg E B (sC c C a3 (.fz (.int k)) a6 a7 a8 a9) σ H 2 a kvs T) (hp : natOf (pl [c]) = .ok N) {m : Nat} (hm : m + k = N + 1)
    (hT : comeOut (fun p => prsOf (nx [c, prD p])) (fun p q => bitOf (st [prD p, prD q])) f m k C T = .ok C')
    (h : ∀ (B' : Bs) (a3' a4' a6' a7' a8' a9' : Sl) (σ' : St) (H' : Hp), B'.G = B.G → B'.H = B.H → SR X.K X.mg E B' (sC c C' a3' a4' a6' a7' a8' a9') σ' H' → D.nx σ' H') :
    tOut X E W pl nx st D σ H := by
  refine ⟨fun m σ' H' => ∃ (B' : Bs) (a3' a6' a7' a8' a9' : Sl) (kvs' : List (Key × V)) (C1 : List En) (T1 : Tb) (k1 : Nat), B'.G = B.G ∧ B'.H = B.H ∧ m + k1 = N + 1 ∧
    SRt X.K X.mg E B' (sC c C1 a3' (.fz (.int k1)) a6' a7' a8' a9') σ' H' 2 a kvs' T1 ∧ comeOut (fun p => prsOf (nx [c, prD p])) (fun p q => bitOf (st [prD p, prD q])) f m k1 C1 T1 = .ok C',
    ⟨m, B, a3, a6, a7, a8, a9, kvs, C, T, k, rfl, rfl, hm, R, hT⟩, ?_⟩
  rintro m σ1 H1 ⟨B1, b3, b6, b7, b8, b9, kvs1, C1, T1, k1, g, h0, hm, R1, hT1⟩
  refine ⟨B1, _, R1.S, ?_⟩
  rw [tmLE_ok hp]
  refine fun H2 e2 => ?_
  have R2 := R1.same e2
  cases m with
  | zero =>
    rw [decide_eq_false (by omega)]
    cases hT1
    refine iteF ?_
    exact h B1 _ _ _ _ _ _ σ1 H2 g h0 R2.S
  | succ m =>
    rw [decide_eq_true (by omega)]
    refine iteT ⟨_, fun σ' H' z => ⟨m, Nat.lt_succ_self _, z⟩, ?_⟩
    unfold comeOut at hT1
    obtain ⟨T2, hT2, hT4⟩ := bind_ok hT1
    obtain ⟨⟨C3, T3⟩, hT3, hT5⟩ := bind_ok hT4
    clear hT1 hT4
    unfold Tb.opn at hT2
    split at hT2
    · rename_i hl
      cases hT2
      refine rowset_ok (W := W) (mk := mV 4) (n := k1) (t := .cl) R2 rfl hl (by decide) (by rw [← R2.S.len]; exact (by decide : 5 < 10)) rfl fun B3 H3 kvs3 ad3 g3 h3 R3 => ?_
      refine asgr_ok (W := W) (m := mC (.int 0)) R3 rfl (by decide) (by decide) fun v4 H4 R4 => ?_
      have R4' : SRr X.K X.mg E B3 (sC c C1 b3 (.fz (.int k1)) (.fz (.int (0 : Nat))) b7 b8 b9) _ H4 2 a kvs3 (T1.put k1 (T1.row k1)) 5 k1 ad3 := R4
      refine in_ok (W := W) R4' hT3 fun B5 b3' b6' b7' b8' b9' kvs5 σ5 H5 g5 h5 R5 => ?_
      refine asg_ok (W := W) R5.R (inc_ok (k := k1) rfl) (by decide) fun v6 H6 R6 => ?_
      exact ⟨B5, b3', b6', b7', b8', b9', kvs5, C3, T3, k1 + 1, (g5.trans g3).trans g, (h5.trans h3).trans h0, by omega, R6, hT5⟩
    · cases hT2
def tCome (X : Cx) (E : ExE) (W : WX) (pl fp sa nx st : FM) : TS :=
  tSeq (tS X.K X.mg E W (smSet 1 mDt0)) (tSeq (tAsg tDNewK (gName 2)) (tSeq (tFor (tI X.K X.mg E W (wF fp)) (gName 3) (tFirst X E W sa)) (tSeq (tAsg (tE X.K X.mg E W (mC (.int 0))) (gName 4)) (tSeq (tOut X E W pl nx st) (tS X.K X.mg E W (smRet (mV 1)))))))
theorem smCome_ok {r : Out} {f : Nat} (h : smCome pl fp sa nx st f ρ = .ok r) : ∃ c C, ρ = [.fz c, .no, .no, .no, .no, .no, .no, .no, .no, .no] ∧ r = .rt (.dit (C.map fun e => prD e.1) (C.map fun e => opD e.2)) true ∧ ∃ ps T n, prsOf (fp [c]) = .ok ps ∧ comeFirst (fun i => natOf (sa [c, .int i])) ps ⟨fun _ => none, 0⟩ = .ok T ∧ natOf (pl [c]) = .ok n ∧
    comeOut (fun p => prsOf (nx [c, prD p])) (fun p q => bitOf (st [prD p, prD q])) f (n + 1) 0 [] T = .ok C := by
  unfold smCome at h
  split at h
  · rename_i c
    obtain ⟨x, hx, h⟩ := bind_ok h
    cases h
    unfold comeF at hx
    obtain ⟨ps, h1, hx⟩ := bind_ok hx
    obtain ⟨T, h2, hx⟩ := bind_ok hx
    obtain ⟨n, h3, hx⟩ := bind_ok hx
    obtain ⟨C, h4, hx⟩ := bind_ok hx
    cases hx
    exact ⟨c, C, rfl, rfl, ps, T, n, h1, h2, h3, h4⟩
  · cases h
theorem come_ok {f : Nat} : ∀ D σ H, tS X.K X.mg E W (smCome pl fp sa nx st f) D σ H → tCome X E W pl fp sa nx st D σ H := by
  rintro D σ H ⟨B, ρ, S, h⟩
  cases e : smCome pl fp sa nx st f ρ with
  | ok r =>
    rw [e] at h
    obtain ⟨c, C, rfl, rfl, ps, T, n, h1, h2, h3, h4⟩ := smCome_ok e
    refine ⟨B, _, S, ?_⟩
    have e1 : smSet 1 mDt0 [.fz c, .no, .no, .no, .no, .no, .no, .no, .no, .no] = .ok (.nx (sC c [] .no .no .no .no .no .no)) := rfl
    rw [e1]
    refine fun σ1 H1 S1 => ?_
    refine rows0_ok S1 rfl (by rw [← S1.len]; exact (by decide : 2 < 10)) fun a H2 _ R2 => ?_
    refine for1_ok (W := W) R2 (wF_ok h1) h2 fun B3 b3 kvs3 σ3 H3 g3 q3 R3 => ?_
    refine asg_ok (W := W) (m := mC (.int 0)) R3 rfl (by decide) fun v4 H4 R4 => ?_
    have R4' : SRt X.K X.mg E B3 (sC c [] b3 (.fz (.int (0 : Nat))) .no .no .no .no) _ H4 2 a kvs3 T := R4
    refine out_ok (W := W) R4' h3 (m := n + 1) (by omega) h4 fun B5 b3' b4' b6' b7' b8' b9' σ5 H5 g5 q5 S5 => ?_
    refine ⟨B5, _, S5, ?_⟩
    have e2 : smRet (mV 1) (sC c C b3' b4' b6' b7' b8' b9') = .ok (.rt (.dit ((C.map Prod.fst).map prD) (C.map fun e => opD e.2)) true) := rfl
    rw [e2]
    have eG : B5.G = B.G := g5.trans g3
    have eH : B5.H = B.H := q5.trans q3
    refine fun v H6 s6 r6 => h v H6 (by rw [← eH]; exact s6) ?_
    rw [eG, eH, List.map_map] at r6
    exact r6
  | ex C => rw [e] at h; exact h.elim
  | bad => rw [e] at h; exact h.elim
end
end Dm
end

section
set_option Elab.async false
set_option linter.all false
set_option maxRecDepth 100000
set_option maxHeartbeats 4000000
/-! Dm: list(reversed(x)), a dict by pairs is looked into. -/
namespace RT
open PySem PySem.Spec PyProof.Rows
section
variable {prog : Program} {w : World} {A : Around} {E : Value → Shared → Prop} {s : Shared}
theorem list_init_rev {R : Result → Shared → Prop} {it l : Addr} {items : Array Value} (hh : A.handled = none) (hit : s.heap.IsRevIter it l ((items.size : Int) - 1)) (hl : s.heap.IsList l items) (hne : l ≠ it) (hn : items.size ≤ sizeLine)
    (S : Addr) (hS : s.heap.get? S = some { cls := .type "list", data := .seq #[] }) (hSi : S ≠ it) (hSl : S ≠ l)
    (hR : ∀ h' tk acc' c', (∀ b o, b ≠ S → b ≠ it → s.heap.get? b = some o → h'.get? b = some o) → h'.get? S = some { cls := .type "list", dict := none, data := .seq acc' c', slots := #[] } →
      ItemsOf (fun i v => items[items.size - 1 - i]? = some v) acc' items.size → R (.ok (.ret .none)) { s with heap := h', toks := tk }) :
    wpAny (model prog w) A.in1 (Builtin.«list.__init__» ⟨[.ref S, .ref it], []⟩)
      (fun fin s' => match fin with | .done f => R (.ok f) s' | .again c' => c'.quiet = true ∧ codeAny (model prog w) A c' R s') (fun e s' => R (.error e) s') s := by
  show wpAny _ _ (do let old ← Builtin.List.listItems (.ref S); Builtin.List.listUpdate (.ref S) (fun _ => #[]); letGo old.toList.reverse; Builtin.List.listExtendWith (.ref S) (.ref it) .none) _ _ s
  refine wpAny_bind ?_
  unfold Builtin.List.listItems
  refine wpAny_bind (wpAny_seqItems hS rfl (wpAny_pure ?_))
  show wpAny _ _ (updateSeq S (fun _ => #[]) >>= fun _ => letGo (#[] : Array Value).toList.reverse >>= fun _ => Builtin.List.listExtendWith (.ref S) (.ref it) .none) _ _ s
  refine wpAny_bind (wpAny_updateSeq hS rfl ?_)
  have hS₂ := Heap.get?_update_self (Obj.mapSeq (fun _ => (#[] : Array Value))) hS rfl
  have oth : ∀ b o, b ≠ S → s.heap.get? b = some o → (s.heap.update S (Obj.mapSeq (fun _ => (#[] : Array Value)))).get? b = some o :=
    fun b o hb e => (Heap.get?_update_other _ _ (Ne.symm hb)).trans e
  refine wpAny_bind (wpAny_letGo ?_)
  have W := (Walks.listRev (prog := prog) (w := w) (A := A.in1) hh it l hne items).toS
  have hSf : S ∉ [it, l] := by simp only [List.mem_cons, List.not_mem_nil, or_false, not_or]; exact ⟨hSi, hSl⟩
  have hit1 : (s.heap.update S (Obj.mapSeq (fun _ => (#[] : Array Value)))).IsRevIter it l ((items.size : Int) - 1) := hit.at fun o e => oth it o (Ne.symm hSi) e
  have hl1 : (s.heap.update S (Obj.mapSeq (fun _ => (#[] : Array Value)))).IsList l items := let ⟨o, ho, r⟩ := hl; ⟨o, oth l o (Ne.symm hSl) ho, r⟩
  have hT : ({ s with heap := s.heap.update S (Obj.mapSeq (fun _ => (#[] : Array Value))) } : Shared).TypeIs (.ref it) "list_reverseiterator" := Heap.IsRevIter.typeIs (s := { s with heap := s.heap.update S (Obj.mapSeq (fun _ => (#[] : Array Value))) }) hit1
  have h1 : Builtin.List.listSameRef (.ref S) (.ref it) = false := by simp [Builtin.List.listSameRef, hSi]
  unfold Builtin.List.listExtendWith
  refine wpAny_bind (wpAny_typeOf hT ?_)
  rw [if_neg (by rw [h1]; decide)]
  refine wpAny_bind (wpAny_pyIter_revIter (s := { s with heap := s.heap.update S (Obj.mapSeq (fun _ => (#[] : Array Value))) }) hit1 ?_)
  refine wpAny_bind (wpAny_holding ?_)
  unfold Builtin.List.listLengthHint
  refine wpAny_bind (wpAny_specialOf hT nolen_lri ?_)
  show wpAny _ A.in1 (specialOf (Value.ref it) (Str.ofString "__length_hint__") >>= _) _ _ _
  refine wpAny_bind (wpAny_specialOf hT hint_lri ?_)
  generalize hid : ("list_reverseiterator.__length_hint__" : String) = id0
  wp_delta
  rw [show splitId id0 = some ("list_reverseiterator", "__length_hint__") from by subst hid; decide +kernel]
  subst hid
  refine wpAny_bind (wpAny_isInstance (b := true) hT (by rw [isSubtype_type]; kernel_rfl) ?_)
  refine wpAny_pure ?_
  rw [if_neg (by decide)]
  have e0 : ((items.size : Nat) : Int) - 1 - ((0 : Nat) : Int) = (items.size : Int) - 1 := by omega
  refine wpAny_pure ⟨plainId_quiet F.plain_extend_loop _, codeAny_extend_loopS W hn _ hSf _ items.size 0 _ _ _ rfl (Nat.zero_le _) ⟨Nat.zero_le _, by rw [e0]; exact hit1, hl1⟩ hS₂ (ItemsOf.nil _) fun s' acc' c' hm hS' hacc => ?_⟩
  rw [Moved.eq_with hm]
  refine hR s'.heap s'.toks acc' c' (fun b o hb hbi e => hm.heap b o (fun hmem => ?_) (oth b o hb e)) hS' hacc
  rcases List.mem_cons.mp hmem with e' | hmem
  · exact hb e'
  · exact hbi (List.mem_singleton.mp hmem)
theorem call_list_rev {it l : Addr} {items : Array Value} {Q : Value → Shared → Prop} (hh : A.handled = none) (hit : s.heap.IsRevIter it l ((items.size : Int) - 1)) (hl : s.heap.IsList l items) (hne : l ≠ it) (hn : items.size ≤ sizeLine)
    (hQ : ∀ h' tk acc' c', (∀ b o, b ≠ it → s.heap.get? b = some o → h'.get? b = some o) → h'.get? s.heap.objs.size = some { cls := .type "list", dict := none, data := .seq acc' c', slots := #[] } →
      ItemsOf (fun i v => items[items.size - 1 - i]? = some v) acc' items.size → Q (.ref s.heap.objs.size) { s with heap := h', toks := tk }) :
    wpAny (model prog w) A (call (.type "list") [.ref it]) Q E s := by
  obtain ⟨oi, hoi, _⟩ := id hit
  obtain ⟨ol, hol, _⟩ := id hl
  refine callType_codes (Q₁ := fun obj s₁ => obj = .ref s.heap.objs.size ∧ s₁ = { s with heap := s.heap.push { cls := .type "list", data := .seq #[] } }) F.called_list (F.typeCall_list_1 _) F.entry_list_init
    (code_list_new _ ⟨rfl, rfl⟩) fun obj s₁ h₁ => ?_
  obtain ⟨rfl, rfl⟩ := h₁
  have hS : (s.heap.push { cls := .type "list", data := .seq #[] }).get? s.heap.objs.size = some { cls := .type "list", data := .seq #[] } := Heap.get?_push_size _ rfl
  refine ⟨⟨_, hS, rfl⟩, F.args_list_init_2 _ _, list_init_rev (A := A.in1) (s := { s with heap := s.heap.push { cls := .type "list", data := .seq #[] } }) hh (hit.at fun o e => Heap.get?_push_of_some _ e) (hl.push _) hne hn _ hS
    (Nat.ne_of_gt (Heap.lt_size hoi)) (Nat.ne_of_gt (Heap.lt_size hol)) fun h' tk acc' c' hk hS' hacc => ?_⟩
  exact ⟨rfl, hQ h' tk acc' c' (fun b o hb e => hk b o (Nat.ne_of_lt (Heap.lt_size e)) hb (Heap.get?_push_of_some _ e)) hS' hacc⟩
end
end RT
namespace L2
open PySem PySem.Spec PyProof.Rows RT
/-- list(reversed(x)), x a list: a new list -/
def tLstRev (K : PySem.W.Frag) (te : TE) : TE := fun σ H Q => te σ H fun v H1 => ∃ (a : Addr) (xs : List V), v = .ref a ∧ SqL K H1 a xs ∧ ∀ q, H1 q = none → Q (.ref q) (upd H1 q (.lst xs.reverse))
theorem pe_lstRev {X : Cx} {e : Expr} {te : TE} {p p2 pos pos2 : Pos} (hc : X.calm = true) (hg : Gl X "list") (hm : X.mg "list" = none) (hg2 : Gl X "reversed") (hm2 : X.mg "reversed" = none) (he : PE X e te)
    (hs : starEach [e] X.env = (false, eval e X.env) :: starEach [] X.env := by rfl)
    (hs2 : starEach [.Call (.Name "reversed" p2) [e] [] pos2] X.env = (false, eval (.Call (.Name "reversed" p2) [e] [] pos2) X.env) :: starEach [] X.env := by rfl) :
    PE X (.Call (.Name "list" p) [.Call (.Name "reversed" p2) [e] [] pos2] [] pos) (tLstRev X.K te) := by
  refine ⟨fun pins s σ H Q I h => ?_⟩
  refine Call_ (ld_blt I hg hm boot_list (PyProof.Rows.callWith_type1 (args_cons (Call_ (ld_blt I hg2 hm2 PyProof.Rows.boot_reversed (PyProof.Rows.callWith_type1 (args_cons (thn (he.run pins s σ H _ I h) fun u s1 ⟨v, H1, I1, r1, q1⟩ => args_nil ?_) hs) hs rfl))) hs2) hs2 rfl))
  obtain ⟨a, xs, ev, hq, q⟩ := q1
  subst ev
  obtain rfl : u = Value.ref a := r1
  obtain ⟨its, rv, p', hz⟩ := I1.list hq
  refine call_reversed_list p'.isList (args_nil ?_)
  have hl := p'.isList
  obtain ⟨ol, hol, _⟩ := id hl
  have hne : a ≠ s1.heap.objs.size := Nat.ne_of_lt (Heap.lt_size hol)
  have hn : its.toArray.size ≤ sizeLine := by rw [List.size_toArray, ← rv.length]; exact hz
  refine call_list_rev (s := { s1 with heap := s1.heap.push (revObj a ((its.toArray.size : Int) - 1)) }) (I1.ok.hd hc) ⟨_, Heap.get?_push_size _ rfl, rfl, rfl⟩ (hl.push _) hne hn fun h' tk acc c' hk hS hi => ?_
  have k0 : ∀ b o, s1.heap.get? b = some o → h'.get? b = some o := fun b o e => hk b o (Nat.ne_of_lt (Heap.lt_size e)) (Heap.get?_push_of_some _ e)
  have hge : s1.heap.objs.size ≤ (s1.heap.push (revObj a ((its.toArray.size : Int) - 1))).objs.size := by simp [Heap.push]
  refine ⟨.ref _, upd H1 _ (.lst xs.reverse), I1.laid (t' := tk) k0 hge (show ObjOk X.prog X.w _ _ _ (.lst xs.reverse) from ⟨by rw [List.length_reverse]; exact hz, acc.toList, c', vals_rev rv hi, ?_⟩), rfl, q _ (I1.hok.fresh hge)⟩
  rw [Array.toArray_toList]
  exact hS
end L2
namespace Dm
open PySem PySem.Spec L2 TL PyProof.Rows
section
variable {X : Cx} {E : ExE} {W : WX} {pos p p2 q : Pos} {a b e : Expr} {ma mb : EM}
theorem pm_lstRev (hc : X.calm = true) (hm : X.mg "list" = none) (hm2 : X.mg "reversed" = none) (ha : PM X E W e ma) (hg : Gl X "list" := by rfl) (hg2 : Gl X "reversed" := by rfl)
    (hs : starEach [e] X.env = (false, eval e X.env) :: starEach [] X.env := by rfl)
    (hs2 : starEach [.Call (.Name "reversed" p2) [e] [] q] X.env = (false, eval (.Call (.Name "reversed" p2) [e] [] q) X.env) :: starEach [] X.env := by rfl) :
    PM X E W (.Call (.Name "list" p) [.Call (.Name "reversed" p2) [e] [] q] [] pos) (mRevL ma) :=
  PE.imp (pe_lstRev hc hg hm hg2 hm2 ha hs hs2) fun σ H Q ⟨B, ρ, S, h⟩ =>
    GM.bind S (show GM X.K X.mg W B ρ σ H ((ma ρ).bind fun x => revL x.1) Q from h) fun x tx vx H1 rx e1 S1 h1 => by
      have rp := rx.rp S1
      cases rp <;> first | exact False.elim h1 | skip
      case lst a ds vs hv r =>
        replace h1 : GM X.K X.mg W B ρ σ H1 (.ok (.seq .lst ds.reverse, .fr)) Q := h1
        exact ⟨a, vs, rfl, .of hv, fun q hq => GM.fresh S1 h1 r.rev hq⟩
/-! d[k], k a pair -/
theorem find2_at : ∀ {ps : List Pr} {ka : List Addr} {us : List Value} {q : Pr} {u : Value}, ka.length = ps.length → us.length = ps.length → find2 ps us q = some u → ∃ kb, atKey (xsOf ps ka us) (nkPr q) = some (kb, u)
  | [], _, _, _, _, _, _, h => by cases h
  | p :: ps, [], _, _, _, h, _, _ => by simp at h
  | p :: ps, _ :: _, [], _, _, _, h, _ => by simp at h
  | p :: ps, a :: ka, v :: us, q, u, h1, h2, h => by
    have ih := @find2_at ps ka us q u (by simpa using h1) (by simpa using h2)
    simp only [atKey, xsOf, List.map_cons, List.zip_cons_cons, List.find?_cons] at ih ⊢
    unfold find2 at h
    split at h
    · rename_i e
      subst e
      cases h
      exact ⟨a, by simp⟩
    · rename_i e
      have ne : ¬ nkPr p = nkPr q := fun z => e (nkPr_inj z)
      rw [decide_eq_false ne]
      exact ih h
theorem find2_vals : ∀ {ps : List Pr} {ws : List V} {us : List Value} {q : Pr} {w : V}, Vals ws us → find2 ps ws q = some w → ∃ u, find2 ps us q = some u ∧ RelV w u
  | [], _, _, _, _, _, h => by cases h
  | _ :: _, _, _, _, _, .nil, h => by cases h
  | p :: ps, _, _, q, w, .cons r t, h => by
    unfold find2 at h ⊢
    split at h
    · rename_i e
      cases h
      exact ⟨_, by rw [if_pos e], r⟩
    · rename_i e
      obtain ⟨u, h1, h2⟩ := find2_vals t h
      exact ⟨u, by rw [if_neg e]; exact h1, h2⟩
theorem find2_reps {K : PySem.W.Frag} {mg : Str → Option Value} {G : Hp} : ∀ {ps : List Pr} {ds : List Dm.D} {ws : List V} {q : Pr} {d : Dm.D}, Reps K mg G ds ws → find2 ps ds q = some d → ∃ w, find2 ps ws q = some w ∧ Rep K mg G d w
  | [], _, _, _, _, _, h => by cases h
  | _ :: _, _, _, _, _, .nil, h => by cases h
  | p :: ps, _, _, q, w, .cons r t, h => by
    unfold find2 at h ⊢
    split at h
    · rename_i e
      cases h
      exact ⟨_, by rw [if_pos e], r⟩
    · rename_i e
      obtain ⟨u, h1, h2⟩ := find2_reps t h
      exact ⟨u, by rw [if_neg e]; exact h1, h2⟩
theorem ixT_some {x y d : Dm.D} (h : ixT x y = .ok d) : ∃ (ps : List Pr) (ds : List Dm.D) (q : Pr), x = .dit (ps.map prD) ds ∧ y = prD q ∧ find2 ps ds q = some d := by
  unfold ixT at h
  split at h
  · split at h
    · rename_i ks ds _ _ ps q e1 e2
      split at h
      · rename_i d' e3
        cases h
        exact ⟨ps, ds, q, by rw [asPrs_eq e1], asPr_eq e2, e3⟩
      · cases h
    · cases h
  · cases h
theorem ixT_mild {x y : Dm.D} {C : String} (h : ixT x y = .ex C) : False := by
  unfold ixT at h
  split at h
  · split at h
    · split at h <;> cases h
    · cases h
  · cases h
def rIxPr (X : Cx) : R2 := fun x y H Q => ∃ (a kb : Addr) (q : Pr) (ps : List Pr) (ka : List Addr) (ws : List V) (w : V), x = .ref a ∧ y = .ref kb ∧ DtAt X H a ps ka ws ∧ Rep X.K X.mg H (prD q) (.ref kb) ∧ find2 ps ws q = some w ∧ Q w H
theorem ix_prT (hu : X.A.units + 64 < cLine) : IxR X (rIxPr X) := by
  intro value slice pins s σ H x y v u Q I rx ry h hs
  obtain ⟨a, kb, q, ps, ka, ws, w, rfl, rfl, d, rk, hf, hq⟩ := h
  cases rx
  cases ry
  obtain ⟨hsm, hlen, us, rv, l3, hd⟩ := d.look I
  have l1 : ka.length = ps.length := by simpa using d.ok.ka
  obtain ⟨uu, h1, h2⟩ := find2_vals rv hf
  obtain ⟨kc, h3⟩ := find2_at l1 l3 h1
  exact subscriptTail_builtinR (x := uu) hd.typeIs slot_dict_getitem.lookup
    (wpAny_getItem_heap (Q := fun r s' => r = uu ∧ EP X pins σ Q r s') (knd := nkd X) (k := nkPr q) (show X.A.units + 1 + 8 < cLine by omega) ⟨pr_is I rk, nk_depth q⟩ hd h3 ⟨rfl, w, H, I.tok _, h2, hq⟩) hs
theorem pm_ixT (hu : X.A.units + 64 < cLine) (ha : PM X E W a ma) (hb : PM X E W b mb) (hs : PlainIx b := by intro _ _; rfl) : PM X E W (.Subscript a b pos) (mIxT ma mb) :=
  PE.imp (pe_ix (ix_prT hu) ha hb hs) fun σ H Q ⟨B, ρ, S, h⟩ => GM.bind S h fun x tx vx H1 rx e1 S1 h1 => GM.bind S1 h1 fun y ty vy H2 ry e2 S2 h2 => by
    have h2' : GM X.K X.mg W B ρ σ H2 ((ixT x y).bind fun d => .ok (d, .cl)) Q := h2
    cases e : ixT x y with
    | ok d =>
      rw [e] at h2'
      obtain ⟨ps, ds, q, rfl, rfl, hf⟩ := ixT_some e
      have rpx := (rx.rp S1).mono e2
      have r1 := (ry.rp S2).rep S2
      obtain ⟨kb, rfl⟩ := pr_ref r1
      cases rpx with
      | dit g dk k r =>
        obtain ⟨w, hw, rw'⟩ := find2_reps r hf
        exact ⟨_, kb, q, ps, _, _, w, rfl, rfl, ⟨⟨_, g⟩, dk, k.mono S2.sub⟩, r1, hw, GM.pure h2' rw'⟩
    | ex C => exact (ixT_mild e).elim
    | bad => rw [e] at h2'; exact h2'.elim
/-! min of a list -/
theorem bm_minL : BltM X E W (rMin X.K) bMinL := by
  intro B ρ σ H xs vs Q S hl hx h
  match xs, h with
  | [], h => exact False.elim h
  | x :: y :: r, h =>
    have eb : bMinL (x :: y :: r) = .bad := by cases x <;> first | rfl | (rename_i k _; cases k <;> rfl)
    rw [eb] at h
    exact False.elim h
  | [x], h =>
    obtain ⟨v, rfl, r⟩ := args1 hl hx
    cases r <;> first | exact False.elim h | skip
    case lst a ds ws hv r =>
      have h3 : GM X.K X.mg W B ρ σ H ((match intsOf ds with | some ns => (match minI ns with | some m => Res.ok (D.int m) | none => .bad) | none => .bad).bind fun d => .ok (d, .cl)) Q := h
      cases e : intsOf ds with
      | none => rw [e] at h3; exact h3.elim
      | some ns =>
        rw [e] at h3
        have hy := intsV_rep r e
        subst hy
        have hne : 0 < ns.length := by
          cases ns with
          | nil => exact h3.elim
          | cons n ns => exact Nat.succ_pos _
        refine ⟨a, ns, rfl, .of hv, hne, fun m hm hle => ?_⟩
        dsimp only at h3
        rw [minI_one hm hle] at h3
        exact GM.sc (d := .int _) h3 (.int _)
end
end Dm
end

section
set_option Elab.async false
set_option linter.all false
set_option maxRecDepth 100000
namespace Wk
open PySem PySem.Spec L2 TL Dm M
open PyProof.Rows (envOfC)
def topS (i : Nat) : Stmt := PySem.Challenge.pw_padwright_k76_whole_all_that_is_come_to.main.body.getD i (.Pass ⟨0, 0, 0, 0⟩)
section
variable {P : Program} {w : World} {K : PySem.W.Frag} {mg : Str → Option Value} {base : Heap}
theorem sc_is_whole : FnScope ["thing"] ["thing"] (defScope (topS 4)) := ⟨rfl, rfl, rfl, by decide +kernel, rfl, by decide +kernel, by decide +kernel⟩
set_option maxHeartbeats 4000000 in
theorem ok_is_whole {f : Addr} {fd : FuncData} (F : Fun K "is_whole" "is_whole" (topS 4) f fd) (hm : mg "is_whole" = some (.ref f)) (b : Binds K fd ["thing"] []) (z_isinstance : mg "isinstance" = none) (z_int : mg "int" = none) (z_bool : mg "bool" = none) : ∀ mo, DefOk P w K mg base mo "is_whole" 1 1 M.is_whole := by
  intro mo
  have sc := sc_is_whole
  refine ⟨f, fd, ["thing"], hm, F.kp, b, fn_m (np := 1) (nl := 0) (k := 0) F sc rfl rfl fun cdv A outer s H E hr => ?_⟩
  have tk := takes_m (m := mo) (X := cxOf (CXm mo P w) P w K mg base ["thing"] "is_whole" (defScope (topS 4)) f cdv A outer s H E) rfl rfl rfl rfl
  have hp := passes_of (X := cxOf (CXm mo P w) P w K mg base ["thing"] "is_whole" (defScope (topS 4)) f cdv A outer s H E) rfl
  have hu := hr.units
  have hu65 := hu65_of hr
  exact (psm_one (psm_ret (pm_and (pm_is (T := "int") is_int (pm_var 0) z_isinstance z_int (by decide +kernel)) (pm_one (pm_not (pm_is (T := "bool") is_bool (pm_var 0) z_isinstance z_bool (by decide +kernel)))))))
theorem sc_places_in : FnScope ["columns", "many", "looks", "look"] ["columns"] (defScope (topS 6)) := ⟨rfl, rfl, rfl, by decide +kernel, rfl, by decide +kernel, by decide +kernel⟩
set_option maxHeartbeats 4000000 in
theorem ok_places_in {f : Addr} {fd : FuncData} (F : Fun K "places_in" "places_in" (topS 6) f fd) (hm : mg "places_in" = some (.ref f)) (b : Binds K fd ["columns"] []) (z_len : mg "len" = none) : ∀ mo, DefOk P w K mg base mo "places_in" 1 1 M.places_in := by
  intro mo
  have sc := sc_places_in
  refine ⟨f, fd, ["columns"], hm, F.kp, b, fn_m (np := 1) (nl := 3) (k := 0) F sc rfl rfl fun cdv A outer s H E hr => ?_⟩
  have tk := takes_m (m := mo) (X := cxOf (CXm mo P w) P w K mg base ["columns", "many", "looks", "look"] "places_in" (defScope (topS 6)) f cdv A outer s H E) rfl rfl rfl rfl
  have hp := passes_of (X := cxOf (CXm mo P w) P w K mg base ["columns", "many", "looks", "look"] "places_in" (defScope (topS 6)) f cdv A outer s H E) rfl
  have hu := hr.units
  have hu65 := hu65_of hr
  exact (psm_cons (psm_set 1 sc.nd pm_int)
      (psm_cons (psm_for hp rfl (pmi_any (pm_var 0)) (pg_name (i := 2) sc.nd rfl (by first | exact Or.inl rfl | exact Or.inr rfl)) (put1_ok 2) (psm_one (psm_for hp rfl (pmi_any (pm_var 2)) (pg_name (i := 3) sc.nd rfl (by first | exact Or.inl rfl | exact Or.inr rfl)) (put1_ok 3) (psm_one (psm_set 1 sc.nd (pm_add (pm_add (pm_var 1) (pm_bltB call_len bm_len z_len (by decide +kernel) (pma_cons (pm_var 3) pma_nil))) pm_int))))))
      (psm_one (psm_ret (pm_var 1)))))
theorem sc_begun_at : FnScope ["columns", "c", "l"] ["columns", "c"] (defScope (topS 8)) := ⟨rfl, rfl, rfl, by decide +kernel, rfl, by decide +kernel, by decide +kernel⟩
set_option maxHeartbeats 4000000 in
theorem ok_begun_at {f : Addr} {fd : FuncData} (F : Fun K "begun_at" "begun_at" (topS 8) f fd) (hm : mg "begun_at" = some (.ref f)) (b : Binds K fd ["columns", "c"] []) (z_len : mg "len" = none) (z_range : mg "range" = none) : ∀ mo, DefOk P w K mg base mo "begun_at" 1 2 M.begun_at := by
  intro mo
  have sc := sc_begun_at
  refine ⟨f, fd, ["columns", "c"], hm, F.kp, b, fn_m (np := 2) (nl := 1) (k := 0) F sc rfl rfl fun cdv A outer s H E hr => ?_⟩
  have tk := takes_m (m := mo) (X := cxOf (CXm mo P w) P w K mg base ["columns", "c", "l"] "begun_at" (defScope (topS 8)) f cdv A outer s H E) rfl rfl rfl rfl
  have hp := passes_of (X := cxOf (CXm mo P w) P w K mg base ["columns", "c", "l"] "begun_at" (defScope (topS 8)) f cdv A outer s H E) rfl
  have hu := hr.units
  have hu65 := hu65_of hr
  exact (psm_cons (psm_if (pmt_eq hu (pm_var 1) (pm_bltB call_len bm_len z_len (by decide +kernel) (pma_cons (pm_var 0) pma_nil))) (psm_one (psm_ret (pm_lst (pma_cons (pm_tup (pma_cons (pm_var 1) (pma_cons pm_int (pma_cons pm_int pma_nil)))) pma_nil)))) psm_nil)
      (psm_one (psm_ret (pm_lc (own := [("l", 2)]) rfl sc.nd (pmi_r1 (pm_bltB call_len bm_len z_len (by decide +kernel) (pma_cons (pm_ix (pm_var 0) (pm_var 1)) pma_nil)) z_range) (blkOk_by (own := [("l", 2)]) (N := ["columns", "c", "l"]) (sc := defScope (topS 8)) (by decide +kernel)) (putC1 (by simp)) (fun _ _ _ _ _ => (pg_name (i := 2) sc.nd rfl (by first | exact Or.inl rfl | exact Or.inr rfl))) (fun _ _ _ _ _ => ptsm_nil) (fun _ _ _ _ _ => (pm_tup (pma_cons (pm_var 1) (pma_cons (pm_var 2) (pma_cons pm_int pma_nil)))))))))
theorem sc_cell_next : FnScope ["columns", "place", "c", "l", "q"] ["columns", "place"] (defScope (topS 9)) := ⟨rfl, rfl, rfl, by decide +kernel, rfl, by decide +kernel, by decide +kernel⟩
set_option maxHeartbeats 4000000 in
theorem ok_cell_next {f : Addr} {fd : FuncData} (F : Fun K "cell_next" "cell_next" (topS 9) f fd) (hm : mg "cell_next" = some (.ref f)) (b : Binds K fd ["columns", "place"] []) (z_len : mg "len" = none) : ∀ mo, DefOk P w K mg base mo "cell_next" 1 2 M.cell_next := by
  intro mo
  have sc := sc_cell_next
  refine ⟨f, fd, ["columns", "place"], hm, F.kp, b, fn_m (np := 2) (nl := 3) (k := 0) F sc rfl rfl fun cdv A outer s H E hr => ?_⟩
  have tk := takes_m (m := mo) (X := cxOf (CXm mo P w) P w K mg base ["columns", "place", "c", "l", "q"] "cell_next" (defScope (topS 9)) f cdv A outer s H E) rfl rfl rfl rfl
  have hp := passes_of (X := cxOf (CXm mo P w) P w K mg base ["columns", "place", "c", "l", "q"] "cell_next" (defScope (topS 9)) f cdv A outer s H E) rfl
  have hu := hr.units
  have hu65 := hu65_of hr
  exact (psm_cons (psm_unp (is := [2, 3, 4]) (pm_var 1) rfl (pg_tup (n := 3) rfl (pgs_cons (pg_name (i := 2) sc.nd rfl (by first | exact Or.inl rfl | exact Or.inr rfl)) (pgs_cons (pg_name (i := 3) sc.nd rfl (by first | exact Or.inl rfl | exact Or.inr rfl)) (pgs_cons (pg_name (i := 4) sc.nd rfl (by first | exact Or.inl rfl | exact Or.inr rfl)) pgs_nil)))))
      (psm_cons (psm_if (pmt_w (pmw_or (pmt_eq hu (pm_var 2) (pm_bltB call_len bm_len z_len (by decide +kernel) (pma_cons (pm_var 0) pma_nil))) (pmw_or1 (pmt_eq hu (pm_var 4) (pm_bltB call_len bm_len z_len (by decide +kernel) (pma_cons (pm_ix (pm_ix (pm_var 0) (pm_var 2)) (pm_var 3)) pma_nil)))))) (psm_one (psm_ret pm_non)) psm_nil)
      (psm_one (psm_ret (pm_ix (pm_ix (pm_ix (pm_var 0) (pm_var 2)) (pm_var 3)) (pm_var 4))))))
theorem sc_begun_behind : FnScope ["columns", "place", "c", "l", "q"] ["columns", "place"] (defScope (topS 10)) := ⟨rfl, rfl, rfl, by decide +kernel, rfl, by decide +kernel, by decide +kernel⟩
set_option maxHeartbeats 4000000 in
theorem ok_begun_behind {f : Addr} {fd : FuncData} (F : Fun K "begun_behind" "begun_behind" (topS 10) f fd) (hm : mg "begun_behind" = some (.ref f)) (b : Binds K fd ["columns", "place"] []) (z_len : mg "len" = none) (d_begun_at : ∀ mo, DefOk P w K mg base mo "begun_at" 1 2 M.begun_at) : ∀ mo, DefOk P w K mg base mo "begun_behind" 2 2 M.begun_behind := by
  intro mo
  have sc := sc_begun_behind
  refine ⟨f, fd, ["columns", "place"], hm, F.kp, b, fn_m (np := 2) (nl := 3) (k := 1) F sc rfl rfl fun cdv A outer s H E hr => ?_⟩
  have tk := takes_m (m := mo) (X := cxOf (CXm mo P w) P w K mg base ["columns", "place", "c", "l", "q"] "begun_behind" (defScope (topS 10)) f cdv A outer s H E) rfl rfl rfl rfl
  have hp := passes_of (X := cxOf (CXm mo P w) P w K mg base ["columns", "place", "c", "l", "q"] "begun_behind" (defScope (topS 10)) f cdv A outer s H E) rfl
  have hu := hr.units
  have hu65 := hu65_of hr
  exact (psm_cons (psm_unp (is := [2, 3, 4]) (pm_var 1) rfl (pg_tup (n := 3) rfl (pgs_cons (pg_name (i := 2) sc.nd rfl (by first | exact Or.inl rfl | exact Or.inr rfl)) (pgs_cons (pg_name (i := 3) sc.nd rfl (by first | exact Or.inl rfl | exact Or.inr rfl)) (pgs_cons (pg_name (i := 4) sc.nd rfl (by first | exact Or.inl rfl | exact Or.inr rfl)) pgs_nil)))))
      (psm_cons (psm_if (pmt_w (pmw_or (pmt_eq hu (pm_var 2) (pm_bltB call_len bm_len z_len (by decide +kernel) (pma_cons (pm_var 0) pma_nil))) (pmw_or1 (pmt_lt (pm_var 4) (pm_bltB call_len bm_len z_len (by decide +kernel) (pma_cons (pm_ix (pm_ix (pm_var 0) (pm_var 2)) (pm_var 3)) pma_nil)))))) (psm_one (psm_ret (pm_lst pma_nil))) psm_nil)
      (psm_one (psm_ret (pm_def (d_begun_at mo) tk hr (pma_cons (pm_var 0) (pma_cons (pm_add (pm_var 2) pm_int) pma_nil)) (amn_cons (amn_cons amn_nil)))))))
theorem sc_shared_sign : FnScope ["one", "other", "sign"] ["one", "other"] (defScope (topS 11)) := ⟨rfl, rfl, rfl, by decide +kernel, rfl, by decide +kernel, by decide +kernel⟩
set_option maxHeartbeats 4000000 in
theorem ok_shared_sign {f : Addr} {fd : FuncData} (F : Fun K "shared_sign" "shared_sign" (topS 11) f fd) (hm : mg "shared_sign" = some (.ref f)) (b : Binds K fd ["one", "other"] []) : ∀ mo, DefOk P w K mg base mo "shared_sign" 1 2 M.shared_sign := by
  intro mo
  have sc := sc_shared_sign
  refine ⟨f, fd, ["one", "other"], hm, F.kp, b, fn_m (np := 2) (nl := 1) (k := 0) F sc rfl rfl fun cdv A outer s H E hr => ?_⟩
  have tk := takes_m (m := mo) (X := cxOf (CXm mo P w) P w K mg base ["one", "other", "sign"] "shared_sign" (defScope (topS 11)) f cdv A outer s H E) rfl rfl rfl rfl
  have hp := passes_of (X := cxOf (CXm mo P w) P w K mg base ["one", "other", "sign"] "shared_sign" (defScope (topS 11)) f cdv A outer s H E) rfl
  have hu := hr.units
  have hu65 := hu65_of hr
  exact (psm_cons (psm_if (pmt_w (pmw_or (pmt_isN (pm_var 0) pm_non) (pmw_or1 (pmt_isN (pm_var 1) pm_non)))) (psm_one (psm_ret pm_non)) psm_nil)
      (psm_cons (psm_for hp rfl (pmi_any (pm_var 0)) (pg_name (i := 2) sc.nd rfl (by first | exact Or.inl rfl | exact Or.inr rfl)) (put1_ok 2) (psm_one (psm_if (pmt_in hu65 (pm_var 2) (pm_var 1)) (psm_one (psm_ret (pm_var 2))) psm_nil)))
      (psm_one (psm_ret pm_non))))
theorem sc_one_on : FnScope ["place", "c", "l", "q"] ["place"] (defScope (topS 12)) := ⟨rfl, rfl, rfl, by decide +kernel, rfl, by decide +kernel, by decide +kernel⟩
set_option maxHeartbeats 4000000 in
theorem ok_one_on {f : Addr} {fd : FuncData} (F : Fun K "one_on" "one_on" (topS 12) f fd) (hm : mg "one_on" = some (.ref f)) (b : Binds K fd ["place"] []) : ∀ mo, DefOk P w K mg base mo "one_on" 1 1 M.one_on := by
  intro mo
  have sc := sc_one_on
  refine ⟨f, fd, ["place"], hm, F.kp, b, fn_m (np := 1) (nl := 3) (k := 0) F sc rfl rfl fun cdv A outer s H E hr => ?_⟩
  have tk := takes_m (m := mo) (X := cxOf (CXm mo P w) P w K mg base ["place", "c", "l", "q"] "one_on" (defScope (topS 12)) f cdv A outer s H E) rfl rfl rfl rfl
  have hp := passes_of (X := cxOf (CXm mo P w) P w K mg base ["place", "c", "l", "q"] "one_on" (defScope (topS 12)) f cdv A outer s H E) rfl
  have hu := hr.units
  have hu65 := hu65_of hr
  exact (psm_cons (psm_unp (is := [1, 2, 3]) (pm_var 0) rfl (pg_tup (n := 3) rfl (pgs_cons (pg_name (i := 1) sc.nd rfl (by first | exact Or.inl rfl | exact Or.inr rfl)) (pgs_cons (pg_name (i := 2) sc.nd rfl (by first | exact Or.inl rfl | exact Or.inr rfl)) (pgs_cons (pg_name (i := 3) sc.nd rfl (by first | exact Or.inl rfl | exact Or.inr rfl)) pgs_nil)))))
      (psm_one (psm_ret (pm_tup (pma_cons (pm_var 1) (pma_cons (pm_var 2) (pma_cons (pm_add (pm_var 3) pm_int) pma_nil)))))))
theorem sc_first_pairs : FnScope ["columns", "found", "c", "l", "k"] ["columns"] (defScope (topS 13)) := ⟨rfl, rfl, rfl, by decide +kernel, rfl, by decide +kernel, by decide +kernel⟩
set_option maxHeartbeats 4000000 in
theorem ok_first_pairs {f : Addr} {fd : FuncData} (F : Fun K "first_pairs" "first_pairs" (topS 13) f fd) (hm : mg "first_pairs" = some (.ref f)) (b : Binds K fd ["columns"] []) (z_len : mg "len" = none) (z_range : mg "range" = none) : ∀ mo, DefOk P w K mg base mo "first_pairs" 1 1 M.first_pairs := by
  intro mo
  have sc := sc_first_pairs
  refine ⟨f, fd, ["columns"], hm, F.kp, b, fn_m (np := 1) (nl := 4) (k := 0) F sc rfl rfl fun cdv A outer s H E hr => ?_⟩
  have tk := takes_m (m := mo) (X := cxOf (CXm mo P w) P w K mg base ["columns", "found", "c", "l", "k"] "first_pairs" (defScope (topS 13)) f cdv A outer s H E) rfl rfl rfl rfl
  have hp := passes_of (X := cxOf (CXm mo P w) P w K mg base ["columns", "found", "c", "l", "k"] "first_pairs" (defScope (topS 13)) f cdv A outer s H E) rfl
  have hu := hr.units
  have hu65 := hu65_of hr
  exact (psm_cons (psm_set 1 sc.nd (pm_lst pma_nil))
      (psm_cons (psm_for hp rfl (pmi_r1 (pm_bltB call_len bm_len z_len (by decide +kernel) (pma_cons (pm_var 0) pma_nil)) z_range) (pg_name (i := 2) sc.nd rfl (by first | exact Or.inl rfl | exact Or.inr rfl)) (put1_ok 2) (psm_one (psm_for hp rfl (pmi_r1 (pm_bltB call_len bm_len z_len (by decide +kernel) (pma_cons (pm_ix (pm_var 0) (pm_var 2)) pma_nil)) z_range) (pg_name (i := 3) sc.nd rfl (by first | exact Or.inl rfl | exact Or.inr rfl)) (put1_ok 3) (psm_one (psm_for hp rfl (pmi_r2 (pm_add (pm_var 3) pm_int) (pm_bltB call_len bm_len z_len (by decide +kernel) (pma_cons (pm_ix (pm_var 0) (pm_var 2)) pma_nil)) z_range) (pg_name (i := 4) sc.nd rfl (by first | exact Or.inl rfl | exact Or.inr rfl)) (put1_ok 4) (psm_one (psm_app 1 (pm_tup (pma_cons (pm_tup (pma_cons (pm_var 2) (pma_cons (pm_var 3) (pma_cons pm_int pma_nil)))) (pma_cons (pm_tup (pma_cons (pm_var 2) (pma_cons (pm_var 4) (pma_cons pm_int pma_nil)))) pma_nil))))))))))
      (psm_one (psm_ret (pm_var 1)))))
theorem sc_next_pairs : FnScope ["columns", "pair", "one", "other", "found", "place"] ["columns", "pair"] (defScope (topS 14)) := ⟨rfl, rfl, rfl, by decide +kernel, rfl, by decide +kernel, by decide +kernel⟩
set_option maxHeartbeats 4000000 in
theorem ok_next_pairs {f : Addr} {fd : FuncData} (F : Fun K "next_pairs" "next_pairs" (topS 14) f fd) (hm : mg "next_pairs" = some (.ref f)) (b : Binds K fd ["columns", "pair"] []) (z_sorted : mg "sorted" = none) (d_begun_behind : ∀ mo, DefOk P w K mg base mo "begun_behind" 2 2 M.begun_behind) (d_cell_next : ∀ mo, DefOk P w K mg base mo "cell_next" 1 2 M.cell_next) (d_shared_sign : ∀ mo, DefOk P w K mg base mo "shared_sign" 1 2 M.shared_sign) (d_one_on : ∀ mo, DefOk P w K mg base mo "one_on" 1 1 M.one_on) : ∀ mo, DefOk P w K mg base mo "next_pairs" 3 2 M.next_pairs := by
  intro mo
  have sc := sc_next_pairs
  refine ⟨f, fd, ["columns", "pair"], hm, F.kp, b, fn_m (np := 2) (nl := 4) (k := 2) F sc rfl rfl fun cdv A outer s H E hr => ?_⟩
  have tk := takes_m (m := mo) (X := cxOf (CXm mo P w) P w K mg base ["columns", "pair", "one", "other", "found", "place"] "next_pairs" (defScope (topS 14)) f cdv A outer s H E) rfl rfl rfl rfl
  have hp := passes_of (X := cxOf (CXm mo P w) P w K mg base ["columns", "pair", "one", "other", "found", "place"] "next_pairs" (defScope (topS 14)) f cdv A outer s H E) rfl
  have hu := hr.units
  have hu65 := hu65_of hr
  exact (psm_cons (psm_unp (is := [2, 3]) (pm_var 1) rfl (pg_tup (n := 2) rfl (pgs_cons (pg_name (i := 2) sc.nd rfl (by first | exact Or.inl rfl | exact Or.inr rfl)) (pgs_cons (pg_name (i := 3) sc.nd rfl (by first | exact Or.inl rfl | exact Or.inr rfl)) pgs_nil))))
      (psm_cons (psm_set 4 sc.nd pm_dt0)
      (psm_cons (psm_for hp rfl (pmi_any (pm_def (d_begun_behind mo) tk hr (pma_cons (pm_var 0) (pma_cons (pm_var 2) pma_nil)) (amn_cons (amn_cons amn_nil)))) (pg_name (i := 5) sc.nd rfl (by first | exact Or.inl rfl | exact Or.inr rfl)) (put1_ok 5) (psm_one (psm_putT 4 hu (pm_tup (pma_cons (pm_var 5) (pma_cons (pm_var 3) pma_nil))) pm_bl)))
      (psm_cons (psm_for hp rfl (pmi_any (pm_def (d_begun_behind mo) tk hr (pma_cons (pm_var 0) (pma_cons (pm_var 3) pma_nil)) (amn_cons (amn_cons amn_nil)))) (pg_name (i := 5) sc.nd rfl (by first | exact Or.inl rfl | exact Or.inr rfl)) (put1_ok 5) (psm_one (psm_putT 4 hu (pm_tup (pma_cons (pm_var 2) (pma_cons (pm_var 5) pma_nil))) pm_bl)))
      (psm_cons (psm_if (pmt_notN (pm_def (d_shared_sign mo) tk hr (pma_cons (pm_def (d_cell_next mo) tk hr (pma_cons (pm_var 0) (pma_cons (pm_var 2) pma_nil)) (amn_cons (amn_cons amn_nil))) (pma_cons (pm_def (d_cell_next mo) tk hr (pma_cons (pm_var 0) (pma_cons (pm_var 3) pma_nil)) (amn_cons (amn_cons amn_nil))) pma_nil)) (amn_cons (amn_cons amn_nil))) pm_non) (psm_one (psm_putT 4 hu (pm_tup (pma_cons (pm_def (d_one_on mo) tk hr (pma_cons (pm_var 2) pma_nil) (amn_cons amn_nil)) (pma_cons (pm_def (d_one_on mo) tk hr (pma_cons (pm_var 3) pma_nil) (amn_cons amn_nil)) pma_nil))) pm_bl)) psm_nil)
      (psm_one (psm_ret (pm_sortT hu rfl z_sorted (pm_var 4)))))))))
theorem sc_shortest_pick : FnScope ["looks", "lengths", "look"] ["looks"] (defScope (topS 17)) := ⟨rfl, rfl, rfl, by decide +kernel, rfl, by decide +kernel, by decide +kernel⟩
set_option maxHeartbeats 4000000 in
theorem ok_shortest_pick {f : Addr} {fd : FuncData} (F : Fun K "shortest_pick" "shortest_pick" (topS 17) f fd) (hm : mg "shortest_pick" = some (.ref f)) (b : Binds K fd ["looks"] []) (z_len : mg "len" = none) (z_min : mg "min" = none) : ∀ mo, DefOk P w K mg base mo "shortest_pick" 1 1 M.shortest_pick := by
  intro mo
  have sc := sc_shortest_pick
  refine ⟨f, fd, ["looks"], hm, F.kp, b, fn_m (np := 1) (nl := 2) (k := 0) F sc rfl rfl fun cdv A outer s H E hr => ?_⟩
  have tk := takes_m (m := mo) (X := cxOf (CXm mo P w) P w K mg base ["looks", "lengths", "look"] "shortest_pick" (defScope (topS 17)) f cdv A outer s H E) rfl rfl rfl rfl
  have hp := passes_of (X := cxOf (CXm mo P w) P w K mg base ["looks", "lengths", "look"] "shortest_pick" (defScope (topS 17)) f cdv A outer s H E) rfl
  have hu := hr.units
  have hu65 := hu65_of hr
  exact (psm_cons (psm_setLc (own := [("look", 2)]) 1 rfl sc.nd (sw_true rfl rfl rfl (by decide +kernel)) (pmi_any (pm_var 0)) (blkOk_by (own := [("look", 2)]) (N := ["looks", "lengths", "look"]) (sc := defScope (topS 17)) (by decide +kernel)) (putC1 (by simp)) (fun _ _ _ _ _ => (pg_name (i := 2) sc.nd rfl (by first | exact Or.inl rfl | exact Or.inr rfl))) (fun _ _ _ _ _ => ptsm_nil) (fun _ _ _ _ _ => (pm_bltB call_len bm_len z_len (by decide +kernel) (pma_cons (pm_var 2) pma_nil))))
      (psm_one (psm_ret (pm_idxD hu65 (pm_var 1) (pm_bltB (cr_min rfl) bm_minL z_min (by decide +kernel) (pma_cons (pm_var 1) pma_nil))))))
theorem sc_signs_ahead : FnScope ["columns", "c", "k"] ["columns", "c"] (defScope (topS 18)) := ⟨rfl, rfl, rfl, by decide +kernel, rfl, by decide +kernel, by decide +kernel⟩
set_option maxHeartbeats 4000000 in
theorem ok_signs_ahead {f : Addr} {fd : FuncData} (F : Fun K "signs_ahead" "signs_ahead" (topS 18) f fd) (hm : mg "signs_ahead" = some (.ref f)) (b : Binds K fd ["columns", "c"] []) (z_range : mg "range" = none) (z_len : mg "len" = none) (z_sum : mg "sum" = none) (d_shortest_pick : ∀ mo, DefOk P w K mg base mo "shortest_pick" 1 1 M.shortest_pick) : ∀ mo, DefOk P w K mg base mo "signs_ahead" 2 2 M.signs_ahead := by
  intro mo
  have sc := sc_signs_ahead
  refine ⟨f, fd, ["columns", "c"], hm, F.kp, b, fn_m (np := 2) (nl := 1) (k := 1) F sc rfl rfl fun cdv A outer s H E hr => ?_⟩
  have tk := takes_m (m := mo) (X := cxOf (CXm mo P w) P w K mg base ["columns", "c", "k"] "signs_ahead" (defScope (topS 18)) f cdv A outer s H E) rfl rfl rfl rfl
  have hp := passes_of (X := cxOf (CXm mo P w) P w K mg base ["columns", "c", "k"] "signs_ahead" (defScope (topS 18)) f cdv A outer s H E) rfl
  have hu := hr.units
  have hu65 := hu65_of hr
  exact (psm_one (psm_ret (pm_bltB (cr_sum rfl) bm_sum z_sum (by decide +kernel) (pma_cons (pm_lc (own := [("k", 2)]) rfl sc.nd (pmi_r1 (pm_var 1) z_range) (blkOk_by (own := [("k", 2)]) (N := ["columns", "c", "k"]) (sc := defScope (topS 18)) (by decide +kernel)) (putC1 (by simp)) (fun _ _ _ _ _ => (pg_name (i := 2) sc.nd rfl (by first | exact Or.inl rfl | exact Or.inr rfl))) (fun _ _ _ _ _ => ptsm_nil) (fun _ _ _ _ _ => (pm_bltB call_len bm_len z_len (by decide +kernel) (pma_cons (pm_ix (pm_ix (pm_var 0) (pm_var 2)) (pm_def (d_shortest_pick mo) tks0 hr (pma_cons (pm_ix (pm_var 0) (pm_var 2)) pma_nil) (amn_cons amn_nil))) pma_nil)))) pma_nil))))
theorem sc_is_sign_step : FnScope ["pair", "then"] ["pair", "then"] (defScope (topS 19)) := ⟨rfl, rfl, rfl, by decide +kernel, rfl, by decide +kernel, by decide +kernel⟩
set_option maxHeartbeats 4000000 in
theorem ok_is_sign_step {f : Addr} {fd : FuncData} (F : Fun K "is_sign_step" "is_sign_step" (topS 19) f fd) (hm : mg "is_sign_step" = some (.ref f)) (b : Binds K fd ["pair", "then"] []) : ∀ mo, DefOk P w K mg base mo "is_sign_step" 1 2 M.is_sign_step := by
  intro mo
  have sc := sc_is_sign_step
  refine ⟨f, fd, ["pair", "then"], hm, F.kp, b, fn_m (np := 2) (nl := 0) (k := 0) F sc rfl rfl fun cdv A outer s H E hr => ?_⟩
  have tk := takes_m (m := mo) (X := cxOf (CXm mo P w) P w K mg base ["pair", "then"] "is_sign_step" (defScope (topS 19)) f cdv A outer s H E) rfl rfl rfl rfl
  have hp := passes_of (X := cxOf (CXm mo P w) P w K mg base ["pair", "then"] "is_sign_step" (defScope (topS 19)) f cdv A outer s H E) rfl
  have hu := hr.units
  have hu65 := hu65_of hr
  exact (psm_one (psm_ret (pm_and (pm_ne hu (pm_ix (pm_var 0) pm_int) (pm_ix (pm_var 1) pm_int)) (pm_one (pm_ne hu (pm_ix (pm_var 0) pm_int) (pm_ix (pm_var 1) pm_int))))))
theorem sc_come_to : FnScope ["columns", "came", "rows", "pair", "length", "row", "at", "ahead", "then", "step"] ["columns"] (defScope (topS 20)) := ⟨rfl, rfl, rfl, by decide +kernel, rfl, by decide +kernel, by decide +kernel⟩
set_option maxHeartbeats 4000000 in
theorem ok_come_to {f : Addr} {fd : FuncData} (F : Fun K "come_to" "come_to" (topS 20) f fd) (hm : mg "come_to" = some (.ref f)) (b : Binds K fd ["columns"] []) (z_int : mg "int" = none) (z_len : mg "len" = none) (d_next_pairs : ∀ mo, DefOk P w K mg base mo "next_pairs" 3 2 M.next_pairs) (d_is_sign_step : ∀ mo, DefOk P w K mg base mo "is_sign_step" 1 2 M.is_sign_step) (d_first_pairs : ∀ mo, DefOk P w K mg base mo "first_pairs" 1 1 M.first_pairs) (d_signs_ahead : ∀ mo, DefOk P w K mg base mo "signs_ahead" 2 2 M.signs_ahead) (d_places_in : ∀ mo, DefOk P w K mg base mo "places_in" 1 1 M.places_in) : ∀ mo, DefOk P w K mg base mo "come_to" 4 1 M.come_to := by
  intro mo
  have sc := sc_come_to
  refine ⟨f, fd, ["columns"], hm, F.kp, b, fn_m (np := 1) (nl := 9) (k := 3) F sc rfl rfl fun cdv A outer s H E hr => ?_⟩
  have tk := takes_m (m := mo) (X := cxOf (CXm mo P w) P w K mg base ["columns", "came", "rows", "pair", "length", "row", "at", "ahead", "then", "step"] "come_to" (defScope (topS 20)) f cdv A outer s H E) rfl rfl rfl rfl
  have hp := passes_of (X := cxOf (CXm mo P w) P w K mg base ["columns", "came", "rows", "pair", "length", "row", "at", "ahead", "then", "step"] "come_to" (defScope (topS 20)) f cdv A outer s H E) rfl
  have hu := hr.units
  have hu65 := hu65_of hr
  exact (PSs.imp (pss_cons (psm_set 1 sc.nd pm_dt0)
      (pss_cons (ps_set (i := 2) sc.nd rfl (by first | exact Or.inl rfl | exact Or.inr rfl) pe_dnewK)
      (pss_cons (ps_for hp rfl (pmi_any (pm_def (d_first_pairs mo) tk hr (pma_cons (pm_var 0) pma_nil) (amn_cons amn_nil))) (pg_name (i := 3) sc.nd rfl (by first | exact Or.inl rfl | exact Or.inr rfl)) (pss_one (ps_rowadd (i := 2) (pm_def (d_signs_ahead mo) tk hr (pma_cons (pm_var 0) (pma_cons (pm_ix (pm_ix (pm_var 3) pm_int) pm_int) pma_nil)) (amn_cons (amn_cons amn_nil))) (pm_tup (pma_cons (pm_var 3) (pma_cons pm_non pma_nil))) rfl (by first | exact Or.inl rfl | exact Or.inr (Or.inl rfl) | exact Or.inr (Or.inr rfl)) ⟨rfl, rfl, rfl, rfl⟩)))
      (pss_cons (ps_set (i := 4) sc.nd rfl (by first | exact Or.inl rfl | exact Or.inr rfl) pm_int)
      (pss_cons (ps_while hp (pmt_le (pm_var 4) (pm_def (d_places_in mo) tk hr (pma_cons (pm_var 0) pma_nil) (amn_cons amn_nil))) (pss_cons (ps_set (i := 5) sc.nd rfl (by first | exact Or.inl rfl | exact Or.inr rfl) (pe_opn (i := 2) (pm_var 4) rfl (by first | exact Or.inl rfl | exact Or.inr (Or.inl rfl) | exact Or.inr (Or.inr rfl)) ⟨rfl, rfl, rfl, rfl⟩))
      (pss_cons (ps_set (i := 6) sc.nd rfl (by first | exact Or.inl rfl | exact Or.inr rfl) pm_int)
      (pss_cons (ps_while hp (pt_lenlt (r := 5) (pm_var 6) rfl (by first | exact Or.inl rfl | exact Or.inr (Or.inl rfl) | exact Or.inr (Or.inr rfl)) z_len) (pss_cons (ps_asg (pe_ix ix_seq (pe_var (i := 5) rfl (by first | exact Or.inl rfl | exact Or.inr (Or.inl rfl) | exact Or.inr (Or.inr rfl)) (by decide) (by decide)) (pm_var 6) (by intro _ _; rfl)) (pg_tup (n := 2) rfl (pgs_cons (pg_name (i := 3) sc.nd rfl (by first | exact Or.inl rfl | exact Or.inr rfl)) (pgs_cons (pg_name (i := 7) sc.nd rfl (by first | exact Or.inl rfl | exact Or.inr rfl)) pgs_nil))))
      (pss_cons (ps_set (i := 6) sc.nd rfl (by first | exact Or.inl rfl | exact Or.inr rfl) (pm_add (pm_var 6) pm_int))
      (pss_one (ps_if (pmt_notInT hu (pm_var 3) (pm_var 1)) (pss_cons (ps_tputN hu (pe_var (i := 1) rfl (by first | exact Or.inl rfl | exact Or.inr (Or.inl rfl) | exact Or.inr (Or.inr rfl)) (by decide) (by decide)) (pm_var 3) (pm_var 7) rfl)
      (pss_one (ps_for hp rfl (pmi_any (pm_def (d_next_pairs mo) tk hr (pma_cons (pm_var 0) (pma_cons (pm_var 3) pma_nil)) (amn_cons (amn_cons amn_nil)))) (pg_name (i := 8) sc.nd rfl (by first | exact Or.inl rfl | exact Or.inr rfl)) (pss_cons (ps_set (i := 9) sc.nd rfl (by first | exact Or.inl rfl | exact Or.inr rfl) (pm_bltT call_int1 bm_int z_int (by decide +kernel) (pma_cons (pm_def (d_is_sign_step mo) tk hr (pma_cons (pm_var 3) (pma_cons (pm_var 8) pma_nil)) (amn_cons (amn_cons amn_nil))) pma_nil)))
      (pss_one (ps_rowadd (i := 2) (pm_add (pm_var 4) (pm_var 9)) (pm_tup (pma_cons (pm_var 8) (pma_cons (pm_var 3) pma_nil))) rfl (by first | exact Or.inl rfl | exact Or.inr (Or.inl rfl) | exact Or.inr (Or.inr rfl)) ⟨rfl, rfl, rfl, rfl⟩)))))) pss_nil)))))
      (pss_one (ps_set (i := 4) sc.nd rfl (by first | exact Or.inl rfl | exact Or.inr rfl) (pm_add (pm_var 4) pm_int)))))))
      (pss_one (psm_ret (pm_var 1)))))))) come_ok)
theorem sc_way_to : FnScope ["came", "pair", "way"] ["came", "pair"] (defScope (topS 21)) := ⟨rfl, rfl, rfl, by decide +kernel, rfl, by decide +kernel, by decide +kernel⟩
set_option maxHeartbeats 4000000 in
theorem ok_way_to {f : Addr} {fd : FuncData} (F : Fun K "way_to" "way_to" (topS 21) f fd) (hm : mg "way_to" = some (.ref f)) (b : Binds K fd ["came", "pair"] []) (z_list : mg "list" = none) (z_reversed : mg "reversed" = none) : ∀ mo, DefOk P w K mg base mo "way_to" 1 2 M.way_to := by
  intro mo
  have sc := sc_way_to
  refine ⟨f, fd, ["came", "pair"], hm, F.kp, b, fn_m (np := 2) (nl := 1) (k := 0) F sc rfl rfl fun cdv A outer s H E hr => ?_⟩
  have tk := takes_m (m := mo) (X := cxOf (CXm mo P w) P w K mg base ["came", "pair", "way"] "way_to" (defScope (topS 21)) f cdv A outer s H E) rfl rfl rfl rfl
  have hp := passes_of (X := cxOf (CXm mo P w) P w K mg base ["came", "pair", "way"] "way_to" (defScope (topS 21)) f cdv A outer s H E) rfl
  have hu := hr.units
  have hu65 := hu65_of hr
  exact (psm_cons (psm_set 2 sc.nd (pm_lst (pma_cons (pm_var 1) pma_nil)))
      (psm_cons (psm_while fuel hp (pmt_notN (pm_ixT hu (pm_var 0) (pm_ix (pm_var 2) (pm_neg pm_int))) pm_non) (psm_one (psm_app 2 (pm_ixT hu (pm_var 0) (pm_ix (pm_var 2) (pm_neg pm_int))))))
      (psm_one (psm_ret (pm_lstRev rfl z_list z_reversed (pm_var 2))))))
theorem sc_told_by : FnScope ["columns", "way", "start", "one", "c", "other", "text", "cell", "pair", "then"] ["columns", "way"] (defScope (topS 22)) := ⟨rfl, rfl, rfl, by decide +kernel, rfl, by decide +kernel, by decide +kernel⟩
set_option maxHeartbeats 4000000 in
theorem ok_told_by {f : Addr} {fd : FuncData} (F : Fun K "told_by" "told_by" (topS 22) f fd) (hm : mg "told_by" = some (.ref f)) (b : Binds K fd ["columns", "way"] []) (z_range : mg "range" = none) (z_list : mg "list" = none) (z_zip : mg "zip" = none) (z_len : mg "len" = none) (d_shortest_pick : ∀ mo, DefOk P w K mg base mo "shortest_pick" 1 1 M.shortest_pick) (d_is_sign_step : ∀ mo, DefOk P w K mg base mo "is_sign_step" 1 2 M.is_sign_step) (d_cell_next : ∀ mo, DefOk P w K mg base mo "cell_next" 1 2 M.cell_next) (d_shared_sign : ∀ mo, DefOk P w K mg base mo "shared_sign" 1 2 M.shared_sign) : ∀ mo, DefOk P w K mg base mo "told_by" 2 2 M.told_by := by
  intro mo
  have sc := sc_told_by
  refine ⟨f, fd, ["columns", "way"], hm, F.kp, b, fn_m (np := 2) (nl := 8) (k := 1) F sc rfl rfl fun cdv A outer s H E hr => ?_⟩
  have tk := takes_m (m := mo) (X := cxOf (CXm mo P w) P w K mg base ["columns", "way", "start", "one", "c", "other", "text", "cell", "pair", "then"] "told_by" (defScope (topS 22)) f cdv A outer s H E) rfl rfl rfl rfl
  have hp := passes_of (X := cxOf (CXm mo P w) P w K mg base ["columns", "way", "start", "one", "c", "other", "text", "cell", "pair", "then"] "told_by" (defScope (topS 22)) f cdv A outer s H E) rfl
  have hu := hr.units
  have hu65 := hu65_of hr
  exact (psm_cons (psm_set 2 sc.nd (pm_ix (pm_ix (pm_ix (pm_var 1) pm_int) pm_int) pm_int))
      (psm_cons (psm_setLc (own := [("c", 4)]) 3 rfl sc.nd (sw_true rfl rfl rfl (by decide +kernel)) (pmi_r1 (pm_var 2) z_range) (blkOk_by (own := [("c", 4)]) (N := ["columns", "way", "start", "one", "c", "other", "text", "cell", "pair", "then"]) (sc := defScope (topS 22)) (by decide +kernel)) (putC1 (by simp)) (fun _ _ _ _ _ => (pg_name (i := 4) sc.nd rfl (by first | exact Or.inl rfl | exact Or.inr rfl))) (fun _ _ _ _ _ => ptsm_nil) (fun _ _ _ _ _ => (pm_def (d_shortest_pick mo) tks0 hr (pma_cons (pm_ix (pm_var 0) (pm_var 4)) pma_nil) (amn_cons amn_nil))))
      (psm_cons (psm_set 5 sc.nd (pm_list z_list (pma_cons (pm_var 3) pma_nil)))
      (psm_cons (psm_set 6 sc.nd (pm_str (s := []) (by decide +kernel)))
      (psm_cons (psm_for hp rfl (pmi_r1 (pm_var 2) z_range) (pg_name (i := 4) sc.nd rfl (by first | exact Or.inl rfl | exact Or.inr rfl)) (put1_ok 4) (psm_one (psm_set 6 sc.nd (pm_add (pm_var 6) (pm_join (pm_str (s := []) (by decide +kernel)) (pm_lc (own := [("cell", 7)]) rfl sc.nd (pmi_any (pm_ix (pm_ix (pm_var 0) (pm_var 4)) (pm_ix (pm_var 3) (pm_var 4)))) (blkOk_by (own := [("cell", 7)]) (N := ["columns", "way", "start", "one", "c", "other", "text", "cell", "pair", "then"]) (sc := defScope (topS 22)) (by decide +kernel)) (putC1 (by simp)) (fun _ _ _ _ _ => (pg_name (i := 7) sc.nd rfl (by first | exact Or.inl rfl | exact Or.inr rfl))) (fun _ _ _ _ _ => ptsm_nil) (fun _ _ _ _ _ => (pm_ix (pm_var 7) pm_int))))))))
      (psm_cons (psm_for hp rfl (pmi_zip (pm_var 1) (pm_cut (pm_var 1) (pmo_some pm_int) pmo_none) z_zip) (pg_tup (n := 2) rfl (pgs_cons (pg_name (i := 8) sc.nd rfl (by first | exact Or.inl rfl | exact Or.inr rfl)) (pgs_cons (pg_name (i := 9) sc.nd rfl (by first | exact Or.inl rfl | exact Or.inr rfl)) pgs_nil))) (putT_ok [8, 9] 2 rfl) (psm_one (psm_if (pmt_tru (pm_def (d_is_sign_step mo) tk hr (pma_cons (pm_var 8) (pma_cons (pm_var 9) pma_nil)) (amn_cons (amn_cons amn_nil)))) (psm_one (psm_set 6 sc.nd (pm_add (pm_var 6) (pm_def (d_shared_sign mo) tk hr (pma_cons (pm_def (d_cell_next mo) tk hr (pma_cons (pm_var 0) (pma_cons (pm_ix (pm_var 8) pm_int) pma_nil)) (amn_cons (amn_cons amn_nil))) (pma_cons (pm_def (d_cell_next mo) tk hr (pma_cons (pm_var 0) (pma_cons (pm_ix (pm_var 8) pm_int) pma_nil)) (amn_cons (amn_cons amn_nil))) pma_nil)) (amn_cons (amn_cons amn_nil)))))) psm_nil)))
      (psm_cons (psm_for hp rfl (pmi_any (pm_var 1)) (pg_name (i := 8) sc.nd rfl (by first | exact Or.inl rfl | exact Or.inr rfl)) (put1_ok 8) (psm_cons (psm_if (pmt_w (pmw_and (pmt_eq hu (pm_ix (pm_ix (pm_var 8) pm_int) pm_int) (pm_bltB call_len bm_len z_len (by decide +kernel) (pma_cons (pm_var 3) pma_nil))) (pmw_and1 (pmt_lt (pm_bltB call_len bm_len z_len (by decide +kernel) (pma_cons (pm_var 3) pma_nil)) (pm_bltB call_len bm_len z_len (by decide +kernel) (pma_cons (pm_var 0) pma_nil)))))) (psm_one (psm_app 3 (pm_ix (pm_ix (pm_var 8) pm_int) pm_int))) psm_nil)
      (psm_one (psm_if (pmt_w (pmw_and (pmt_eq hu (pm_ix (pm_ix (pm_var 8) pm_int) pm_int) (pm_bltB call_len bm_len z_len (by decide +kernel) (pma_cons (pm_var 5) pma_nil))) (pmw_and1 (pmt_lt (pm_bltB call_len bm_len z_len (by decide +kernel) (pma_cons (pm_var 5) pma_nil)) (pm_bltB call_len bm_len z_len (by decide +kernel) (pma_cons (pm_var 0) pma_nil)))))) (psm_one (psm_app 5 (pm_ix (pm_ix (pm_var 8) pm_int) pm_int))) psm_nil))))
      (psm_frz 5 (psm_frz 3 (psm_one (psm_ret (pm_tup (pma_cons (pm_var 6) (pma_cons (pm_var 3) (pma_cons (pm_var 5) pma_nil)))))))))))))))
theorem sc_judged : FnScope ["columns", "many", "came", "end", "text", "one", "other"] ["columns"] (defScope (topS 23)) := ⟨rfl, rfl, rfl, by decide +kernel, rfl, by decide +kernel, by decide +kernel⟩
set_option maxHeartbeats 4000000 in
theorem ok_judged {f : Addr} {fd : FuncData} (F : Fun K "judged" "judged" (topS 23) f fd) (hm : mg "judged" = some (.ref f)) (b : Binds K fd ["columns"] []) (z_len : mg "len" = none) (z_sorted : mg "sorted" = none) (g_MOST_PLACES : GInt mg "MOST_PLACES" 500) (d_places_in : ∀ mo, DefOk P w K mg base mo "places_in" 1 1 M.places_in) (d_come_to : ∀ mo, DefOk P w K mg base mo "come_to" 4 1 M.come_to) (d_way_to : ∀ mo, DefOk P w K mg base mo "way_to" 1 2 M.way_to) (d_told_by : ∀ mo, DefOk P w K mg base mo "told_by" 2 2 M.told_by) : ∀ mo, DefOk P w K mg base mo "judged" 5 1 M.judged := by
  intro mo
  have sc := sc_judged
  refine ⟨f, fd, ["columns"], hm, F.kp, b, fn_m (np := 1) (nl := 6) (k := 4) F sc rfl rfl fun cdv A outer s H E hr => ?_⟩
  have tk := takes_m (m := mo) (X := cxOf (CXm mo P w) P w K mg base ["columns", "many", "came", "end", "text", "one", "other"] "judged" (defScope (topS 23)) f cdv A outer s H E) rfl rfl rfl rfl
  have hp := passes_of (X := cxOf (CXm mo P w) P w K mg base ["columns", "many", "came", "end", "text", "one", "other"] "judged" (defScope (topS 23)) f cdv A outer s H E) rfl
  have hu := hr.units
  have hu65 := hu65_of hr
  exact (psm_cons (psm_set 1 sc.nd (pm_def (d_places_in mo) tk hr (pma_cons (pm_var 0) pma_nil) (amn_cons amn_nil)))
      (psm_cons (psm_if (pmt_gt (pm_var 1) (g_MOST_PLACES.pm rfl)) (psm_one psm_never) psm_nil)
      (psm_cons (psm_set 2 sc.nd (pm_def (d_come_to mo) tk hr (pma_cons (pm_var 0) pma_nil) (amn_cons amn_nil)))
      (psm_frz 2 (psm_cons (psm_set 3 sc.nd (pm_tup (pma_cons (pm_bltB call_len bm_len z_len (by decide +kernel) (pma_cons (pm_var 0) pma_nil)) (pma_cons pm_int (pma_cons pm_int pma_nil)))))
      (psm_cons (psm_if (pmt_notInT hu (pm_tup (pma_cons (pm_var 3) (pma_cons (pm_var 3) pma_nil))) (pm_var 2)) (psm_one (psm_ret (pm_tup (pma_cons (pm_str (s := [111, 110, 101]) (by decide +kernel)) (pma_cons (pm_sortT hu rfl z_sorted (pm_var 2)) pma_nil))))) psm_nil)
      (psm_cons (psm_unp (is := [4, 5, 6]) (pm_def (d_told_by mo) tk hr (pma_cons (pm_var 0) (pma_cons (pm_def (d_way_to mo) tk hr (pma_cons (pm_var 2) (pma_cons (pm_tup (pma_cons (pm_var 3) (pma_cons (pm_var 3) pma_nil))) pma_nil)) (amn_cons (amn_cons amn_nil))) pma_nil)) (amn_cons (amn_cons amn_nil))) rfl (pg_tup (n := 3) rfl (pgs_cons (pg_name (i := 4) sc.nd rfl (by first | exact Or.inl rfl | exact Or.inr rfl)) (pgs_cons (pg_name (i := 5) sc.nd rfl (by first | exact Or.inl rfl | exact Or.inr rfl)) (pgs_cons (pg_name (i := 6) sc.nd rfl (by first | exact Or.inl rfl | exact Or.inr rfl)) pgs_nil)))))
      (psm_one (psm_ret (pm_tup (pma_cons (pm_str (s := [116, 119, 111]) (by decide +kernel)) (pma_cons (pm_var 4) (pma_cons (pm_var 5) (pma_cons (pm_var 6) pma_nil))))))))))))))
theorem sc_is_place : FnScope ["columns", "thing", "number", "c", "l", "q"] ["columns", "thing"] (defScope (topS 25)) := ⟨rfl, rfl, rfl, by decide +kernel, rfl, by decide +kernel, by decide +kernel⟩
set_option maxHeartbeats 4000000 in
theorem ok_is_place {f : Addr} {fd : FuncData} (F : Fun K "is_place" "is_place" (topS 25) f fd) (hm : mg "is_place" = some (.ref f)) (b : Binds K fd ["columns", "thing"] []) (z_isinstance : mg "isinstance" = none) (z_tuple : mg "tuple" = none) (z_len : mg "len" = none) (d_is_whole : ∀ mo, DefOk P w K mg base mo "is_whole" 1 1 M.is_whole) : ∀ mo, DefOk P w K mg base mo "is_place" 2 2 M.is_place := by
  intro mo
  have sc := sc_is_place
  refine ⟨f, fd, ["columns", "thing"], hm, F.kp, b, fn_m (np := 2) (nl := 4) (k := 1) F sc rfl rfl fun cdv A outer s H E hr => ?_⟩
  have tk := takes_m (m := mo) (X := cxOf (CXm mo P w) P w K mg base ["columns", "thing", "number", "c", "l", "q"] "is_place" (defScope (topS 25)) f cdv A outer s H E) rfl rfl rfl rfl
  have hp := passes_of (X := cxOf (CXm mo P w) P w K mg base ["columns", "thing", "number", "c", "l", "q"] "is_place" (defScope (topS 25)) f cdv A outer s H E) rfl
  have hu := hr.units
  have hu65 := hu65_of hr
  exact (psm_cons (psm_if (pmt_w (pmw_or (pmt_not (pmt_tru (pm_is (T := "tuple") is_tuple (pm_var 1) z_isinstance z_tuple (by decide +kernel)))) (pmw_or1 (pmt_ne hu (pm_bltB call_len bm_len z_len (by decide +kernel) (pma_cons (pm_var 1) pma_nil)) pm_int)))) (psm_one (psm_ret pm_bl)) psm_nil)
      (psm_cons (psm_for hp rfl (pmi_any (pm_var 1)) (pg_name (i := 2) sc.nd rfl (by first | exact Or.inl rfl | exact Or.inr rfl)) (put1_ok 2) (psm_one (psm_if (pmt_not (pmt_tru (pm_def (d_is_whole mo) tk hr (pma_cons (pm_var 2) pma_nil) (amn_cons amn_nil)))) (psm_one (psm_ret pm_bl)) psm_nil)))
      (psm_cons (psm_unp (is := [3, 4, 5]) (pm_var 1) rfl (pg_tup (n := 3) rfl (pgs_cons (pg_name (i := 3) sc.nd rfl (by first | exact Or.inl rfl | exact Or.inr rfl)) (pgs_cons (pg_name (i := 4) sc.nd rfl (by first | exact Or.inl rfl | exact Or.inr rfl)) (pgs_cons (pg_name (i := 5) sc.nd rfl (by first | exact Or.inl rfl | exact Or.inr rfl)) pgs_nil)))))
      (psm_cons (psm_if (pmt_eq hu (pm_var 3) (pm_bltB call_len bm_len z_len (by decide +kernel) (pma_cons (pm_var 0) pma_nil))) (psm_one (psm_ret (pm_and (pm_eq hu (pm_var 4) pm_int) (pm_one (pm_eq hu (pm_var 5) pm_int))))) psm_nil)
      (psm_cons (psm_if (pmt_w (pmw_or (pmt_lt (pm_var 3) pm_int) (pmw_or (pmt_gt (pm_var 3) (pm_bltB call_len bm_len z_len (by decide +kernel) (pma_cons (pm_var 0) pma_nil))) (pmw_or (pmt_lt (pm_var 4) pm_int) (pmw_or1 (pmt_ge (pm_var 4) (pm_bltB call_len bm_len z_len (by decide +kernel) (pma_cons (pm_ix (pm_var 0) (pm_var 3)) pma_nil)))))))) (psm_one (psm_ret pm_bl)) psm_nil)
      (psm_one (psm_ret (pm_chain (OpR.or op_le op_le_str) (OpR.or op_le op_le_str) cm_le cm_le mild_le mild_le pm_int (pm_var 5) (pm_bltB call_len bm_len z_len (by decide +kernel) (pma_cons (pm_ix (pm_ix (pm_var 0) (pm_var 3)) (pm_var 4)) pma_nil))))))))))
theorem sc_is_pair : FnScope ["columns", "thing"] ["columns", "thing"] (defScope (topS 26)) := ⟨rfl, rfl, rfl, by decide +kernel, rfl, by decide +kernel, by decide +kernel⟩
set_option maxHeartbeats 4000000 in
theorem ok_is_pair {f : Addr} {fd : FuncData} (F : Fun K "is_pair" "is_pair" (topS 26) f fd) (hm : mg "is_pair" = some (.ref f)) (b : Binds K fd ["columns", "thing"] []) (z_isinstance : mg "isinstance" = none) (z_tuple : mg "tuple" = none) (z_len : mg "len" = none) (d_is_place : ∀ mo, DefOk P w K mg base mo "is_place" 2 2 M.is_place) : ∀ mo, DefOk P w K mg base mo "is_pair" 3 2 M.is_pair := by
  intro mo
  have sc := sc_is_pair
  refine ⟨f, fd, ["columns", "thing"], hm, F.kp, b, fn_m (np := 2) (nl := 0) (k := 2) F sc rfl rfl fun cdv A outer s H E hr => ?_⟩
  have tk := takes_m (m := mo) (X := cxOf (CXm mo P w) P w K mg base ["columns", "thing"] "is_pair" (defScope (topS 26)) f cdv A outer s H E) rfl rfl rfl rfl
  have hp := passes_of (X := cxOf (CXm mo P w) P w K mg base ["columns", "thing"] "is_pair" (defScope (topS 26)) f cdv A outer s H E) rfl
  have hu := hr.units
  have hu65 := hu65_of hr
  exact (psm_cons (psm_if (pmt_w (pmw_or (pmt_not (pmt_tru (pm_is (T := "tuple") is_tuple (pm_var 1) z_isinstance z_tuple (by decide +kernel)))) (pmw_or1 (pmt_ne hu (pm_bltB call_len bm_len z_len (by decide +kernel) (pma_cons (pm_var 1) pma_nil)) pm_int)))) (psm_one (psm_ret pm_bl)) psm_nil)
      (psm_one (psm_ret (pm_and (pm_def (d_is_place mo) tk hr (pma_cons (pm_var 0) (pma_cons (pm_ix (pm_var 1) pm_int) pma_nil)) (amn_cons (amn_cons amn_nil))) (pm_one (pm_def (d_is_place mo) tk hr (pma_cons (pm_var 0) (pma_cons (pm_ix (pm_var 1) pm_int) pma_nil)) (amn_cons (amn_cons amn_nil))))))))
theorem sc_is_shut : FnScope ["columns", "pairs", "held", "pair", "end", "then"] ["columns", "pairs"] (defScope (topS 27)) := ⟨rfl, rfl, rfl, by decide +kernel, rfl, by decide +kernel, by decide +kernel⟩
set_option maxHeartbeats 4000000 in
theorem ok_is_shut {f : Addr} {fd : FuncData} (F : Fun K "is_shut" "is_shut" (topS 27) f fd) (hm : mg "is_shut" = some (.ref f)) (b : Binds K fd ["columns", "pairs"] []) (z_isinstance : mg "isinstance" = none) (z_list : mg "list" = none) (z_len : mg "len" = none) (d_is_pair : ∀ mo, DefOk P w K mg base mo "is_pair" 3 2 M.is_pair) (d_first_pairs : ∀ mo, DefOk P w K mg base mo "first_pairs" 1 1 M.first_pairs) (d_next_pairs : ∀ mo, DefOk P w K mg base mo "next_pairs" 3 2 M.next_pairs) : ∀ mo, DefOk P w K mg base mo "is_shut" 4 2 M.is_shut := by
  intro mo
  have sc := sc_is_shut
  refine ⟨f, fd, ["columns", "pairs"], hm, F.kp, b, fn_m (np := 2) (nl := 4) (k := 3) F sc rfl rfl fun cdv A outer s H E hr => ?_⟩
  have tk := takes_m (m := mo) (X := cxOf (CXm mo P w) P w K mg base ["columns", "pairs", "held", "pair", "end", "then"] "is_shut" (defScope (topS 27)) f cdv A outer s H E) rfl rfl rfl rfl
  have hp := passes_of (X := cxOf (CXm mo P w) P w K mg base ["columns", "pairs", "held", "pair", "end", "then"] "is_shut" (defScope (topS 27)) f cdv A outer s H E) rfl
  have hu := hr.units
  have hu65 := hu65_of hr
  exact (psm_cons (psm_if (pmt_not (pmt_tru (pm_is (T := "list") is_list (pm_var 1) z_isinstance z_list (by decide +kernel)))) (psm_one (psm_ret pm_bl)) psm_nil)
      (psm_cons (psm_set 2 sc.nd pm_dt0)
      (psm_cons (psm_for hp rfl (pmi_any (pm_var 1)) (pg_name (i := 3) sc.nd rfl (by first | exact Or.inl rfl | exact Or.inr rfl)) (put1_ok 3) (psm_cons (psm_if (pmt_not (pmt_tru (pm_def (d_is_pair mo) tk hr (pma_cons (pm_var 0) (pma_cons (pm_var 3) pma_nil)) (amn_cons (amn_cons amn_nil))))) (psm_one (psm_ret pm_bl)) psm_nil)
      (psm_one (psm_putT 2 hu (pm_var 3) pm_bl))))
      (psm_cons (psm_set 4 sc.nd (pm_tup (pma_cons (pm_bltB call_len bm_len z_len (by decide +kernel) (pma_cons (pm_var 0) pma_nil)) (pma_cons pm_int (pma_cons pm_int pma_nil)))))
      (psm_cons (psm_if (pmt_inT hu (pm_tup (pma_cons (pm_var 4) (pma_cons (pm_var 4) pma_nil))) (pm_var 2)) (psm_one (psm_ret pm_bl)) psm_nil)
      (psm_cons (psm_for hp rfl (pmi_any (pm_def (d_first_pairs mo) tk hr (pma_cons (pm_var 0) pma_nil) (amn_cons amn_nil))) (pg_name (i := 3) sc.nd rfl (by first | exact Or.inl rfl | exact Or.inr rfl)) (put1_ok 3) (psm_one (psm_if (pmt_notInT hu (pm_var 3) (pm_var 2)) (psm_one (psm_ret pm_bl)) psm_nil)))
      (psm_cons (psm_for hp rfl (pmi_keysT (pm_var 2)) (pg_name (i := 3) sc.nd rfl (by first | exact Or.inl rfl | exact Or.inr rfl)) (put1_ok 3) (psm_one (psm_for hp rfl (pmi_any (pm_def (d_next_pairs mo) tk hr (pma_cons (pm_var 0) (pma_cons (pm_var 3) pma_nil)) (amn_cons (amn_cons amn_nil)))) (pg_name (i := 5) sc.nd rfl (by first | exact Or.inl rfl | exact Or.inr rfl)) (put1_ok 5) (psm_one (psm_if (pmt_notInT hu (pm_var 5) (pm_var 2)) (psm_one (psm_ret pm_bl)) psm_nil)))))
      (psm_one (psm_ret pm_bl)))))))))
theorem sc__law_cell_at : FnScope ["_law_script", "_law_k"] ["_law_script", "_law_k"] (defScope (topS 29)) := ⟨rfl, rfl, rfl, by decide +kernel, rfl, by decide +kernel, by decide +kernel⟩
set_option maxHeartbeats 4000000 in
theorem ok__law_cell_at {f : Addr} {fd : FuncData} (F : Fun K "_law_cell_at" "_law_cell_at" (topS 29) f fd) (hm : mg "_law_cell_at" = some (.ref f)) (b : Binds K fd ["_law_script", "_law_k"] []) (z_len : mg "len" = none) : ∀ mo, DefOk P w K mg base mo "_law_cell_at" 1 2 M._law_cell_at := by
  intro mo
  have sc := sc__law_cell_at
  refine ⟨f, fd, ["_law_script", "_law_k"], hm, F.kp, b, fn_m (np := 2) (nl := 0) (k := 0) F sc rfl rfl fun cdv A outer s H E hr => ?_⟩
  have tk := takes_m (m := mo) (X := cxOf (CXm mo P w) P w K mg base ["_law_script", "_law_k"] "_law_cell_at" (defScope (topS 29)) f cdv A outer s H E) rfl rfl rfl rfl
  have hp := passes_of (X := cxOf (CXm mo P w) P w K mg base ["_law_script", "_law_k"] "_law_cell_at" (defScope (topS 29)) f cdv A outer s H E) rfl
  have hu := hr.units
  have hu65 := hu65_of hr
  exact (psm_cons (psm_if (pmt_lt (pm_var 1) (pm_bltB call_len bm_len z_len (by decide +kernel) (pma_cons (pm_var 0) pma_nil))) (psm_one (psm_ret (pm_ix (pm_var 0) (pm_var 1)))) psm_nil)
      (psm_one (psm_ret pm_int)))
theorem sc__law_pick : FnScope ["_law_cell", "_law_salt", "_law_many", "_law_one", "_law_two"] ["_law_cell", "_law_salt", "_law_many"] (defScope (topS 31)) := ⟨rfl, rfl, rfl, by decide +kernel, rfl, by decide +kernel, by decide +kernel⟩
set_option maxHeartbeats 4000000 in
theorem ok__law_pick {f : Addr} {fd : FuncData} (F : Fun K "_law_pick" "_law_pick" (topS 31) f fd) (hm : mg "_law_pick" = some (.ref f)) (b : Binds K fd ["_law_cell", "_law_salt", "_law_many"] []) : ∀ mo, DefOk P w K mg base mo "_law_pick" 1 3 M._law_pick := by
  intro mo
  have sc := sc__law_pick
  refine ⟨f, fd, ["_law_cell", "_law_salt", "_law_many"], hm, F.kp, b, fn_m (np := 3) (nl := 2) (k := 0) F sc rfl rfl fun cdv A outer s H E hr => ?_⟩
  have tk := takes_m (m := mo) (X := cxOf (CXm mo P w) P w K mg base ["_law_cell", "_law_salt", "_law_many", "_law_one", "_law_two"] "_law_pick" (defScope (topS 31)) f cdv A outer s H E) rfl rfl rfl rfl
  have hp := passes_of (X := cxOf (CXm mo P w) P w K mg base ["_law_cell", "_law_salt", "_law_many", "_law_one", "_law_two"] "_law_pick" (defScope (topS 31)) f cdv A outer s H E) rfl
  have hu := hr.units
  have hu65 := hu65_of hr
  exact (psm_cons (psm_if (pmt_w (pmw_and (pmt_gt (pm_var 0) (pm_pow pm_int pm_int)) (pmw_and1 (pmt_gt (pm_shr (pm_var 0) (pm_mul pm_int (pm_var 1))) pm_int)))) (psm_one (psm_ret (pm_mod (pm_mod (pm_shr (pm_var 0) (pm_mul pm_int (pm_var 1))) pm_int) (pm_var 2)))) psm_nil)
      (psm_cons (psm_set 3 sc.nd (pm_mod (pm_add (pm_add (pm_mod (pm_var 0) pm_int) pm_int) (pm_mul pm_int (pm_var 1))) pm_int))
      (psm_cons (psm_set 3 sc.nd (pm_mod (pm_mul (pm_var 3) (pm_var 3)) pm_int))
      (psm_cons (psm_set 4 sc.nd (pm_mod (pm_mul (pm_add (pm_var 3) pm_int) (pm_add (pm_add (pm_fdiv (pm_var 3) pm_int) pm_int) (pm_var 1))) pm_int))
      (psm_one (psm_ret (pm_mod (pm_fdiv (pm_var 4) pm_int) (pm_var 2))))))))
theorem sc__law_signs : FnScope [] [] (defScope (topS 32)) := ⟨rfl, rfl, rfl, by decide +kernel, rfl, by decide +kernel, by decide +kernel⟩
set_option maxHeartbeats 4000000 in
theorem ok__law_signs {f : Addr} {fd : FuncData} (F : Fun K "_law_signs" "_law_signs" (topS 32) f fd) (hm : mg "_law_signs" = some (.ref f)) (b : Binds K fd [] []) : ∀ mo, DefOk P w K mg base mo "_law_signs" 1 0 M._law_signs := by
  intro mo
  have sc := sc__law_signs
  refine ⟨f, fd, [], hm, F.kp, b, fn_m (np := 0) (nl := 0) (k := 0) F sc rfl rfl fun cdv A outer s H E hr => ?_⟩
  have tk := takes_m (m := mo) (X := cxOf (CXm mo P w) P w K mg base [] "_law_signs" (defScope (topS 32)) f cdv A outer s H E) rfl rfl rfl rfl
  have hp := passes_of (X := cxOf (CXm mo P w) P w K mg base [] "_law_signs" (defScope (topS 32)) f cdv A outer s H E) rfl
  have hu := hr.units
  have hu65 := hu65_of hr
  exact (psm_one (psm_ret (pm_str (s := [32, 33, 34, 35, 36, 38, 39, 40, 41, 42, 43, 44, 45, 46, 47, 48, 49, 50, 51, 52, 53, 54, 55, 56, 57, 58, 59, 60, 61, 62, 63, 64, 65, 66, 67, 68, 69, 70, 71, 72, 73, 74, 75, 76, 77, 78, 79, 80, 81, 82, 83, 84, 85, 86, 87, 88, 89, 90, 91, 92, 93, 94, 95, 96, 97, 98, 99, 100, 101, 102, 103, 104, 105, 106, 107, 108, 109, 110, 111, 112, 113, 114, 115, 116, 117, 118, 119, 120, 121, 122, 123, 124, 125, 126]) (by decide +kernel))))
theorem sc__law_some_signs : FnScope ["_law_cell", "_law_start"] ["_law_cell"] (defScope (topS 33)) := ⟨rfl, rfl, rfl, by decide +kernel, rfl, by decide +kernel, by decide +kernel⟩
set_option maxHeartbeats 4000000 in
theorem ok__law_some_signs {f : Addr} {fd : FuncData} (F : Fun K "_law_some_signs" "_law_some_signs" (topS 33) f fd) (hm : mg "_law_some_signs" = some (.ref f)) (b : Binds K fd ["_law_cell"] []) (d__law_pick : ∀ mo, DefOk P w K mg base mo "_law_pick" 1 3 M._law_pick) (d__law_signs : ∀ mo, DefOk P w K mg base mo "_law_signs" 1 0 M._law_signs) : ∀ mo, DefOk P w K mg base mo "_law_some_signs" 2 1 M._law_some_signs := by
  intro mo
  have sc := sc__law_some_signs
  refine ⟨f, fd, ["_law_cell"], hm, F.kp, b, fn_m (np := 1) (nl := 1) (k := 1) F sc rfl rfl fun cdv A outer s H E hr => ?_⟩
  have tk := takes_m (m := mo) (X := cxOf (CXm mo P w) P w K mg base ["_law_cell", "_law_start"] "_law_some_signs" (defScope (topS 33)) f cdv A outer s H E) rfl rfl rfl rfl
  have hp := passes_of (X := cxOf (CXm mo P w) P w K mg base ["_law_cell", "_law_start"] "_law_some_signs" (defScope (topS 33)) f cdv A outer s H E) rfl
  have hu := hr.units
  have hu65 := hu65_of hr
  exact (psm_cons (psm_set 1 sc.nd (pm_def (d__law_pick mo) tk hr (pma_cons (pm_var 0) (pma_cons pm_int (pma_cons pm_int pma_nil))) (amn_cons (amn_cons (amn_cons amn_nil)))))
      (psm_one (psm_ret (pm_cut (pm_step (pm_def0 (d__law_signs mo) tk hr) (pm_var 1) (pm_add pm_int (pm_def (d__law_pick mo) tk hr (pma_cons (pm_var 0) (pma_cons pm_int (pma_cons pm_int pma_nil))) (amn_cons (amn_cons (amn_cons amn_nil)))))) pmo_none (pmo_some pm_int)))))
theorem sc__law_cell_text : FnScope ["_law_cell", "_law_salt", "_law_signs_here", "_law_way", "_law_bits", "_law_k"] ["_law_cell", "_law_salt", "_law_signs_here"] (defScope (topS 34)) := ⟨rfl, rfl, rfl, by decide +kernel, rfl, by decide +kernel, by decide +kernel⟩
set_option maxHeartbeats 4000000 in
theorem ok__law_cell_text {f : Addr} {fd : FuncData} (F : Fun K "_law_cell_text" "_law_cell_text" (topS 34) f fd) (hm : mg "_law_cell_text" = some (.ref f)) (b : Binds K fd ["_law_cell", "_law_salt", "_law_signs_here"] []) (z_range : mg "range" = none) (d__law_pick : ∀ mo, DefOk P w K mg base mo "_law_pick" 1 3 M._law_pick) : ∀ mo, DefOk P w K mg base mo "_law_cell_text" 2 3 M._law_cell_text := by
  intro mo
  have sc := sc__law_cell_text
  refine ⟨f, fd, ["_law_cell", "_law_salt", "_law_signs_here"], hm, F.kp, b, fn_m (np := 3) (nl := 3) (k := 1) F sc rfl rfl fun cdv A outer s H E hr => ?_⟩
  have tk := takes_m (m := mo) (X := cxOf (CXm mo P w) P w K mg base ["_law_cell", "_law_salt", "_law_signs_here", "_law_way", "_law_bits", "_law_k"] "_law_cell_text" (defScope (topS 34)) f cdv A outer s H E) rfl rfl rfl rfl
  have hp := passes_of (X := cxOf (CXm mo P w) P w K mg base ["_law_cell", "_law_salt", "_law_signs_here", "_law_way", "_law_bits", "_law_k"] "_law_cell_text" (defScope (topS 34)) f cdv A outer s H E) rfl
  have hu := hr.units
  have hu65 := hu65_of hr
  exact (psm_cons (psm_set 3 sc.nd (pm_def (d__law_pick mo) tk hr (pma_cons (pm_var 0) (pma_cons (pm_var 1) (pma_cons pm_int pma_nil))) (amn_cons (amn_cons (amn_cons amn_nil)))))
      (psm_cons (psm_if (pmt_lt (pm_var 3) pm_int) (psm_one (psm_ret (pm_ix (pm_var 2) (pm_def (d__law_pick mo) tk hr (pma_cons (pm_var 0) (pma_cons (pm_add (pm_var 1) pm_int) (pma_cons pm_int pma_nil))) (amn_cons (amn_cons (amn_cons amn_nil))))))) psm_nil)
      (psm_cons (psm_set 4 sc.nd (pm_add pm_int (pm_def (d__law_pick mo) tk hr (pma_cons (pm_var 0) (pma_cons (pm_add (pm_var 1) pm_int) (pma_cons pm_int pma_nil))) (amn_cons (amn_cons (amn_cons amn_nil))))))
      (psm_one (psm_ret (pm_join (pm_str (s := []) (by decide +kernel)) (pm_lc (own := [("_law_k", 5)]) rfl sc.nd (pmi_r1 pm_int z_range) (blkOk_by (own := [("_law_k", 5)]) (N := ["_law_cell", "_law_salt", "_law_signs_here", "_law_way", "_law_bits", "_law_k"]) (sc := defScope (topS 34)) (by decide +kernel)) (putC1 (by simp)) (fun _ _ _ _ _ => (pg_name (i := 5) sc.nd rfl (by first | exact Or.inl rfl | exact Or.inr rfl))) (fun _ _ _ _ _ => (ptsm_one (pmt_eq hu (pm_and1 (pm_shr (pm_var 4) (pm_var 5)) pm_int) pm_int))) (fun _ _ _ _ _ => (pm_ix (pm_var 2) (pm_var 5))))))))))
theorem sc__law_look : FnScope ["_law_cell", "_law_signs_here", "_law_most", "_law_k"] ["_law_cell", "_law_signs_here", "_law_most"] (defScope (topS 35)) := ⟨rfl, rfl, rfl, by decide +kernel, rfl, by decide +kernel, by decide +kernel⟩
set_option maxHeartbeats 4000000 in
theorem ok__law_look {f : Addr} {fd : FuncData} (F : Fun K "_law_look" "_law_look" (topS 35) f fd) (hm : mg "_law_look" = some (.ref f)) (b : Binds K fd ["_law_cell", "_law_signs_here", "_law_most"] []) (z_range : mg "range" = none) (d__law_pick : ∀ mo, DefOk P w K mg base mo "_law_pick" 1 3 M._law_pick) (d__law_cell_text : ∀ mo, DefOk P w K mg base mo "_law_cell_text" 2 3 M._law_cell_text) : ∀ mo, DefOk P w K mg base mo "_law_look" 3 3 M._law_look := by
  intro mo
  have sc := sc__law_look
  refine ⟨f, fd, ["_law_cell", "_law_signs_here", "_law_most"], hm, F.kp, b, fn_m (np := 3) (nl := 1) (k := 2) F sc rfl rfl fun cdv A outer s H E hr => ?_⟩
  have tk := takes_m (m := mo) (X := cxOf (CXm mo P w) P w K mg base ["_law_cell", "_law_signs_here", "_law_most", "_law_k"] "_law_look" (defScope (topS 35)) f cdv A outer s H E) rfl rfl rfl rfl
  have hp := passes_of (X := cxOf (CXm mo P w) P w K mg base ["_law_cell", "_law_signs_here", "_law_most", "_law_k"] "_law_look" (defScope (topS 35)) f cdv A outer s H E) rfl
  have hu := hr.units
  have hu65 := hu65_of hr
  exact (psm_one (psm_ret (pm_lc (own := [("_law_k", 3)]) rfl sc.nd (pmi_r1 (pm_def (d__law_pick mo) tk hr (pma_cons (pm_var 0) (pma_cons pm_int (pma_cons (pm_add (pm_var 2) pm_int) pma_nil))) (amn_cons (amn_cons (amn_cons amn_nil)))) z_range) (blkOk_by (own := [("_law_k", 3)]) (N := ["_law_cell", "_law_signs_here", "_law_most", "_law_k"]) (sc := defScope (topS 35)) (by decide +kernel)) (putC1 (by simp)) (fun _ _ _ _ _ => (pg_name (i := 3) sc.nd rfl (by first | exact Or.inl rfl | exact Or.inr rfl))) (fun _ _ _ _ _ => ptsm_nil) (fun _ _ _ _ _ => (pm_def (d__law_cell_text mo) tks0 hr (pma_cons (pm_var 0) (pma_cons (pm_add pm_int (pm_mul pm_int (pm_var 3))) (pma_cons (pm_var 1) pma_nil))) (amn_cons (amn_cons (amn_cons amn_nil))))))))
theorem sc__law_columns : FnScope ["_law_script", "_law_most", "_law_signs_here", "_law_many", "_law_columns_here", "_law_c", "_law_looks", "_law_l"] ["_law_script", "_law_most"] (defScope (topS 36)) := ⟨rfl, rfl, rfl, by decide +kernel, rfl, by decide +kernel, by decide +kernel⟩
set_option maxHeartbeats 4000000 in
theorem ok__law_columns {f : Addr} {fd : FuncData} (F : Fun K "_law_columns" "_law_columns" (topS 36) f fd) (hm : mg "_law_columns" = some (.ref f)) (b : Binds K fd ["_law_script", "_law_most"] []) (z_range : mg "range" = none) (d__law_cell_at : ∀ mo, DefOk P w K mg base mo "_law_cell_at" 1 2 M._law_cell_at) (d__law_some_signs : ∀ mo, DefOk P w K mg base mo "_law_some_signs" 2 1 M._law_some_signs) (d__law_pick : ∀ mo, DefOk P w K mg base mo "_law_pick" 1 3 M._law_pick) (d__law_look : ∀ mo, DefOk P w K mg base mo "_law_look" 3 3 M._law_look) : ∀ mo, DefOk P w K mg base mo "_law_columns" 4 2 M._law_columns := by
  intro mo
  have sc := sc__law_columns
  refine ⟨f, fd, ["_law_script", "_law_most"], hm, F.kp, b, fn_m (np := 2) (nl := 6) (k := 3) F sc rfl rfl fun cdv A outer s H E hr => ?_⟩
  have tk := takes_m (m := mo) (X := cxOf (CXm mo P w) P w K mg base ["_law_script", "_law_most", "_law_signs_here", "_law_many", "_law_columns_here", "_law_c", "_law_looks", "_law_l"] "_law_columns" (defScope (topS 36)) f cdv A outer s H E) rfl rfl rfl rfl
  have hp := passes_of (X := cxOf (CXm mo P w) P w K mg base ["_law_script", "_law_most", "_law_signs_here", "_law_many", "_law_columns_here", "_law_c", "_law_looks", "_law_l"] "_law_columns" (defScope (topS 36)) f cdv A outer s H E) rfl
  have hu := hr.units
  have hu65 := hu65_of hr
  exact (psm_cons (psm_set 2 sc.nd (pm_def (d__law_some_signs mo) tk hr (pma_cons (pm_def (d__law_cell_at mo) tk hr (pma_cons (pm_var 0) (pma_cons pm_int pma_nil)) (amn_cons (amn_cons amn_nil))) pma_nil) (amn_cons amn_nil)))
      (psm_cons (psm_set 3 sc.nd (pm_add pm_int (pm_def (d__law_pick mo) tk hr (pma_cons (pm_def (d__law_cell_at mo) tk hr (pma_cons (pm_var 0) (pma_cons pm_int pma_nil)) (amn_cons (amn_cons amn_nil))) (pma_cons pm_int (pma_cons pm_int pma_nil))) (amn_cons (amn_cons (amn_cons amn_nil))))))
      (psm_cons (psm_set 4 sc.nd (pm_lst pma_nil))
      (psm_cons (psm_for hp rfl (pmi_r1 (pm_var 3) z_range) (pg_name (i := 5) sc.nd rfl (by first | exact Or.inl rfl | exact Or.inr rfl)) (put1_ok 5) (psm_cons (psm_set 6 sc.nd (pm_add pm_int (pm_def (d__law_pick mo) tk hr (pma_cons (pm_def (d__law_cell_at mo) tk hr (pma_cons (pm_var 0) (pma_cons pm_int pma_nil)) (amn_cons (amn_cons amn_nil))) (pma_cons (pm_add pm_int (pm_var 5)) (pma_cons (pm_ix (pm_lst (pma_cons pm_int (pma_cons pm_int (pma_cons pm_int (pma_cons pm_int pma_nil))))) (pm_sub (pm_var 3) pm_int)) pma_nil))) (amn_cons (amn_cons (amn_cons amn_nil))))))
      (psm_one (psm_app 4 (pm_lc (own := [("_law_l", 7)]) rfl sc.nd (pmi_r1 (pm_var 6) z_range) (blkOk_by (own := [("_law_l", 7)]) (N := ["_law_script", "_law_most", "_law_signs_here", "_law_many", "_law_columns_here", "_law_c", "_law_looks", "_law_l"]) (sc := defScope (topS 36)) (by decide +kernel)) (putC1 (by simp)) (fun _ _ _ _ _ => (pg_name (i := 7) sc.nd rfl (by first | exact Or.inl rfl | exact Or.inr rfl))) (fun _ _ _ _ _ => ptsm_nil) (fun _ _ _ _ _ => (pm_def (d__law_look mo) tks0 hr (pma_cons (pm_def (d__law_cell_at mo) tks0 hr (pma_cons (pm_var 0) (pma_cons (pm_add (pm_add pm_int (pm_mul pm_int (pm_var 5))) (pm_var 7)) pma_nil)) (amn_cons (amn_cons amn_nil))) (pma_cons (pm_var 2) (pma_cons (pm_var 1) pma_nil))) (amn_cons (amn_cons (amn_cons amn_nil))))))))))
      (psm_one (psm_ret (pm_var 4)))))))
theorem sc__law_copy : FnScope ["_law_columns_here", "_law_look_here", "_law_looks"] ["_law_columns_here"] (defScope (topS 37)) := ⟨rfl, rfl, rfl, by decide +kernel, rfl, by decide +kernel, by decide +kernel⟩
set_option maxHeartbeats 4000000 in
theorem ok__law_copy {f : Addr} {fd : FuncData} (F : Fun K "_law_copy" "_law_copy" (topS 37) f fd) (hm : mg "_law_copy" = some (.ref f)) (b : Binds K fd ["_law_columns_here"] []) (z_list : mg "list" = none) : ∀ mo, DefOk P w K mg base mo "_law_copy" 1 1 M._law_copy := by
  intro mo
  have sc := sc__law_copy
  refine ⟨f, fd, ["_law_columns_here"], hm, F.kp, b, fn_m (np := 1) (nl := 2) (k := 0) F sc rfl rfl fun cdv A outer s H E hr => ?_⟩
  have tk := takes_m (m := mo) (X := cxOf (CXm mo P w) P w K mg base ["_law_columns_here", "_law_look_here", "_law_looks"] "_law_copy" (defScope (topS 37)) f cdv A outer s H E) rfl rfl rfl rfl
  have hp := passes_of (X := cxOf (CXm mo P w) P w K mg base ["_law_columns_here", "_law_look_here", "_law_looks"] "_law_copy" (defScope (topS 37)) f cdv A outer s H E) rfl
  have hu := hr.units
  have hu65 := hu65_of hr
  exact (psm_one (psm_ret (pm_lc (own := [("_law_looks", 2)]) rfl sc.nd (pmi_any (pm_var 0)) (blkOk_by (own := [("_law_looks", 2)]) (N := ["_law_columns_here", "_law_look_here", "_law_looks"]) (sc := defScope (topS 37)) (by decide +kernel)) (putC1 (by simp)) (fun _ _ _ _ _ => (pg_name (i := 2) sc.nd rfl (by first | exact Or.inl rfl | exact Or.inr rfl))) (fun _ _ _ _ _ => ptsm_nil) (fun _ _ _ _ _ => (pm_lc (own := [("_law_look_here", 1)]) rfl sc.nd (pmi_any (pm_var 2)) (by dsimp only [L2.Cx.blk, PySem.compEnvC, L2.cxOf]; rw [relabel_nofree (by decide +kernel)]; exact blkOk_by (by decide +kernel)) (putC1 (by simp)) (fun _ _ _ _ _ => (pg_name (i := 1) sc.nd rfl (by first | exact Or.inl rfl | exact Or.inr rfl))) (fun _ _ _ _ _ => ptsm_nil) (fun _ _ _ _ _ => (pm_list z_list (pma_cons (pm_var 1) pma_nil))))))))
theorem sc__law_behind : FnScope ["_law_columns_here", "_law_place", "_law_c", "_law_l", "_law_q", "_law_k"] ["_law_columns_here", "_law_place"] (defScope (topS 38)) := ⟨rfl, rfl, rfl, by decide +kernel, rfl, by decide +kernel, by decide +kernel⟩
set_option maxHeartbeats 4000000 in
theorem ok__law_behind {f : Addr} {fd : FuncData} (F : Fun K "_law_behind" "_law_behind" (topS 38) f fd) (hm : mg "_law_behind" = some (.ref f)) (b : Binds K fd ["_law_columns_here", "_law_place"] []) (z_len : mg "len" = none) (z_range : mg "range" = none) : ∀ mo, DefOk P w K mg base mo "_law_behind" 1 2 M._law_behind := by
  intro mo
  have sc := sc__law_behind
  refine ⟨f, fd, ["_law_columns_here", "_law_place"], hm, F.kp, b, fn_m (np := 2) (nl := 4) (k := 0) F sc rfl rfl fun cdv A outer s H E hr => ?_⟩
  have tk := takes_m (m := mo) (X := cxOf (CXm mo P w) P w K mg base ["_law_columns_here", "_law_place", "_law_c", "_law_l", "_law_q", "_law_k"] "_law_behind" (defScope (topS 38)) f cdv A outer s H E) rfl rfl rfl rfl
  have hp := passes_of (X := cxOf (CXm mo P w) P w K mg base ["_law_columns_here", "_law_place", "_law_c", "_law_l", "_law_q", "_law_k"] "_law_behind" (defScope (topS 38)) f cdv A outer s H E) rfl
  have hu := hr.units
  have hu65 := hu65_of hr
  exact (psm_cons (psm_unp (is := [2, 3, 4]) (pm_var 1) rfl (pg_tup (n := 3) rfl (pgs_cons (pg_name (i := 2) sc.nd rfl (by first | exact Or.inl rfl | exact Or.inr rfl)) (pgs_cons (pg_name (i := 3) sc.nd rfl (by first | exact Or.inl rfl | exact Or.inr rfl)) (pgs_cons (pg_name (i := 4) sc.nd rfl (by first | exact Or.inl rfl | exact Or.inr rfl)) pgs_nil)))))
      (psm_cons (psm_if (pmt_w (pmw_or (pmt_eq hu (pm_var 2) (pm_bltB call_len bm_len z_len (by decide +kernel) (pma_cons (pm_var 0) pma_nil))) (pmw_or1 (pmt_lt (pm_var 4) (pm_bltB call_len bm_len z_len (by decide +kernel) (pma_cons (pm_ix (pm_ix (pm_var 0) (pm_var 2)) (pm_var 3)) pma_nil)))))) (psm_one (psm_ret (pm_lst pma_nil))) psm_nil)
      (psm_cons (psm_if (pmt_eq hu (pm_add (pm_var 2) pm_int) (pm_bltB call_len bm_len z_len (by decide +kernel) (pma_cons (pm_var 0) pma_nil))) (psm_one (psm_ret (pm_lst (pma_cons (pm_tup (pma_cons (pm_add (pm_var 2) pm_int) (pma_cons pm_int (pma_cons pm_int pma_nil)))) pma_nil)))) psm_nil)
      (psm_one (psm_ret (pm_lc (own := [("_law_k", 5)]) rfl sc.nd (pmi_r1 (pm_bltB call_len bm_len z_len (by decide +kernel) (pma_cons (pm_ix (pm_var 0) (pm_add (pm_var 2) pm_int)) pma_nil)) z_range) (blkOk_by (own := [("_law_k", 5)]) (N := ["_law_columns_here", "_law_place", "_law_c", "_law_l", "_law_q", "_law_k"]) (sc := defScope (topS 38)) (by decide +kernel)) (putC1 (by simp)) (fun _ _ _ _ _ => (pg_name (i := 5) sc.nd rfl (by first | exact Or.inl rfl | exact Or.inr rfl))) (fun _ _ _ _ _ => ptsm_nil) (fun _ _ _ _ _ => (pm_tup (pma_cons (pm_add (pm_var 2) pm_int) (pma_cons (pm_var 5) (pma_cons pm_int pma_nil)))))))))))
theorem sc__law_share : FnScope ["_law_columns_here", "_law_one", "_law_other", "_law_left", "_law_right", "_law_sign"] ["_law_columns_here", "_law_one", "_law_other"] (defScope (topS 39)) := ⟨rfl, rfl, rfl, by decide +kernel, rfl, by decide +kernel, by decide +kernel⟩
set_option maxHeartbeats 4000000 in
theorem ok__law_share {f : Addr} {fd : FuncData} (F : Fun K "_law_share" "_law_share" (topS 39) f fd) (hm : mg "_law_share" = some (.ref f)) (b : Binds K fd ["_law_columns_here", "_law_one", "_law_other"] []) (z_len : mg "len" = none) : ∀ mo, DefOk P w K mg base mo "_law_share" 1 3 M._law_share := by
  intro mo
  have sc := sc__law_share
  refine ⟨f, fd, ["_law_columns_here", "_law_one", "_law_other"], hm, F.kp, b, fn_m (np := 3) (nl := 3) (k := 0) F sc rfl rfl fun cdv A outer s H E hr => ?_⟩
  have tk := takes_m (m := mo) (X := cxOf (CXm mo P w) P w K mg base ["_law_columns_here", "_law_one", "_law_other", "_law_left", "_law_right", "_law_sign"] "_law_share" (defScope (topS 39)) f cdv A outer s H E) rfl rfl rfl rfl
  have hp := passes_of (X := cxOf (CXm mo P w) P w K mg base ["_law_columns_here", "_law_one", "_law_other", "_law_left", "_law_right", "_law_sign"] "_law_share" (defScope (topS 39)) f cdv A outer s H E) rfl
  have hu := hr.units
  have hu65 := hu65_of hr
  exact (psm_cons (psm_if (pmt_w (pmw_or (pmt_eq hu (pm_ix (pm_var 1) pm_int) (pm_bltB call_len bm_len z_len (by decide +kernel) (pma_cons (pm_var 0) pma_nil))) (pmw_or1 (pmt_eq hu (pm_ix (pm_var 2) pm_int) (pm_bltB call_len bm_len z_len (by decide +kernel) (pma_cons (pm_var 0) pma_nil)))))) (psm_one (psm_ret pm_bl)) psm_nil)
      (psm_cons (psm_set 3 sc.nd (pm_ix (pm_ix (pm_var 0) (pm_ix (pm_var 1) pm_int)) (pm_ix (pm_var 1) pm_int)))
      (psm_cons (psm_set 4 sc.nd (pm_ix (pm_ix (pm_var 0) (pm_ix (pm_var 2) pm_int)) (pm_ix (pm_var 2) pm_int)))
      (psm_cons (psm_if (pmt_w (pmw_or (pmt_eq hu (pm_ix (pm_var 1) pm_int) (pm_bltB call_len bm_len z_len (by decide +kernel) (pma_cons (pm_var 3) pma_nil))) (pmw_or1 (pmt_eq hu (pm_ix (pm_var 2) pm_int) (pm_bltB call_len bm_len z_len (by decide +kernel) (pma_cons (pm_var 4) pma_nil)))))) (psm_one (psm_ret pm_bl)) psm_nil)
      (psm_one (psm_ret (pm_ne hu (pm_lc (own := [("_law_sign", 5)]) rfl sc.nd (pmi_any (pm_ix (pm_var 3) (pm_ix (pm_var 1) pm_int))) (blkOk_by (own := [("_law_sign", 5)]) (N := ["_law_columns_here", "_law_one", "_law_other", "_law_left", "_law_right", "_law_sign"]) (sc := defScope (topS 39)) (by decide +kernel)) (putC1 (by simp)) (fun _ _ _ _ _ => (pg_name (i := 5) sc.nd rfl (by first | exact Or.inl rfl | exact Or.inr rfl))) (fun _ _ _ _ _ => (ptsm_one (pmt_in hu65 (pm_var 5) (pm_ix (pm_var 4) (pm_ix (pm_var 2) pm_int))))) (fun _ _ _ _ _ => (pm_var 5))) (pm_lst pma_nil))))))))
theorem sc__law_next : FnScope ["_law_columns_here", "_law_pair", "_law_one", "_law_other", "_law_found", "_law_place"] ["_law_columns_here", "_law_pair"] (defScope (topS 40)) := ⟨rfl, rfl, rfl, by decide +kernel, rfl, by decide +kernel, by decide +kernel⟩
set_option maxHeartbeats 4000000 in
theorem ok__law_next {f : Addr} {fd : FuncData} (F : Fun K "_law_next" "_law_next" (topS 40) f fd) (hm : mg "_law_next" = some (.ref f)) (b : Binds K fd ["_law_columns_here", "_law_pair"] []) (z_sorted : mg "sorted" = none) (d__law_behind : ∀ mo, DefOk P w K mg base mo "_law_behind" 1 2 M._law_behind) (d__law_share : ∀ mo, DefOk P w K mg base mo "_law_share" 1 3 M._law_share) : ∀ mo, DefOk P w K mg base mo "_law_next" 2 2 M._law_next := by
  intro mo
  have sc := sc__law_next
  refine ⟨f, fd, ["_law_columns_here", "_law_pair"], hm, F.kp, b, fn_m (np := 2) (nl := 4) (k := 1) F sc rfl rfl fun cdv A outer s H E hr => ?_⟩
  have tk := takes_m (m := mo) (X := cxOf (CXm mo P w) P w K mg base ["_law_columns_here", "_law_pair", "_law_one", "_law_other", "_law_found", "_law_place"] "_law_next" (defScope (topS 40)) f cdv A outer s H E) rfl rfl rfl rfl
  have hp := passes_of (X := cxOf (CXm mo P w) P w K mg base ["_law_columns_here", "_law_pair", "_law_one", "_law_other", "_law_found", "_law_place"] "_law_next" (defScope (topS 40)) f cdv A outer s H E) rfl
  have hu := hr.units
  have hu65 := hu65_of hr
  exact (psm_cons (psm_unp (is := [2, 3]) (pm_var 1) rfl (pg_tup (n := 2) rfl (pgs_cons (pg_name (i := 2) sc.nd rfl (by first | exact Or.inl rfl | exact Or.inr rfl)) (pgs_cons (pg_name (i := 3) sc.nd rfl (by first | exact Or.inl rfl | exact Or.inr rfl)) pgs_nil))))
      (psm_cons (psm_setLc (own := [("_law_place", 5)]) 4 rfl sc.nd (sw_true rfl rfl rfl (by decide +kernel)) (pmi_any (pm_def (d__law_behind mo) tk hr (pma_cons (pm_var 0) (pma_cons (pm_var 2) pma_nil)) (amn_cons (amn_cons amn_nil)))) (blkOk_by (own := [("_law_place", 5)]) (N := ["_law_columns_here", "_law_pair", "_law_one", "_law_other", "_law_found", "_law_place"]) (sc := defScope (topS 40)) (by decide +kernel)) (putC1 (by simp)) (fun _ _ _ _ _ => (pg_name (i := 5) sc.nd rfl (by first | exact Or.inl rfl | exact Or.inr rfl))) (fun _ _ _ _ _ => ptsm_nil) (fun _ _ _ _ _ => (pm_tup (pma_cons (pm_var 5) (pma_cons (pm_var 3) pma_nil)))))
      (psm_cons (psm_set 4 sc.nd (pm_add (pm_var 4) (pm_lc (own := [("_law_place", 5)]) rfl sc.nd (pmi_any (pm_def (d__law_behind mo) tk hr (pma_cons (pm_var 0) (pma_cons (pm_var 3) pma_nil)) (amn_cons (amn_cons amn_nil)))) (blkOk_by (own := [("_law_place", 5)]) (N := ["_law_columns_here", "_law_pair", "_law_one", "_law_other", "_law_found", "_law_place"]) (sc := defScope (topS 40)) (by decide +kernel)) (putC1 (by simp)) (fun _ _ _ _ _ => (pg_name (i := 5) sc.nd rfl (by first | exact Or.inl rfl | exact Or.inr rfl))) (fun _ _ _ _ _ => ptsm_nil) (fun _ _ _ _ _ => (pm_tup (pma_cons (pm_var 2) (pma_cons (pm_var 5) pma_nil)))))))
      (psm_cons (psm_if (pmt_tru (pm_def (d__law_share mo) tk hr (pma_cons (pm_var 0) (pma_cons (pm_var 2) (pma_cons (pm_var 3) pma_nil))) (amn_cons (amn_cons (amn_cons amn_nil))))) (psm_one (psm_app 4 (pm_tup (pma_cons (pm_tup (pma_cons (pm_ix (pm_var 2) pm_int) (pma_cons (pm_ix (pm_var 2) pm_int) (pma_cons (pm_add (pm_ix (pm_var 2) pm_int) pm_int) pma_nil)))) (pma_cons (pm_tup (pma_cons (pm_ix (pm_var 3) pm_int) (pma_cons (pm_ix (pm_var 3) pm_int) (pma_cons (pm_add (pm_ix (pm_var 3) pm_int) pm_int) pma_nil)))) pma_nil))))) psm_nil)
      (psm_one (psm_ret (pm_sortT hu rfl z_sorted (pm_var 4))))))))
theorem sc__law_first : FnScope ["_law_columns_here", "_law_found", "_law_c", "_law_l", "_law_k"] ["_law_columns_here"] (defScope (topS 41)) := ⟨rfl, rfl, rfl, by decide +kernel, rfl, by decide +kernel, by decide +kernel⟩
set_option maxHeartbeats 4000000 in
theorem ok__law_first {f : Addr} {fd : FuncData} (F : Fun K "_law_first" "_law_first" (topS 41) f fd) (hm : mg "_law_first" = some (.ref f)) (b : Binds K fd ["_law_columns_here"] []) (z_len : mg "len" = none) (z_range : mg "range" = none) : ∀ mo, DefOk P w K mg base mo "_law_first" 1 1 M._law_first := by
  intro mo
  have sc := sc__law_first
  refine ⟨f, fd, ["_law_columns_here"], hm, F.kp, b, fn_m (np := 1) (nl := 4) (k := 0) F sc rfl rfl fun cdv A outer s H E hr => ?_⟩
  have tk := takes_m (m := mo) (X := cxOf (CXm mo P w) P w K mg base ["_law_columns_here", "_law_found", "_law_c", "_law_l", "_law_k"] "_law_first" (defScope (topS 41)) f cdv A outer s H E) rfl rfl rfl rfl
  have hp := passes_of (X := cxOf (CXm mo P w) P w K mg base ["_law_columns_here", "_law_found", "_law_c", "_law_l", "_law_k"] "_law_first" (defScope (topS 41)) f cdv A outer s H E) rfl
  have hu := hr.units
  have hu65 := hu65_of hr
  exact (psm_cons (psm_set 1 sc.nd (pm_lst pma_nil))
      (psm_cons (psm_for hp rfl (pmi_r1 (pm_bltB call_len bm_len z_len (by decide +kernel) (pma_cons (pm_var 0) pma_nil)) z_range) (pg_name (i := 2) sc.nd rfl (by first | exact Or.inl rfl | exact Or.inr rfl)) (put1_ok 2) (psm_one (psm_for hp rfl (pmi_r1 (pm_bltB call_len bm_len z_len (by decide +kernel) (pma_cons (pm_ix (pm_var 0) (pm_var 2)) pma_nil)) z_range) (pg_name (i := 3) sc.nd rfl (by first | exact Or.inl rfl | exact Or.inr rfl)) (put1_ok 3) (psm_one (psm_ext 1 (pm_lc (own := [("_law_k", 4)]) rfl sc.nd (pmi_r2 (pm_add (pm_var 3) pm_int) (pm_bltB call_len bm_len z_len (by decide +kernel) (pma_cons (pm_ix (pm_var 0) (pm_var 2)) pma_nil)) z_range) (blkOk_by (own := [("_law_k", 4)]) (N := ["_law_columns_here", "_law_found", "_law_c", "_law_l", "_law_k"]) (sc := defScope (topS 41)) (by decide +kernel)) (putC1 (by simp)) (fun _ _ _ _ _ => (pg_name (i := 4) sc.nd rfl (by first | exact Or.inl rfl | exact Or.inr rfl))) (fun _ _ _ _ _ => ptsm_nil) (fun _ _ _ _ _ => (pm_tup (pma_cons (pm_tup (pma_cons (pm_var 2) (pma_cons (pm_var 3) (pma_cons pm_int pma_nil)))) (pma_cons (pm_tup (pma_cons (pm_var 2) (pma_cons (pm_var 4) (pma_cons pm_int pma_nil)))) pma_nil))))))))))
      (psm_one (psm_ret (pm_var 1)))))
theorem sc__law_come : FnScope ["_law_columns_here", "_law_held", "_law_row", "_law_pair"] ["_law_columns_here"] (defScope (topS 42)) := ⟨rfl, rfl, rfl, by decide +kernel, rfl, by decide +kernel, by decide +kernel⟩
set_option maxHeartbeats 4000000 in
theorem ok__law_come {f : Addr} {fd : FuncData} (F : Fun K "_law_come" "_law_come" (topS 42) f fd) (hm : mg "_law_come" = some (.ref f)) (b : Binds K fd ["_law_columns_here"] []) (z_sorted : mg "sorted" = none) (d__law_first : ∀ mo, DefOk P w K mg base mo "_law_first" 1 1 M._law_first) (d__law_next : ∀ mo, DefOk P w K mg base mo "_law_next" 2 2 M._law_next) : ∀ mo, DefOk P w K mg base mo "_law_come" 3 1 M._law_come := by
  intro mo
  have sc := sc__law_come
  refine ⟨f, fd, ["_law_columns_here"], hm, F.kp, b, fn_m (np := 1) (nl := 3) (k := 2) F sc rfl rfl fun cdv A outer s H E hr => ?_⟩
  have tk := takes_m (m := mo) (X := cxOf (CXm mo P w) P w K mg base ["_law_columns_here", "_law_held", "_law_row", "_law_pair"] "_law_come" (defScope (topS 42)) f cdv A outer s H E) rfl rfl rfl rfl
  have hp := passes_of (X := cxOf (CXm mo P w) P w K mg base ["_law_columns_here", "_law_held", "_law_row", "_law_pair"] "_law_come" (defScope (topS 42)) f cdv A outer s H E) rfl
  have hu := hr.units
  have hu65 := hu65_of hr
  exact (psm_cons (psm_set 1 sc.nd pm_dt0)
      (psm_cons (psm_set 2 sc.nd (pm_def (d__law_first mo) tk hr (pma_cons (pm_var 0) pma_nil) (amn_cons amn_nil)))
      (psm_cons (psm_while fuel hp (pmt_ne hu (pm_var 2) (pm_lst pma_nil)) (psm_cons (psm_pop 3 2 sc.nd)
      (psm_one (psm_if (pmt_notInT hu (pm_var 3) (pm_var 1)) (psm_cons (psm_putT 1 hu (pm_var 3) pm_bl)
      (psm_one (psm_ext 2 (pm_def (d__law_next mo) tk hr (pma_cons (pm_var 0) (pma_cons (pm_var 3) pma_nil)) (amn_cons (amn_cons amn_nil)))))) psm_nil))))
      (psm_one (psm_ret (pm_sortT hu rfl z_sorted (pm_var 1)))))))
theorem sc_law : FnScope ["_law_script", "_law_columns_here", "_law_end", "_law_pairs", "_law_told", "_law_less", "_law_pair"] ["_law_script"] (defScope (topS 43)) := ⟨rfl, rfl, rfl, by decide +kernel, rfl, by decide +kernel, by decide +kernel⟩
set_option maxHeartbeats 4000000 in
theorem fnok_law {f : Addr} {fd : FuncData} (F : Fun K "law" "law" (topS 43) f fd) (z_len : mg "len" = none) (d__law_columns : ∀ mo, DefOk P w K mg base mo "_law_columns" 4 2 M._law_columns) (d__law_come : ∀ mo, DefOk P w K mg base mo "_law_come" 3 1 M._law_come) (d__law_copy : ∀ mo, DefOk P w K mg base mo "_law_copy" 1 1 M._law_copy) (d_judged : ∀ mo, DefOk P w K mg base mo "judged" 5 1 M.judged) (d_is_shut : ∀ mo, DefOk P w K mg base mo "is_shut" 4 2 M.is_shut) : FnOk P w K mg base (CXm false P w) 6 f fd ["_law_script"] (spM K mg 1 M.law) := by
  have sc := sc_law
  refine fn_m (np := 1) (nl := 6) (k := 5) F sc rfl rfl fun cdv A outer s H E hr => ?_
  have tk := takes_m (m := false) (X := cxOf (CXm false P w) P w K mg base ["_law_script", "_law_columns_here", "_law_end", "_law_pairs", "_law_told", "_law_less", "_law_pair"] "law" (defScope (topS 43)) f cdv A outer s H E) rfl rfl rfl rfl
  have hp := passes_of (X := cxOf (CXm false P w) P w K mg base ["_law_script", "_law_columns_here", "_law_end", "_law_pairs", "_law_told", "_law_less", "_law_pair"] "law" (defScope (topS 43)) f cdv A outer s H E) rfl
  have hu := hr.units
  have hu65 := hu65_of hr
  exact (psm_cons (psm_set 1 sc.nd (pm_def (d__law_columns false) tk hr (pma_cons (pm_var 0) (pma_cons pm_int pma_nil)) (amn_cons (amn_cons amn_nil))))
      (psm_frz 1 (psm_cons (psm_set 2 sc.nd (pm_tup (pma_cons (pm_bltB call_len bm_len z_len (by decide +kernel) (pma_cons (pm_var 1) pma_nil)) (pma_cons pm_int (pma_cons pm_int pma_nil)))))
      (psm_cons (psm_set 3 sc.nd (pm_def (d__law_come false) tk hr (pma_cons (pm_var 1) pma_nil) (amn_cons amn_nil)))
      (psm_frz 3 (psm_cons (psm_set 4 sc.nd (pm_def (d_judged false) tk hr (pma_cons (pm_def (d__law_copy false) tk hr (pma_cons (pm_var 1) pma_nil) (amn_cons amn_nil)) pma_nil) (amn_cons amn_nil)))
      (psm_cons (psm_if (pmt_notIn hu65 (pm_tup (pma_cons (pm_var 2) (pma_cons (pm_var 2) pma_nil))) (pm_var 3)) (psm_one (psm_ret (pm_and (pm_eq hu (pm_var 4) (pm_tup (pma_cons (pm_str (s := [111, 110, 101]) (by decide +kernel)) (pma_cons (pm_var 3) pma_nil)))) (pm_one (pm_isB (pm_def (d_is_shut false) tk hr (pma_cons (pm_def (d__law_copy false) tk hr (pma_cons (pm_var 1) pma_nil) (amn_cons amn_nil)) (pma_cons (pm_ix (pm_var 4) pm_int) pma_nil)) (amn_cons (amn_cons amn_nil))) pm_bl))))) psm_nil)
      (psm_cons (psm_setLc (own := [("_law_pair", 6)]) 5 rfl sc.nd (sw_true rfl rfl rfl (by decide +kernel)) (pmi_any (pm_var 3)) (blkOk_by (own := [("_law_pair", 6)]) (N := ["_law_script", "_law_columns_here", "_law_end", "_law_pairs", "_law_told", "_law_less", "_law_pair"]) (sc := defScope (topS 43)) (by decide +kernel)) (putC1 (by simp)) (fun _ _ _ _ _ => (pg_name (i := 6) sc.nd rfl (by first | exact Or.inl rfl | exact Or.inr rfl))) (fun _ _ _ _ _ => (ptsm_one (pmt_ne hu (pm_var 6) (pm_tup (pma_cons (pm_var 2) (pma_cons (pm_var 2) pma_nil)))))) (fun _ _ _ _ _ => (pm_var 6)))
      (psm_one (psm_ret (pm_and (pm_eq hu (pm_ix (pm_var 4) pm_int) (pm_str (s := [116, 119, 111]) (by decide +kernel))) (pm_and (pm_isB (pm_def (d_is_shut false) tk hr (pma_cons (pm_var 1) (pma_cons (pm_var 3) pma_nil)) (amn_cons (amn_cons amn_nil))) pm_bl) (pm_one (pm_isB (pm_def (d_is_shut false) tk hr (pma_cons (pm_var 1) (pma_cons (pm_var 5) pma_nil)) (amn_cons (amn_cons amn_nil))) pm_bl))))))))))))))
end
end Wk
end

section
set_option Elab.async false
set_option linter.all false
set_option maxRecDepth 100000
namespace Wk
open PySem PySem.Spec L2 TL Dm M
set_option maxHeartbeats 40000000 in
theorem all_mk {l : PySem.W.OpenLaw} {w : World} {K : PySem.W.Frag} {h : Heap} {mg : Str → Option Value} {fa : Addr} (X : K.In h) (G : h.Ns mainGlobals mg) (hfa : mg "law" = some (.ref fa))
    (true_law : ∀ ns : List Int, ns.length ≤ 63 → M.law [.seq .rol (ns.map .int)] = .ok (.bl true, false))
    {f0 : Addr} {od0 an0 : Option Addr} {sl0 : Array (Option Value)} {oc0 kV0 dc0 pm0 cd0 ct0 : Value}
    {f1 : Addr} {od1 an1 : Option Addr} {sl1 : Array (Option Value)} {oc1 kV1 dc1 pm1 cd1 ct1 : Value}
    {f2 : Addr} {od2 an2 : Option Addr} {sl2 : Array (Option Value)} {oc2 kV2 dc2 pm2 cd2 ct2 : Value}
    {f3 : Addr} {od3 an3 : Option Addr} {sl3 : Array (Option Value)} {oc3 kV3 dc3 pm3 cd3 ct3 : Value}
    {f4 : Addr} {od4 an4 : Option Addr} {sl4 : Array (Option Value)} {oc4 kV4 dc4 pm4 cd4 ct4 : Value}
    {f5 : Addr} {od5 an5 : Option Addr} {sl5 : Array (Option Value)} {oc5 kV5 dc5 pm5 cd5 ct5 : Value}
    {f6 : Addr} {od6 an6 : Option Addr} {sl6 : Array (Option Value)} {oc6 kV6 dc6 pm6 cd6 ct6 : Value}
    {f7 : Addr} {od7 an7 : Option Addr} {sl7 : Array (Option Value)} {oc7 kV7 dc7 pm7 cd7 ct7 : Value}
    {f8 : Addr} {od8 an8 : Option Addr} {sl8 : Array (Option Value)} {oc8 kV8 dc8 pm8 cd8 ct8 : Value}
    {f9 : Addr} {od9 an9 : Option Addr} {sl9 : Array (Option Value)} {oc9 kV9 dc9 pm9 cd9 ct9 : Value}
    {f10 : Addr} {od10 an10 : Option Addr} {sl10 : Array (Option Value)} {oc10 kV10 dc10 pm10 cd10 ct10 : Value}
    {f11 : Addr} {od11 an11 : Option Addr} {sl11 : Array (Option Value)} {oc11 kV11 dc11 pm11 cd11 ct11 : Value}
    {f12 : Addr} {od12 an12 : Option Addr} {sl12 : Array (Option Value)} {oc12 kV12 dc12 pm12 cd12 ct12 : Value}
    {f13 : Addr} {od13 an13 : Option Addr} {sl13 : Array (Option Value)} {oc13 kV13 dc13 pm13 cd13 ct13 : Value}
    {f14 : Addr} {od14 an14 : Option Addr} {sl14 : Array (Option Value)} {oc14 kV14 dc14 pm14 cd14 ct14 : Value}
    {f15 : Addr} {od15 an15 : Option Addr} {sl15 : Array (Option Value)} {oc15 kV15 dc15 pm15 cd15 ct15 : Value}
    {f16 : Addr} {od16 an16 : Option Addr} {sl16 : Array (Option Value)} {oc16 kV16 dc16 pm16 cd16 ct16 : Value}
    {f17 : Addr} {od17 an17 : Option Addr} {sl17 : Array (Option Value)} {oc17 kV17 dc17 pm17 cd17 ct17 : Value}
    {f18 : Addr} {od18 an18 : Option Addr} {sl18 : Array (Option Value)} {oc18 kV18 dc18 pm18 cd18 ct18 : Value}
    {f19 : Addr} {od19 an19 : Option Addr} {sl19 : Array (Option Value)} {oc19 kV19 dc19 pm19 cd19 ct19 : Value}
    {f20 : Addr} {od20 an20 : Option Addr} {sl20 : Array (Option Value)} {oc20 kV20 dc20 pm20 cd20 ct20 : Value}
    {f21 : Addr} {od21 an21 : Option Addr} {sl21 : Array (Option Value)} {oc21 kV21 dc21 pm21 cd21 ct21 : Value}
    {f22 : Addr} {od22 an22 : Option Addr} {sl22 : Array (Option Value)} {oc22 kV22 dc22 pm22 cd22 ct22 : Value}
    {f23 : Addr} {od23 an23 : Option Addr} {sl23 : Array (Option Value)} {oc23 kV23 dc23 pm23 cd23 ct23 : Value}
    {f24 : Addr} {od24 an24 : Option Addr} {sl24 : Array (Option Value)} {oc24 kV24 dc24 pm24 cd24 ct24 : Value}
    {f25 : Addr} {od25 an25 : Option Addr} {sl25 : Array (Option Value)} {oc25 kV25 dc25 pm25 cd25 ct25 : Value}
    {f26 : Addr} {od26 an26 : Option Addr} {sl26 : Array (Option Value)} {oc26 kV26 dc26 pm26 cd26 ct26 : Value}
    {f27 : Addr} {od27 an27 : Option Addr} {sl27 : Array (Option Value)} {oc27 kV27 dc27 pm27 cd27 ct27 : Value}
    {f28 : Addr} {od28 an28 : Option Addr} {sl28 : Array (Option Value)} {oc28 kV28 dc28 pm28 cd28 ct28 : Value}
    {f29 : Addr} {od29 an29 : Option Addr} {sl29 : Array (Option Value)} {oc29 kV29 dc29 pm29 cd29 ct29 : Value}
    {f30 : Addr} {od30 an30 : Option Addr} {sl30 : Array (Option Value)} {oc30 kV30 dc30 pm30 cd30 ct30 : Value}
    {f31 : Addr} {od31 an31 : Option Addr} {sl31 : Array (Option Value)} {oc31 kV31 dc31 pm31 cd31 ct31 : Value}
    {f32 : Addr} {od32 an32 : Option Addr} {sl32 : Array (Option Value)} {oc32 kV32 dc32 pm32 cd32 ct32 : Value}
    {t_MOST_PLACES : Tok}
    (a0 : PySem.W.nsIn K mainGlobals "is_whole" = some (some (.ref f0))) (l0 : K.lookup f0 = some ⟨oc0, od0, .func (PySem.W.fnOf "is_whole" "is_whole" (defArgs (topS 4)) (defBody (topS 4)) (defScope (topS 4)) .none kV0 dc0 pm0 an0 cd0 ct0), sl0⟩) (c0 : PySem.W.codeIn K cd0 "is_whole" = true) (k0 : PySem.W.keepIn K (.ref f0) = true)
    (a1 : PySem.W.nsIn K mainGlobals "places_in" = some (some (.ref f1))) (l1 : K.lookup f1 = some ⟨oc1, od1, .func (PySem.W.fnOf "places_in" "places_in" (defArgs (topS 6)) (defBody (topS 6)) (defScope (topS 6)) .none kV1 dc1 pm1 an1 cd1 ct1), sl1⟩) (c1 : PySem.W.codeIn K cd1 "places_in" = true) (k1 : PySem.W.keepIn K (.ref f1) = true)
    (a2 : PySem.W.nsIn K mainGlobals "begun_at" = some (some (.ref f2))) (l2 : K.lookup f2 = some ⟨oc2, od2, .func (PySem.W.fnOf "begun_at" "begun_at" (defArgs (topS 8)) (defBody (topS 8)) (defScope (topS 8)) .none kV2 dc2 pm2 an2 cd2 ct2), sl2⟩) (c2 : PySem.W.codeIn K cd2 "begun_at" = true) (k2 : PySem.W.keepIn K (.ref f2) = true)
    (a3 : PySem.W.nsIn K mainGlobals "cell_next" = some (some (.ref f3))) (l3 : K.lookup f3 = some ⟨oc3, od3, .func (PySem.W.fnOf "cell_next" "cell_next" (defArgs (topS 9)) (defBody (topS 9)) (defScope (topS 9)) .none kV3 dc3 pm3 an3 cd3 ct3), sl3⟩) (c3 : PySem.W.codeIn K cd3 "cell_next" = true) (k3 : PySem.W.keepIn K (.ref f3) = true)
    (a4 : PySem.W.nsIn K mainGlobals "begun_behind" = some (some (.ref f4))) (l4 : K.lookup f4 = some ⟨oc4, od4, .func (PySem.W.fnOf "begun_behind" "begun_behind" (defArgs (topS 10)) (defBody (topS 10)) (defScope (topS 10)) .none kV4 dc4 pm4 an4 cd4 ct4), sl4⟩) (c4 : PySem.W.codeIn K cd4 "begun_behind" = true) (k4 : PySem.W.keepIn K (.ref f4) = true)
    (a5 : PySem.W.nsIn K mainGlobals "shared_sign" = some (some (.ref f5))) (l5 : K.lookup f5 = some ⟨oc5, od5, .func (PySem.W.fnOf "shared_sign" "shared_sign" (defArgs (topS 11)) (defBody (topS 11)) (defScope (topS 11)) .none kV5 dc5 pm5 an5 cd5 ct5), sl5⟩) (c5 : PySem.W.codeIn K cd5 "shared_sign" = true) (k5 : PySem.W.keepIn K (.ref f5) = true)
    (a6 : PySem.W.nsIn K mainGlobals "one_on" = some (some (.ref f6))) (l6 : K.lookup f6 = some ⟨oc6, od6, .func (PySem.W.fnOf "one_on" "one_on" (defArgs (topS 12)) (defBody (topS 12)) (defScope (topS 12)) .none kV6 dc6 pm6 an6 cd6 ct6), sl6⟩) (c6 : PySem.W.codeIn K cd6 "one_on" = true) (k6 : PySem.W.keepIn K (.ref f6) = true)
    (a7 : PySem.W.nsIn K mainGlobals "first_pairs" = some (some (.ref f7))) (l7 : K.lookup f7 = some ⟨oc7, od7, .func (PySem.W.fnOf "first_pairs" "first_pairs" (defArgs (topS 13)) (defBody (topS 13)) (defScope (topS 13)) .none kV7 dc7 pm7 an7 cd7 ct7), sl7⟩) (c7 : PySem.W.codeIn K cd7 "first_pairs" = true) (k7 : PySem.W.keepIn K (.ref f7) = true)
    (a8 : PySem.W.nsIn K mainGlobals "next_pairs" = some (some (.ref f8))) (l8 : K.lookup f8 = some ⟨oc8, od8, .func (PySem.W.fnOf "next_pairs" "next_pairs" (defArgs (topS 14)) (defBody (topS 14)) (defScope (topS 14)) .none kV8 dc8 pm8 an8 cd8 ct8), sl8⟩) (c8 : PySem.W.codeIn K cd8 "next_pairs" = true) (k8 : PySem.W.keepIn K (.ref f8) = true)
    (a9 : PySem.W.nsIn K mainGlobals "shortest_pick" = some (some (.ref f9))) (l9 : K.lookup f9 = some ⟨oc9, od9, .func (PySem.W.fnOf "shortest_pick" "shortest_pick" (defArgs (topS 17)) (defBody (topS 17)) (defScope (topS 17)) .none kV9 dc9 pm9 an9 cd9 ct9), sl9⟩) (c9 : PySem.W.codeIn K cd9 "shortest_pick" = true) (k9 : PySem.W.keepIn K (.ref f9) = true)
    (a10 : PySem.W.nsIn K mainGlobals "signs_ahead" = some (some (.ref f10))) (l10 : K.lookup f10 = some ⟨oc10, od10, .func (PySem.W.fnOf "signs_ahead" "signs_ahead" (defArgs (topS 18)) (defBody (topS 18)) (defScope (topS 18)) .none kV10 dc10 pm10 an10 cd10 ct10), sl10⟩) (c10 : PySem.W.codeIn K cd10 "signs_ahead" = true) (k10 : PySem.W.keepIn K (.ref f10) = true)
    (a11 : PySem.W.nsIn K mainGlobals "is_sign_step" = some (some (.ref f11))) (l11 : K.lookup f11 = some ⟨oc11, od11, .func (PySem.W.fnOf "is_sign_step" "is_sign_step" (defArgs (topS 19)) (defBody (topS 19)) (defScope (topS 19)) .none kV11 dc11 pm11 an11 cd11 ct11), sl11⟩) (c11 : PySem.W.codeIn K cd11 "is_sign_step" = true) (k11 : PySem.W.keepIn K (.ref f11) = true)
    (a12 : PySem.W.nsIn K mainGlobals "come_to" = some (some (.ref f12))) (l12 : K.lookup f12 = some ⟨oc12, od12, .func (PySem.W.fnOf "come_to" "come_to" (defArgs (topS 20)) (defBody (topS 20)) (defScope (topS 20)) .none kV12 dc12 pm12 an12 cd12 ct12), sl12⟩) (c12 : PySem.W.codeIn K cd12 "come_to" = true) (k12 : PySem.W.keepIn K (.ref f12) = true)
    (a13 : PySem.W.nsIn K mainGlobals "way_to" = some (some (.ref f13))) (l13 : K.lookup f13 = some ⟨oc13, od13, .func (PySem.W.fnOf "way_to" "way_to" (defArgs (topS 21)) (defBody (topS 21)) (defScope (topS 21)) .none kV13 dc13 pm13 an13 cd13 ct13), sl13⟩) (c13 : PySem.W.codeIn K cd13 "way_to" = true) (k13 : PySem.W.keepIn K (.ref f13) = true)
    (a14 : PySem.W.nsIn K mainGlobals "told_by" = some (some (.ref f14))) (l14 : K.lookup f14 = some ⟨oc14, od14, .func (PySem.W.fnOf "told_by" "told_by" (defArgs (topS 22)) (defBody (topS 22)) (defScope (topS 22)) .none kV14 dc14 pm14 an14 cd14 ct14), sl14⟩) (c14 : PySem.W.codeIn K cd14 "told_by" = true) (k14 : PySem.W.keepIn K (.ref f14) = true)
    (a15 : PySem.W.nsIn K mainGlobals "judged" = some (some (.ref f15))) (l15 : K.lookup f15 = some ⟨oc15, od15, .func (PySem.W.fnOf "judged" "judged" (defArgs (topS 23)) (defBody (topS 23)) (defScope (topS 23)) .none kV15 dc15 pm15 an15 cd15 ct15), sl15⟩) (c15 : PySem.W.codeIn K cd15 "judged" = true) (k15 : PySem.W.keepIn K (.ref f15) = true)
    (a16 : PySem.W.nsIn K mainGlobals "is_place" = some (some (.ref f16))) (l16 : K.lookup f16 = some ⟨oc16, od16, .func (PySem.W.fnOf "is_place" "is_place" (defArgs (topS 25)) (defBody (topS 25)) (defScope (topS 25)) .none kV16 dc16 pm16 an16 cd16 ct16), sl16⟩) (c16 : PySem.W.codeIn K cd16 "is_place" = true) (k16 : PySem.W.keepIn K (.ref f16) = true)
    (a17 : PySem.W.nsIn K mainGlobals "is_pair" = some (some (.ref f17))) (l17 : K.lookup f17 = some ⟨oc17, od17, .func (PySem.W.fnOf "is_pair" "is_pair" (defArgs (topS 26)) (defBody (topS 26)) (defScope (topS 26)) .none kV17 dc17 pm17 an17 cd17 ct17), sl17⟩) (c17 : PySem.W.codeIn K cd17 "is_pair" = true) (k17 : PySem.W.keepIn K (.ref f17) = true)
    (a18 : PySem.W.nsIn K mainGlobals "is_shut" = some (some (.ref f18))) (l18 : K.lookup f18 = some ⟨oc18, od18, .func (PySem.W.fnOf "is_shut" "is_shut" (defArgs (topS 27)) (defBody (topS 27)) (defScope (topS 27)) .none kV18 dc18 pm18 an18 cd18 ct18), sl18⟩) (c18 : PySem.W.codeIn K cd18 "is_shut" = true) (k18 : PySem.W.keepIn K (.ref f18) = true)
    (a19 : PySem.W.nsIn K mainGlobals "_law_cell_at" = some (some (.ref f19))) (l19 : K.lookup f19 = some ⟨oc19, od19, .func (PySem.W.fnOf "_law_cell_at" "_law_cell_at" (defArgs (topS 29)) (defBody (topS 29)) (defScope (topS 29)) .none kV19 dc19 pm19 an19 cd19 ct19), sl19⟩) (c19 : PySem.W.codeIn K cd19 "_law_cell_at" = true) (k19 : PySem.W.keepIn K (.ref f19) = true)
    (a20 : PySem.W.nsIn K mainGlobals "_law_pick" = some (some (.ref f20))) (l20 : K.lookup f20 = some ⟨oc20, od20, .func (PySem.W.fnOf "_law_pick" "_law_pick" (defArgs (topS 31)) (defBody (topS 31)) (defScope (topS 31)) .none kV20 dc20 pm20 an20 cd20 ct20), sl20⟩) (c20 : PySem.W.codeIn K cd20 "_law_pick" = true) (k20 : PySem.W.keepIn K (.ref f20) = true)
    (a21 : PySem.W.nsIn K mainGlobals "_law_signs" = some (some (.ref f21))) (l21 : K.lookup f21 = some ⟨oc21, od21, .func (PySem.W.fnOf "_law_signs" "_law_signs" (defArgs (topS 32)) (defBody (topS 32)) (defScope (topS 32)) .none kV21 dc21 pm21 an21 cd21 ct21), sl21⟩) (c21 : PySem.W.codeIn K cd21 "_law_signs" = true) (k21 : PySem.W.keepIn K (.ref f21) = true)
    (a22 : PySem.W.nsIn K mainGlobals "_law_some_signs" = some (some (.ref f22))) (l22 : K.lookup f22 = some ⟨oc22, od22, .func (PySem.W.fnOf "_law_some_signs" "_law_some_signs" (defArgs (topS 33)) (defBody (topS 33)) (defScope (topS 33)) .none kV22 dc22 pm22 an22 cd22 ct22), sl22⟩) (c22 : PySem.W.codeIn K cd22 "_law_some_signs" = true) (k22 : PySem.W.keepIn K (.ref f22) = true)
    (a23 : PySem.W.nsIn K mainGlobals "_law_cell_text" = some (some (.ref f23))) (l23 : K.lookup f23 = some ⟨oc23, od23, .func (PySem.W.fnOf "_law_cell_text" "_law_cell_text" (defArgs (topS 34)) (defBody (topS 34)) (defScope (topS 34)) .none kV23 dc23 pm23 an23 cd23 ct23), sl23⟩) (c23 : PySem.W.codeIn K cd23 "_law_cell_text" = true) (k23 : PySem.W.keepIn K (.ref f23) = true)
    (a24 : PySem.W.nsIn K mainGlobals "_law_look" = some (some (.ref f24))) (l24 : K.lookup f24 = some ⟨oc24, od24, .func (PySem.W.fnOf "_law_look" "_law_look" (defArgs (topS 35)) (defBody (topS 35)) (defScope (topS 35)) .none kV24 dc24 pm24 an24 cd24 ct24), sl24⟩) (c24 : PySem.W.codeIn K cd24 "_law_look" = true) (k24 : PySem.W.keepIn K (.ref f24) = true)
    (a25 : PySem.W.nsIn K mainGlobals "_law_columns" = some (some (.ref f25))) (l25 : K.lookup f25 = some ⟨oc25, od25, .func (PySem.W.fnOf "_law_columns" "_law_columns" (defArgs (topS 36)) (defBody (topS 36)) (defScope (topS 36)) .none kV25 dc25 pm25 an25 cd25 ct25), sl25⟩) (c25 : PySem.W.codeIn K cd25 "_law_columns" = true) (k25 : PySem.W.keepIn K (.ref f25) = true)
    (a26 : PySem.W.nsIn K mainGlobals "_law_copy" = some (some (.ref f26))) (l26 : K.lookup f26 = some ⟨oc26, od26, .func (PySem.W.fnOf "_law_copy" "_law_copy" (defArgs (topS 37)) (defBody (topS 37)) (defScope (topS 37)) .none kV26 dc26 pm26 an26 cd26 ct26), sl26⟩) (c26 : PySem.W.codeIn K cd26 "_law_copy" = true) (k26 : PySem.W.keepIn K (.ref f26) = true)
    (a27 : PySem.W.nsIn K mainGlobals "_law_behind" = some (some (.ref f27))) (l27 : K.lookup f27 = some ⟨oc27, od27, .func (PySem.W.fnOf "_law_behind" "_law_behind" (defArgs (topS 38)) (defBody (topS 38)) (defScope (topS 38)) .none kV27 dc27 pm27 an27 cd27 ct27), sl27⟩) (c27 : PySem.W.codeIn K cd27 "_law_behind" = true) (k27 : PySem.W.keepIn K (.ref f27) = true)
    (a28 : PySem.W.nsIn K mainGlobals "_law_share" = some (some (.ref f28))) (l28 : K.lookup f28 = some ⟨oc28, od28, .func (PySem.W.fnOf "_law_share" "_law_share" (defArgs (topS 39)) (defBody (topS 39)) (defScope (topS 39)) .none kV28 dc28 pm28 an28 cd28 ct28), sl28⟩) (c28 : PySem.W.codeIn K cd28 "_law_share" = true) (k28 : PySem.W.keepIn K (.ref f28) = true)
    (a29 : PySem.W.nsIn K mainGlobals "_law_next" = some (some (.ref f29))) (l29 : K.lookup f29 = some ⟨oc29, od29, .func (PySem.W.fnOf "_law_next" "_law_next" (defArgs (topS 40)) (defBody (topS 40)) (defScope (topS 40)) .none kV29 dc29 pm29 an29 cd29 ct29), sl29⟩) (c29 : PySem.W.codeIn K cd29 "_law_next" = true) (k29 : PySem.W.keepIn K (.ref f29) = true)
    (a30 : PySem.W.nsIn K mainGlobals "_law_first" = some (some (.ref f30))) (l30 : K.lookup f30 = some ⟨oc30, od30, .func (PySem.W.fnOf "_law_first" "_law_first" (defArgs (topS 41)) (defBody (topS 41)) (defScope (topS 41)) .none kV30 dc30 pm30 an30 cd30 ct30), sl30⟩) (c30 : PySem.W.codeIn K cd30 "_law_first" = true) (k30 : PySem.W.keepIn K (.ref f30) = true)
    (a31 : PySem.W.nsIn K mainGlobals "_law_come" = some (some (.ref f31))) (l31 : K.lookup f31 = some ⟨oc31, od31, .func (PySem.W.fnOf "_law_come" "_law_come" (defArgs (topS 42)) (defBody (topS 42)) (defScope (topS 42)) .none kV31 dc31 pm31 an31 cd31 ct31), sl31⟩) (c31 : PySem.W.codeIn K cd31 "_law_come" = true) (k31 : PySem.W.keepIn K (.ref f31) = true)
    (a32 : PySem.W.nsIn K mainGlobals "law" = some (some (.ref f32))) (l32 : K.lookup f32 = some ⟨oc32, od32, .func (PySem.W.fnOf "law" "law" (defArgs (topS 43)) (defBody (topS 43)) (defScope (topS 43)) .none kV32 dc32 pm32 an32 cd32 ct32), sl32⟩) (c32 : PySem.W.codeIn K cd32 "law" = true) (k32 : PySem.W.keepIn K (.ref f32) = true)
    (n_isinstance : PySem.W.nsIn K mainGlobals "isinstance" = some none)
    (n_int : PySem.W.nsIn K mainGlobals "int" = some none)
    (n_bool : PySem.W.nsIn K mainGlobals "bool" = some none)
    (n_len : PySem.W.nsIn K mainGlobals "len" = some none)
    (n_range : PySem.W.nsIn K mainGlobals "range" = some none)
    (n_sorted : PySem.W.nsIn K mainGlobals "sorted" = some none)
    (n_min : PySem.W.nsIn K mainGlobals "min" = some none)
    (n_sum : PySem.W.nsIn K mainGlobals "sum" = some none)
    (n_list : PySem.W.nsIn K mainGlobals "list" = some none)
    (n_reversed : PySem.W.nsIn K mainGlobals "reversed" = some none)
    (n_zip : PySem.W.nsIn K mainGlobals "zip" = some none)
    (n_tuple : PySem.W.nsIn K mainGlobals "tuple" = some none)
    (m_MOST_PLACES : PySem.W.nsIn K mainGlobals "MOST_PLACES" = some (some (.int 500 t_MOST_PLACES))) :
    ∃ fd : FuncData, (∀ (s : Shared) (v : Value), BindsTo s fd ⟨[v], []⟩ [("_law_script", v)]) ∧ ∀ base : Heap, K.In base → base.Ns mainGlobals mg → FnOk l.prog w K mg base (L2.CX l.prog w) 6 fa fd ["_law_script"] (spLaw K) := by
  have e := hfa.symm.trans (PySem.W.mg_of X G a32)
  cases e
  have F0 := fun_mk (st := (topS 4)) l0 c0 k0
  have b0 := F0.binds (ps := ["thing"]) fun _ _ _ _ _ _ us hl => match us, hl with | [_], _ => rfl
  have F1 := fun_mk (st := (topS 6)) l1 c1 k1
  have b1 := F1.binds (ps := ["columns"]) fun _ _ _ _ _ _ us hl => match us, hl with | [_], _ => rfl
  have F2 := fun_mk (st := (topS 8)) l2 c2 k2
  have b2 := F2.binds (ps := ["columns", "c"]) fun _ _ _ _ _ _ us hl => match us, hl with | [_, _], _ => rfl
  have F3 := fun_mk (st := (topS 9)) l3 c3 k3
  have b3 := F3.binds (ps := ["columns", "place"]) fun _ _ _ _ _ _ us hl => match us, hl with | [_, _], _ => rfl
  have F4 := fun_mk (st := (topS 10)) l4 c4 k4
  have b4 := F4.binds (ps := ["columns", "place"]) fun _ _ _ _ _ _ us hl => match us, hl with | [_, _], _ => rfl
  have F5 := fun_mk (st := (topS 11)) l5 c5 k5
  have b5 := F5.binds (ps := ["one", "other"]) fun _ _ _ _ _ _ us hl => match us, hl with | [_, _], _ => rfl
  have F6 := fun_mk (st := (topS 12)) l6 c6 k6
  have b6 := F6.binds (ps := ["place"]) fun _ _ _ _ _ _ us hl => match us, hl with | [_], _ => rfl
  have F7 := fun_mk (st := (topS 13)) l7 c7 k7
  have b7 := F7.binds (ps := ["columns"]) fun _ _ _ _ _ _ us hl => match us, hl with | [_], _ => rfl
  have F8 := fun_mk (st := (topS 14)) l8 c8 k8
  have b8 := F8.binds (ps := ["columns", "pair"]) fun _ _ _ _ _ _ us hl => match us, hl with | [_, _], _ => rfl
  have F9 := fun_mk (st := (topS 17)) l9 c9 k9
  have b9 := F9.binds (ps := ["looks"]) fun _ _ _ _ _ _ us hl => match us, hl with | [_], _ => rfl
  have F10 := fun_mk (st := (topS 18)) l10 c10 k10
  have b10 := F10.binds (ps := ["columns", "c"]) fun _ _ _ _ _ _ us hl => match us, hl with | [_, _], _ => rfl
  have F11 := fun_mk (st := (topS 19)) l11 c11 k11
  have b11 := F11.binds (ps := ["pair", "then"]) fun _ _ _ _ _ _ us hl => match us, hl with | [_, _], _ => rfl
  have F12 := fun_mk (st := (topS 20)) l12 c12 k12
  have b12 := F12.binds (ps := ["columns"]) fun _ _ _ _ _ _ us hl => match us, hl with | [_], _ => rfl
  have F13 := fun_mk (st := (topS 21)) l13 c13 k13
  have b13 := F13.binds (ps := ["came", "pair"]) fun _ _ _ _ _ _ us hl => match us, hl with | [_, _], _ => rfl
  have F14 := fun_mk (st := (topS 22)) l14 c14 k14
  have b14 := F14.binds (ps := ["columns", "way"]) fun _ _ _ _ _ _ us hl => match us, hl with | [_, _], _ => rfl
  have F15 := fun_mk (st := (topS 23)) l15 c15 k15
  have b15 := F15.binds (ps := ["columns"]) fun _ _ _ _ _ _ us hl => match us, hl with | [_], _ => rfl
  have F16 := fun_mk (st := (topS 25)) l16 c16 k16
  have b16 := F16.binds (ps := ["columns", "thing"]) fun _ _ _ _ _ _ us hl => match us, hl with | [_, _], _ => rfl
  have F17 := fun_mk (st := (topS 26)) l17 c17 k17
  have b17 := F17.binds (ps := ["columns", "thing"]) fun _ _ _ _ _ _ us hl => match us, hl with | [_, _], _ => rfl
  have F18 := fun_mk (st := (topS 27)) l18 c18 k18
  have b18 := F18.binds (ps := ["columns", "pairs"]) fun _ _ _ _ _ _ us hl => match us, hl with | [_, _], _ => rfl
  have F19 := fun_mk (st := (topS 29)) l19 c19 k19
  have b19 := F19.binds (ps := ["_law_script", "_law_k"]) fun _ _ _ _ _ _ us hl => match us, hl with | [_, _], _ => rfl
  have F20 := fun_mk (st := (topS 31)) l20 c20 k20
  have b20 := F20.binds (ps := ["_law_cell", "_law_salt", "_law_many"]) fun _ _ _ _ _ _ us hl => match us, hl with | [_, _, _], _ => rfl
  have F21 := fun_mk (st := (topS 32)) l21 c21 k21
  have b21 := F21.binds (ps := []) fun _ _ _ _ _ _ us hl => match us, hl with | [], _ => rfl
  have F22 := fun_mk (st := (topS 33)) l22 c22 k22
  have b22 := F22.binds (ps := ["_law_cell"]) fun _ _ _ _ _ _ us hl => match us, hl with | [_], _ => rfl
  have F23 := fun_mk (st := (topS 34)) l23 c23 k23
  have b23 := F23.binds (ps := ["_law_cell", "_law_salt", "_law_signs_here"]) fun _ _ _ _ _ _ us hl => match us, hl with | [_, _, _], _ => rfl
  have F24 := fun_mk (st := (topS 35)) l24 c24 k24
  have b24 := F24.binds (ps := ["_law_cell", "_law_signs_here", "_law_most"]) fun _ _ _ _ _ _ us hl => match us, hl with | [_, _, _], _ => rfl
  have F25 := fun_mk (st := (topS 36)) l25 c25 k25
  have b25 := F25.binds (ps := ["_law_script", "_law_most"]) fun _ _ _ _ _ _ us hl => match us, hl with | [_, _], _ => rfl
  have F26 := fun_mk (st := (topS 37)) l26 c26 k26
  have b26 := F26.binds (ps := ["_law_columns_here"]) fun _ _ _ _ _ _ us hl => match us, hl with | [_], _ => rfl
  have F27 := fun_mk (st := (topS 38)) l27 c27 k27
  have b27 := F27.binds (ps := ["_law_columns_here", "_law_place"]) fun _ _ _ _ _ _ us hl => match us, hl with | [_, _], _ => rfl
  have F28 := fun_mk (st := (topS 39)) l28 c28 k28
  have b28 := F28.binds (ps := ["_law_columns_here", "_law_one", "_law_other"]) fun _ _ _ _ _ _ us hl => match us, hl with | [_, _, _], _ => rfl
  have F29 := fun_mk (st := (topS 40)) l29 c29 k29
  have b29 := F29.binds (ps := ["_law_columns_here", "_law_pair"]) fun _ _ _ _ _ _ us hl => match us, hl with | [_, _], _ => rfl
  have F30 := fun_mk (st := (topS 41)) l30 c30 k30
  have b30 := F30.binds (ps := ["_law_columns_here"]) fun _ _ _ _ _ _ us hl => match us, hl with | [_], _ => rfl
  have F31 := fun_mk (st := (topS 42)) l31 c31 k31
  have b31 := F31.binds (ps := ["_law_columns_here"]) fun _ _ _ _ _ _ us hl => match us, hl with | [_], _ => rfl
  have F32 := fun_mk (st := (topS 43)) l32 c32 k32
  have b32 := F32.binds (ps := ["_law_script"]) fun _ _ _ _ _ _ us hl => match us, hl with | [_], _ => rfl
  refine ⟨PySem.W.fnOf "law" "law" (defArgs (topS 43)) (defBody (topS 43)) (defScope (topS 43)) .none kV32 dc32 pm32 an32 cd32 ct32, fun s v => .of_eq rfl, fun base _ _ => ?_⟩
  have z_isinstance := PySem.W.mg_none_of X G n_isinstance
  have z_int := PySem.W.mg_none_of X G n_int
  have z_bool := PySem.W.mg_none_of X G n_bool
  have z_len := PySem.W.mg_none_of X G n_len
  have z_range := PySem.W.mg_none_of X G n_range
  have z_sorted := PySem.W.mg_none_of X G n_sorted
  have z_min := PySem.W.mg_none_of X G n_min
  have z_sum := PySem.W.mg_none_of X G n_sum
  have z_list := PySem.W.mg_none_of X G n_list
  have z_reversed := PySem.W.mg_none_of X G n_reversed
  have z_zip := PySem.W.mg_none_of X G n_zip
  have z_tuple := PySem.W.mg_none_of X G n_tuple
  have g_MOST_PLACES : GInt mg "MOST_PLACES" 500 := ⟨_, PySem.W.mg_of X G m_MOST_PLACES⟩
  have d_is_whole := ok_is_whole (P := l.prog) (w := w) (base := base) F0 (PySem.W.mg_of X G a0) b0 z_isinstance z_int z_bool
  have d_places_in := ok_places_in (P := l.prog) (w := w) (base := base) F1 (PySem.W.mg_of X G a1) b1 z_len
  have d_begun_at := ok_begun_at (P := l.prog) (w := w) (base := base) F2 (PySem.W.mg_of X G a2) b2 z_len z_range
  have d_cell_next := ok_cell_next (P := l.prog) (w := w) (base := base) F3 (PySem.W.mg_of X G a3) b3 z_len
  have d_shared_sign := ok_shared_sign (P := l.prog) (w := w) (base := base) F5 (PySem.W.mg_of X G a5) b5
  have d_one_on := ok_one_on (P := l.prog) (w := w) (base := base) F6 (PySem.W.mg_of X G a6) b6
  have d_first_pairs := ok_first_pairs (P := l.prog) (w := w) (base := base) F7 (PySem.W.mg_of X G a7) b7 z_len z_range
  have d_shortest_pick := ok_shortest_pick (P := l.prog) (w := w) (base := base) F9 (PySem.W.mg_of X G a9) b9 z_len z_min
  have d_is_sign_step := ok_is_sign_step (P := l.prog) (w := w) (base := base) F11 (PySem.W.mg_of X G a11) b11
  have d_way_to := ok_way_to (P := l.prog) (w := w) (base := base) F13 (PySem.W.mg_of X G a13) b13 z_list z_reversed
  have d__law_cell_at := ok__law_cell_at (P := l.prog) (w := w) (base := base) F19 (PySem.W.mg_of X G a19) b19 z_len
  have d__law_pick := ok__law_pick (P := l.prog) (w := w) (base := base) F20 (PySem.W.mg_of X G a20) b20
  have d__law_signs := ok__law_signs (P := l.prog) (w := w) (base := base) F21 (PySem.W.mg_of X G a21) b21
  have d__law_copy := ok__law_copy (P := l.prog) (w := w) (base := base) F26 (PySem.W.mg_of X G a26) b26 z_list
  have d__law_behind := ok__law_behind (P := l.prog) (w := w) (base := base) F27 (PySem.W.mg_of X G a27) b27 z_len z_range
  have d__law_share := ok__law_share (P := l.prog) (w := w) (base := base) F28 (PySem.W.mg_of X G a28) b28 z_len
  have d__law_first := ok__law_first (P := l.prog) (w := w) (base := base) F30 (PySem.W.mg_of X G a30) b30 z_len z_range
  have d_begun_behind := ok_begun_behind (P := l.prog) (w := w) (base := base) F4 (PySem.W.mg_of X G a4) b4 z_len d_begun_at
  have d_signs_ahead := ok_signs_ahead (P := l.prog) (w := w) (base := base) F10 (PySem.W.mg_of X G a10) b10 z_range z_len z_sum d_shortest_pick
  have d_told_by := ok_told_by (P := l.prog) (w := w) (base := base) F14 (PySem.W.mg_of X G a14) b14 z_range z_list z_zip z_len d_shortest_pick d_is_sign_step d_cell_next d_shared_sign
  have d_is_place := ok_is_place (P := l.prog) (w := w) (base := base) F16 (PySem.W.mg_of X G a16) b16 z_isinstance z_tuple z_len d_is_whole
  have d__law_some_signs := ok__law_some_signs (P := l.prog) (w := w) (base := base) F22 (PySem.W.mg_of X G a22) b22 d__law_pick d__law_signs
  have d__law_cell_text := ok__law_cell_text (P := l.prog) (w := w) (base := base) F23 (PySem.W.mg_of X G a23) b23 z_range d__law_pick
  have d__law_next := ok__law_next (P := l.prog) (w := w) (base := base) F29 (PySem.W.mg_of X G a29) b29 z_sorted d__law_behind d__law_share
  have d_next_pairs := ok_next_pairs (P := l.prog) (w := w) (base := base) F8 (PySem.W.mg_of X G a8) b8 z_sorted d_begun_behind d_cell_next d_shared_sign d_one_on
  have d_is_pair := ok_is_pair (P := l.prog) (w := w) (base := base) F17 (PySem.W.mg_of X G a17) b17 z_isinstance z_tuple z_len d_is_place
  have d__law_look := ok__law_look (P := l.prog) (w := w) (base := base) F24 (PySem.W.mg_of X G a24) b24 z_range d__law_pick d__law_cell_text
  have d__law_come := ok__law_come (P := l.prog) (w := w) (base := base) F31 (PySem.W.mg_of X G a31) b31 z_sorted d__law_first d__law_next
  have d_come_to := ok_come_to (P := l.prog) (w := w) (base := base) F12 (PySem.W.mg_of X G a12) b12 z_int z_len d_next_pairs d_is_sign_step d_first_pairs d_signs_ahead d_places_in
  have d_is_shut := ok_is_shut (P := l.prog) (w := w) (base := base) F18 (PySem.W.mg_of X G a18) b18 z_isinstance z_list z_len d_is_pair d_first_pairs d_next_pairs
  have d__law_columns := ok__law_columns (P := l.prog) (w := w) (base := base) F25 (PySem.W.mg_of X G a25) b25 z_range d__law_cell_at d__law_some_signs d__law_pick d__law_look
  have d_judged := ok_judged (P := l.prog) (w := w) (base := base) F15 (PySem.W.mg_of X G a15) b15 z_len z_sorted g_MOST_PLACES d_places_in d_come_to d_way_to d_told_by
  exact law_fn (fnok_law F32 z_len d__law_columns d__law_come d__law_copy d_judged d_is_shut) true_law
end Wk
open PySem PySem.W PyProof.Rows
set_option maxRecDepth 100000 in
set_option maxHeartbeats 0 in
theorem PySem.Challenge.cw_padwright_k76_whole_all_that_is_come_to_holds : PySem.Challenge.rw_padwright_k76_whole_all_that_is_come_to.Holds := by
  w_on; o_law; k_head; (case hw => w_witness2)
  k_fill
  refine L2.walk_of (l := PySem.Challenge.rw_padwright_k76_whole_all_that_is_come_to) (n := 63) (k := 6) (x := "_law_script") (CX := fun w => L2.CX (PySem.Challenge.rw_padwright_k76_whole_all_that_is_come_to).prog w) (sp := fun w => Dm.spLaw _) rfl (by decide) rfl ⟨rfl, by decide, by decide⟩ (fun w h Y => PySem.W.kIn_of Y) ?F (fun _ _ a ns hl _ hS => ⟨a, ns, rfl, hS, hl, fun _ => rfl⟩) (fun _ _ _ _ _ h => Dm.law_cx h)
  case F =>
    intro w mg fa h KX G hmg
    refine' Wk.all_mk KX G hmg Law.true_law ?a0 ?l0 ?c0 ?k0 ?a1 ?l1 ?c1 ?k1 ?a2 ?l2 ?c2 ?k2 ?a3 ?l3 ?c3 ?k3 ?a4 ?l4 ?c4 ?k4 ?a5 ?l5 ?c5 ?k5 ?a6 ?l6 ?c6 ?k6 ?a7 ?l7 ?c7 ?k7 ?a8 ?l8 ?c8 ?k8 ?a9 ?l9 ?c9 ?k9 ?a10 ?l10 ?c10 ?k10 ?a11 ?l11 ?c11 ?k11 ?a12 ?l12 ?c12 ?k12 ?a13 ?l13 ?c13 ?k13 ?a14 ?l14 ?c14 ?k14 ?a15 ?l15 ?c15 ?k15 ?a16 ?l16 ?c16 ?k16 ?a17 ?l17 ?c17 ?k17 ?a18 ?l18 ?c18 ?k18 ?a19 ?l19 ?c19 ?k19 ?a20 ?l20 ?c20 ?k20 ?a21 ?l21 ?c21 ?k21 ?a22 ?l22 ?c22 ?k22 ?a23 ?l23 ?c23 ?k23 ?a24 ?l24 ?c24 ?k24 ?a25 ?l25 ?c25 ?k25 ?a26 ?l26 ?c26 ?k26 ?a27 ?l27 ?c27 ?k27 ?a28 ?l28 ?c28 ?k28 ?a29 ?l29 ?c29 ?k29 ?a30 ?l30 ?c30 ?k30 ?a31 ?l31 ?c31 ?k31 ?a32 ?l32 ?c32 ?k32 ?n_isinstance ?n_int ?n_bool ?n_len ?n_range ?n_sorted ?n_min ?n_sum ?n_list ?n_reversed ?n_zip ?n_tuple ?m_MOST_PLACES
    (case a0 => k_is)
    (case l0 => k_is)
    (case c0 => k_is)
    (case k0 => k_is)
    (case a1 => k_is)
    (case l1 => k_is)
    (case c1 => k_is)
    (case k1 => k_is)
    (case a2 => k_is)
    (case l2 => k_is)
    (case c2 => k_is)
    (case k2 => k_is)
    (case a3 => k_is)
    (case l3 => k_is)
    (case c3 => k_is)
    (case k3 => k_is)
    (case a4 => k_is)
    (case l4 => k_is)
    (case c4 => k_is)
    (case k4 => k_is)
    (case a5 => k_is)
    (case l5 => k_is)
    (case c5 => k_is)
    (case k5 => k_is)
    (case a6 => k_is)
    (case l6 => k_is)
    (case c6 => k_is)
    (case k6 => k_is)
    (case a7 => k_is)
    (case l7 => k_is)
    (case c7 => k_is)
    (case k7 => k_is)
    (case a8 => k_is)
    (case l8 => k_is)
    (case c8 => k_is)
    (case k8 => k_is)
    (case a9 => k_is)
    (case l9 => k_is)
    (case c9 => k_is)
    (case k9 => k_is)
    (case a10 => k_is)
    (case l10 => k_is)
    (case c10 => k_is)
    (case k10 => k_is)
    (case a11 => k_is)
    (case l11 => k_is)
    (case c11 => k_is)
    (case k11 => k_is)
    (case a12 => k_is)
    (case l12 => k_is)
    (case c12 => k_is)
    (case k12 => k_is)
    (case a13 => k_is)
    (case l13 => k_is)
    (case c13 => k_is)
    (case k13 => k_is)
    (case a14 => k_is)
    (case l14 => k_is)
    (case c14 => k_is)
    (case k14 => k_is)
    (case a15 => k_is)
    (case l15 => k_is)
    (case c15 => k_is)
    (case k15 => k_is)
    (case a16 => k_is)
    (case l16 => k_is)
    (case c16 => k_is)
    (case k16 => k_is)
    (case a17 => k_is)
    (case l17 => k_is)
    (case c17 => k_is)
    (case k17 => k_is)
    (case a18 => k_is)
    (case l18 => k_is)
    (case c18 => k_is)
    (case k18 => k_is)
    (case a19 => k_is)
    (case l19 => k_is)
    (case c19 => k_is)
    (case k19 => k_is)
    (case a20 => k_is)
    (case l20 => k_is)
    (case c20 => k_is)
    (case k20 => k_is)
    (case a21 => k_is)
    (case l21 => k_is)
    (case c21 => k_is)
    (case k21 => k_is)
    (case a22 => k_is)
    (case l22 => k_is)
    (case c22 => k_is)
    (case k22 => k_is)
    (case a23 => k_is)
    (case l23 => k_is)
    (case c23 => k_is)
    (case k23 => k_is)
    (case a24 => k_is)
    (case l24 => k_is)
    (case c24 => k_is)
    (case k24 => k_is)
    (case a25 => k_is)
    (case l25 => k_is)
    (case c25 => k_is)
    (case k25 => k_is)
    (case a26 => k_is)
    (case l26 => k_is)
    (case c26 => k_is)
    (case k26 => k_is)
    (case a27 => k_is)
    (case l27 => k_is)
    (case c27 => k_is)
    (case k27 => k_is)
    (case a28 => k_is)
    (case l28 => k_is)
    (case c28 => k_is)
    (case k28 => k_is)
    (case a29 => k_is)
    (case l29 => k_is)
    (case c29 => k_is)
    (case k29 => k_is)
    (case a30 => k_is)
    (case l30 => k_is)
    (case c30 => k_is)
    (case k30 => k_is)
    (case a31 => k_is)
    (case l31 => k_is)
    (case c31 => k_is)
    (case k31 => k_is)
    (case a32 => k_is)
    (case l32 => k_is)
    (case c32 => k_is)
    (case k32 => k_is)
    (case n_isinstance => k_is)
    (case n_int => k_is)
    (case n_bool => k_is)
    (case n_len => k_is)
    (case n_range => k_is)
    (case n_sorted => k_is)
    (case n_min => k_is)
    (case n_sum => k_is)
    (case n_list => k_is)
    (case n_reversed => k_is)
    (case n_zip => k_is)
    (case n_tuple => k_is)
    (case m_MOST_PLACES => k_is)
end
