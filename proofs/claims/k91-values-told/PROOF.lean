import PyProof.Rows.All
import Wide.All
import OpenK.AllK
import Wide.FinOn
import HandS.ForMost
import HandS.ForExc
import HandS.Wide
import HandS.TupAny
import HandS.TupMul
import HandS.IsInst
import HandS.Deep
import HandS.CallSlots
import KE.KxIndex
import PyProof.ListStr
import HandS.More
import PyProof.StrLawsFirst
import HandS.Ends
import HandS.ExcCtx
import HandS.ExcIs
import HandS.SuiteRaise
import HandS.TryMany
import HandS.Dict
import HandS.SetKeys
import HandS.SortInts
import PyProof.Rows.SortShellAny
import HandS.Style
import HandS.Defaults
import HandS.Iter
import HandS.List
import HandS.WideBits
import HandS.ReplaceLit
import HandS.ReplaceList
import KE.IntTextLaws
import PySem.Challenge.RW_padwright_k91_values_and_edges_told
set_option Elab.async false
section
set_option linter.all false
/-! Dm, the mirror machine: plain data and what a program does with it. No Python, no heap. -/
namespace Dm
noncomputable section

/-- kinds of sequences: a list that may be shared, a list that is only read (the script, a module's), a tuple -/
inductive SK where
  | lst | rol | tup
  deriving DecidableEq, Repr
inductive D where
  | non | bl (b : Bool) | int (i : Int) | str (s : List Nat) | seq (k : SK) (xs : List D) | obj (C : String) (ns : List String) (vs : List D)
  | dic (ks vs : List D) | dit (ks vs : List D)
/-- what a thing of one's own is: a list, a dict, an object -/
inductive OwK where
  | lst | dic (ks : List D) | ins (C : String) (ns : List String) | dit (ks : List D)
def OwK.asD : OwK → List D → D
  | .lst, ds => .seq .lst ds
  | .dic ks, ds => .dic ks ds
  | .ins C ns, ds => .obj C ns ds
  | .dit ks, ds => .dit ks ds
/-- a slot: nothing, plain data, a thing of its own, an exception at hand -/
inductive Sl where
  | no | fz (d : D) | oo (k : OwK) (ds : List D) | ex (C : String)
abbrev Sl.ow (ds : List D) : Sl := .oo .lst ds
/-- how a value may be kept: as it is; the very list of slot i; a new list -/
inductive Tg where
  | cl | own (i : Nat) | fr
/-- a result -/
inductive Res (α : Type) where
  | ok (a : α) | ex (C : String) | bad
def Res.bind {α β : Type} : Res α → (α → Res β) → Res β
  | .ok a, f => f a
  | .ex C, _ => .ex C
  | .bad, _ => .bad
@[simp] theorem Res.bind_ok {α β : Type} (a : α) (f : α → Res β) : (Res.ok a).bind f = f a := id rfl
@[simp] theorem Res.bind_ex {α β : Type} (C : String) (f : α → Res β) : (Res.ex C : Res α).bind f = .ex C := id rfl
@[simp] theorem Res.bind_bad {α β : Type} (f : α → Res β) : (Res.bad : Res α).bind f = .bad := id rfl
abbrev Val := D × Tg
abbrev Rho := List Sl
abbrev EM := Rho → Res Val
abbrev AM := Rho → Res (List Val)
abbrev TM := Rho → Res Bool

/-- scalar data -/
def D.sc : D → Bool
  | .non | .bl _ | .int _ | .str _ => true
  | _ => false
/-- a sealed thing: the kernel cannot look into it -/
def shut {α : Type} (x : α) : { y : α // y = x } := Classical.choice ⟨⟨x, rfl⟩⟩
def lim : Nat := (shut 16777216).1
/-- turns that a while may take -/
def fuel : Nat := (shut (2 ^ 100000)).1
theorem fuel_of {n : Nat} (k : Nat) (h : n < 2 ^ k) (hk : k ≤ 100000 := by decide) : n < fuel := (show fuel = 2 ^ 100000 from (shut _).2) ▸ Nat.lt_of_lt_of_le h (Nat.pow_le_pow_right (by decide) hk)
theorem lim_def : lim = 16777216 := (shut 16777216).2
/-- a slice's bound as a place among n -/
def sIx (n d : Nat) : Option Int → Nat
  | none => d
  | some v => if v < 0 then (v + (n : Int)).toNat else min v.toNat n
def cutL {α : Type} (xs : List α) (lo hi : Option Int) : List α := (xs.drop (sIx xs.length 0 lo)).take (sIx xs.length xs.length hi - sIx xs.length 0 lo)
def ixN (n : Nat) (i : Int) : Option Nat := if 0 ≤ i then (if i < n then some i.toNat else none) else if -(n : Int) ≤ i then some (i + n).toNat else none
def atI {α : Type} (xs : List α) (i : Int) : Option α := (ixN xs.length i).bind fun j => xs[j]?

/-- whole numbers, and tuples of such -/
def D.tk : Nat → D → Bool
  | _, .int _ => true
  | n + 1, .seq .tup xs => xs.all (D.tk n)
  | _, _ => false
/-- what may be a key of a dict whose keys are tuples -/
def D.tkey : D → Bool
  | .seq .tup xs => D.tk 8 (.seq .tup xs)
  | _ => false
/-! ### equality -/
mutual
def D.eqv : D → D → Bool
  | .non, .non => true
  | .bl a, .bl b => a == b
  | .bl a, .int j => (if a then 1 else 0) == j
  | .int i, .bl b => i == (if b then 1 else 0)
  | .int i, .int j => i == j
  | .str x, .str y => x == y
  | .seq k xs, .seq l ys => ((k == .tup) == (l == .tup)) && D.eqvs xs ys
  | _, _ => false
def D.eqvs : List D → List D → Bool
  | [], [] => true
  | x :: xs, y :: ys => D.eqv x y && D.eqvs xs ys
  | _, _ => false
end
/-- data that may be compared: texts of signs, not too deep -/
def D.lay : Nat → D → Bool
  | _, .non | _, .bl _ | _, .int _ => true
  | _, .str s => s.all (· < 1114112)
  | n + 1, .seq _ xs => xs.all (D.lay n)
  | _, _ => false
def dEqS : D → D → Option Bool
  | .non, .non => some true
  | .bl a, .bl b => some (a == b)
  | .int i, .int j => some (i == j)
  | .str s, .str t => some (s == t)
  | .non, .int _ | .int _, .non | .non, .bl _ | .bl _, .non | .non, .str _ | .str _, .non | .int _, .str _ | .str _, .int _ | .bl _, .str _ | .str _, .bl _ => some false
  | _, _ => none
def dEqB (x y : D) : Res Bool := match dEqS x y with
  | some b => .ok b
  | none => if D.lay 12 x && D.lay 12 y then .ok (D.eqv x y) else .bad
def dEq (x y : D) : Res D := (dEqB x y).bind fun b => .ok (.bl b)
def dNe (x y : D) : Res D := (dEqB x y).bind fun b => .ok (.bl (!b))

/-! ### operators: what comes of two data -/
abbrev Op2 := D → D → Res (D × Tg)
@[simp] def sOk (d : D) : Res (D × Tg) := .ok (d, .cl)
def oAdd : Op2
  | .int i, .int j => sOk (.int (i + j))
  | .str s, .str t => if s.length + t.length ≤ lim then sOk (.str (s ++ t)) else .bad
  | .seq .lst xs, .seq .lst ys => if xs.length + ys.length ≤ lim then .ok (.seq .lst (xs ++ ys), .fr) else .bad
  | .seq .tup xs, .seq .tup ys => if xs.length + ys.length ≤ lim then sOk (.seq .tup (xs ++ ys)) else .bad
  | _, _ => .bad
def oSub : Op2
  | .int i, .int j => sOk (.int (i - j))
  | _, _ => .bad
def lg2 (i j : Int) : Bool := decide (i.natAbs.log2 + j.natAbs.log2 < 1000000)
def lg : Int → Nat → Bool := (shut fun i n => decide (i.natAbs.log2 < n)).1
theorem lg_def (i : Int) (n : Nat) : lg i n = decide (i.natAbs.log2 < n) := congrFun (congrFun (show lg = _ from (shut _).2) i) n
def mulOk : Int → Int → Bool := (shut fun i j => decide (i.natAbs < 18446744073709551616) || decide (j.natAbs < 18446744073709551616) || lg2 i j).1
theorem mulOk_def (i j : Int) : mulOk i j = (decide (i.natAbs < 18446744073709551616) || decide (j.natAbs < 18446744073709551616) || lg2 i j) := congrFun (congrFun (show mulOk = _ from (shut _).2) i) j
def oMul : Op2
  | .int i, .int j => if mulOk i j then sOk (.int (i * j)) else .bad
  | .str s, .int k => if decide (s.length * k.toNat ≤ lim) && decide (-9223372036854775808 ≤ k) && decide (k < 9223372036854775808) then sOk (.str (List.replicate k.toNat s).flatten) else .bad
  | .seq .lst xs, .int k => if decide (-9223372036854775808 ≤ k) && decide (k < 9223372036854775808) && decide (xs.length * k.toNat ≤ lim) then .ok (.seq .lst (List.replicate k.toNat xs).flatten, .fr) else .bad
  | _, _ => .bad
def fdivI (i j : Int) : Int := if 0 < j then i / j else i.fdiv j
def fmodI (i j : Int) : Int := if 0 < j then i % j else i.fmod j
def oFdiv : Op2
  | .int i, .int j => if decide (j ≠ 0) && lg j 9000 then sOk (.int (fdivI i j)) else .bad
  | _, _ => .bad
def oMod : Op2
  | .int i, .int j => if decide (j ≠ 0) then sOk (.int (fmodI i j)) else .bad
  | _, _ => .bad
def oPow : Op2
  | .int i, .int j => if decide (0 ≤ j) && decide (j ≤ 1000000) && decide (i.natAbs < 18446744073709551616) then sOk (.int (i ^ j.toNat)) else .bad
  | _, _ => .bad
def oShr : Op2
  | .int i, .int j => if decide (0 ≤ j) then sOk (.int (i / 2 ^ j.toNat)) else .bad
  | _, _ => .bad
/-- i & 1 -/
def oAnd : Op2
  | .int i, .int j => if j = 1 then sOk (.int (i % 2)) else .bad
  | _, _ => .bad
/-! comparisons -/
def ltL : List Nat → List Nat → Bool := fun s t => decide (s < t)
def cLt : D → D → Res Bool
  | .int i, .int j => .ok (decide (i < j))
  | .str s, .str t => .ok (ltL s t)
  | _, _ => .bad
def cLe : D → D → Res Bool
  | .int i, .int j => .ok (decide (i ≤ j))
  | .str s, .str t => .ok (!ltL t s)
  | _, _ => .bad
def cGt : D → D → Res Bool
  | .int i, .int j => .ok (decide (j < i))
  | .str s, .str t => .ok (ltL t s)
  | _, _ => .bad
def cGe : D → D → Res Bool
  | .int i, .int j => .ok (decide (j ≤ i))
  | .str s, .str t => .ok (!ltL s t)
  | _, _ => .bad
@[simp] def cEq : D → D → Res Bool := dEqB
def cNe : D → D → Res Bool := fun x y => (dEqB x y).bind fun b => .ok (!b)
def cIsN : D → D → Res Bool
  | x, .non => .ok (match x with | .non => true | _ => false)
  | _, _ => .bad
def cNotN : D → D → Res Bool
  | x, .non => .ok (match x with | .non => false | _ => true)
  | _, _ => .bad
/-- is, is not: of truths -/
def cIsB : D → D → Res Bool
  | .bl a, .bl b => .ok (decide (a = b))
  | _, _ => .bad
def cNotB : D → D → Res Bool
  | .bl a, .bl b => .ok (!decide (a = b))
  | _, _ => .bad
/-- one sign in a text; data in a list or a tuple -/
@[simp] def inB (x : D) (xs : List D) : Bool := xs.any fun y => D.eqv y x
def cIn : D → D → Res Bool
  | .str [c], .str t => .ok (decide (c ∈ t))
  | x, .seq k xs => if (x.sc && xs.all D.sc) || (!(k == .tup) && D.lay 11 x && xs.all (D.lay 11)) then .ok (inB x xs) else .bad
  | _, _ => .bad
def cNotIn : D → D → Res Bool := fun x y => (cIn x y).bind fun b => .ok (!b)

/-! ### expressions -/
def mC (d : D) : EM := fun _ => .ok (d, .cl)
def mV (i : Nat) : EM := fun ρ => match ρ[i]? with
  | some (.fz d) => .ok (d, .cl)
  | some (.oo k ds) => .ok (k.asD ds, .own i)
  | _ => .bad
def mB (f : Op2) (a b : EM) : EM := fun ρ => (a ρ).bind fun x => (b ρ).bind fun y => f x.1 y.1
def mCmp (f : D → D → Res Bool) (a b : EM) : EM := fun ρ => (a ρ).bind fun x => (b ρ).bind fun y => (f x.1 y.1).bind fun k => .ok (.bl k, .cl)
def mChain (f g : D → D → Res Bool) (a b c : EM) : EM := fun ρ => (a ρ).bind fun x => (b ρ).bind fun y => (f x.1 y.1).bind fun k => if k then (c ρ).bind fun z => (g y.1 z.1).bind fun l => .ok (.bl l, .cl) else .ok (.bl false, .cl)
def mNeg (a : EM) : EM := fun ρ => (a ρ).bind fun x => match x.1 with
  | .int i => .ok (.int (-i), .cl)
  | _ => .bad
def D.isB : D → Res Bool
  | .bl b => .ok b
  | _ => .bad
/-- and, or, not as values: of truths -/
def mAnd (a b : EM) : EM := fun ρ => (a ρ).bind fun x => x.1.isB.bind fun k => if k then b ρ else .ok (.bl false, .cl)
def mOr (a b : EM) : EM := fun ρ => (a ρ).bind fun x => x.1.isB.bind fun k => if k then .ok (.bl true, .cl) else b ρ
def mNot (a : EM) : EM := fun ρ => (a ρ).bind fun x => x.1.isB.bind fun k => .ok (.bl (!k), .cl)
/-! tests -/
def D.tru : D → Res Bool
  | .non => .ok false
  | .bl b => .ok b
  | .int i => .ok (i != 0)
  | .str s => if s.length ≤ lim then .ok (!s.isEmpty) else .bad
  | .seq _ xs => .ok (!xs.isEmpty)
  | _ => .bad
def mT (a : EM) : TM := fun ρ => (a ρ).bind fun x => x.1.tru
def mTB (a : EM) : TM := fun ρ => (a ρ).bind fun x => x.1.isB
def tmAnd (a b : TM) : TM := fun ρ => (a ρ).bind fun k => if k then b ρ else .ok false
def tmOr (a b : TM) : TM := fun ρ => (a ρ).bind fun k => if k then .ok true else b ρ
def tmNot (a : TM) : TM := fun ρ => (a ρ).bind fun k => .ok (!k)
def mIf (t : TM) (a b : EM) : EM := fun ρ => (t ρ).bind fun k => if k then a ρ else b ρ
/-! places -/
def dIx : D → D → Res D
  | .seq _ xs, .int i => match atI xs i with
    | some d => .ok d
    | none => .bad
  | .str s, .int i => if s.length ≤ lim then (match atI s i with
    | some c => .ok (.str [c])
    | none => .bad) else .bad
  | _, _ => .bad
def mIx (a b : EM) : EM := fun ρ => (a ρ).bind fun x => (b ρ).bind fun y => (dIx x.1 y.1).bind fun d => .ok (d, .cl)
abbrev OM := Rho → Res (Option Int)
def mNoP : OM := fun _ => .ok none
def mPart (a : EM) : OM := fun ρ => (a ρ).bind fun x => match x.1 with
  | .int i => .ok (some i)
  | _ => .bad
def dCut : D → Option Int → Option Int → Res (D × Tg)
  | .str s, lo, hi => if s.length ≤ lim then .ok (.str (cutL s lo hi), .cl) else .bad
  | .seq .tup xs, lo, hi => if sIx xs.length 0 lo = 0 ∧ sIx xs.length xs.length hi = xs.length then .bad else .ok (.seq .tup (cutL xs lo hi), .cl)
  | .seq _ xs, lo, hi => .ok (.seq .lst (cutL xs lo hi), .fr)
  | _, _, _ => .bad
def mCut (a : EM) (lo hi : OM) : EM := fun ρ => (a ρ).bind fun x => (lo ρ).bind fun l => (hi ρ).bind fun h => dCut x.1 l h
/-- every k-th of them, from the place a on -/
def stepL (s : List Nat) (a k : Nat) : List Nat := (List.range ((s.length - a + k - 1) / k)).filterMap fun j => s[a + k * j]?
/-- s[a::k] of a text, a from 0 on, k above 0 -/
def mStep (e lo st : EM) : EM := fun ρ => (e ρ).bind fun x => match x.1 with
  | .str s => (lo ρ).bind fun y => (match y.1 with
    | .int a => (st ρ).bind fun z => (match z.1 with
      | .int k => if decide (s.length ≤ lim) && decide (0 ≤ a) && decide (0 < k) then .ok (.str (stepL s a.toNat k.toNat), .cl) else .bad
      | _ => .bad)
    | _ => .bad)
  | _ => .bad
/-- s[::-1] of a text -/
def mRevS (a : EM) : EM := fun ρ => (a ρ).bind fun x => match x.1 with
  | .str s => if s.length ≤ lim then .ok (.str s.reverse, .cl) else .bad
  | _ => .bad
/-! displays and calls -/
def amNil : AM := fun _ => .ok []
def amCons (a : EM) (r : AM) : AM := fun ρ => (a ρ).bind fun x => (r ρ).bind fun xs => .ok (x :: xs)
@[simp] def Tg.free : Tg → Bool
  | .own _ => false
  | _ => true
/-- a list of items that may be kept -/
def kept (xs : List Val) : Res (List D) := if xs.all (fun x => x.2.free || x.1.sc) then .ok (xs.map (·.1)) else .bad
def mTup (a : AM) : EM := fun ρ => (a ρ).bind fun xs => (kept xs).bind fun ds => if ds.length ≤ lim then .ok (.seq .tup ds, .cl) else .bad
def mLst (a : AM) : EM := fun ρ => (a ρ).bind fun xs => (kept xs).bind fun ds => if ds.length ≤ lim then .ok (.seq .lst ds, .fr) else .bad
/-- what a def does: its result, whether that is a new list -/
abbrev FM := List D → Res (D × Bool)
/-- list(e): a new list -/
def mLstOf : D → Res Val
  | .seq _ ds => .ok (.seq .lst ds, .fr)
  | .str s => if s.length ≤ lim then .ok (.seq .lst (s.map fun c => .str [c]), .fr) else .bad
  | _ => .bad
def mList1 : List Val → Res Val
  | [x] => mLstOf x.1
  | _ => .bad
def mList (a : AM) : EM := fun ρ => (a ρ).bind mList1
/-- sorted(e), of whole numbers, of texts -/
def intsOf : List D → Option (List Int)
  | [] => some []
  | .int i :: ds => (intsOf ds).map (i :: ·)
  | _ => none
def leI (i j : Int) : Bool := decide (i ≤ j)
/-- the texts of a list of texts -/
def strsOf : List D → Option (List (List Nat))
  | [] => some []
  | .str s :: ds => (strsOf ds).map (s :: ·)
  | _ => none
def leS (s t : List Nat) : Bool := decide (¬ t < s)
def mSortOf : D → Res Val
  | .seq .tup _ => .bad
  | .seq _ ds => (match intsOf ds with
    | some ns => .ok (.seq .lst ((ns.mergeSort leI).map .int), .fr)
    | none => (match strsOf ds with
      | some ts => .ok (.seq .lst ((ts.mergeSort leS).map .str), .fr)
      | none => .bad))
  | _ => .bad
def mSort1 : List Val → Res Val
  | [x] => mSortOf x.1
  | _ => .bad
def mSorted (a : AM) : EM := fun ρ => (a ρ).bind mSort1
def mCall (g : FM) (a : AM) : EM := fun ρ => (a ρ).bind fun xs => (g (xs.map (·.1))).bind fun r =>
  if r.1.sc then .ok (r.1, .cl) else if xs.all (fun x => x.2.free || x.1.sc) then .ok (r.1, if r.2 then .fr else .cl) else .bad
/-- a built-in, by its data: a plain result -/
def mBlt (f : List D → Res D) (a : AM) : EM := fun ρ => (a ρ).bind fun xs => (f (xs.map (·.1))).bind fun d => .ok (d, .cl)
def bLen : List D → Res D
  | [.seq _ xs] => .ok (.int xs.length)
  | [.str s] => if s.length ≤ lim then .ok (.int s.length) else .bad
  | _ => .bad
def bAbs : List D → Res D
  | [.int i] => .ok (.int (if i < 0 then -i else i))
  | _ => .bad
def bMax : List D → Res D
  | [.int i, .int j] => .ok (.int (if j > i then j else i))
  | _ => .bad
def bMin : List D → Res D
  | [.int i, .int j] => .ok (.int (if j < i then j else i))
  | _ => .bad
def bInt : List D → Res D
  | [.int i] => .ok (.int i)
  | [.bl b] => .ok (.int (if b then 1 else 0))
  | _ => .bad
/-- the figures of a number, as str tells them -/
def decI (i : Int) : List Nat := (toString i).toList.map Char.toNat
def bStr : List D → Res D
  | [.int i] => if lg i 1920 then .ok (.str (decI i)) else .bad
  | _ => .bad
def bDivmod : List D → Res D
  | [.int i, .int j] => if decide (0 < j) && decide (j < 1073741824) then .ok (.seq .tup [.int (i / j), .int (i % j)]) else .bad
  | _ => .bad
/-- the built-in type's name -/
def D.tn : D → String
  | .non => "NoneType"
  | .bl _ => "bool"
  | .int _ => "int"
  | .str _ => "str"
  | .seq .tup _ => "tuple"
  | .seq _ _ => "list"
  | .dic _ _ => "dict"
  | .dit _ _ => "dict"
  | .obj C _ _ => ""
/-- isinstance by the names of built-in types -/
@[simp] def isT (t T : String) : Bool := t == T || (t == "bool" && T == "int")
def mIs (T : String) (a : EM) : EM := fun ρ => (a ρ).bind fun x => match x.1 with
  | .obj _ _ _ => .bad
  | .dit _ _ => .bad
  | d => .ok (.bl (isT d.tn T), .cl)
/-- text methods -/
def findL (s : List Nat) (c : Nat) : Int := match s.findIdx? (· == c) with
  | some i => i
  | none => -1
/-- a method of a text -/
def mS0 (f : List Nat → Res (D × Tg)) (a : EM) : EM := fun ρ => (a ρ).bind fun x => match x.1 with
  | .str s => f s
  | _ => .bad
def mS1 (f : List Nat → D → Res (D × Tg)) (a b : EM) : EM := fun ρ => (a ρ).bind fun x => match x.1 with
  | .str s => (b ρ).bind fun y => f s y.1
  | _ => .bad
def fFind : List Nat → D → Res (D × Tg)
  | s, .str [c] => sOk (.int (findL s c))
  | _, _ => .bad
def fStarts : List Nat → D → Res (D × Tg)
  | s, .str t => sOk (.bl (s.take t.length == t))
  | _, _ => .bad
def fEnds : List Nat → D → Res (D × Tg)
  | s, .str t => sOk (.bl (decide (t.length ≤ s.length) && (s.drop (s.length - t.length) == t)))
  | _, _ => .bad
/-- "".join(xs) -/
def fJoin : List Nat → D → Res (D × Tg)
  | [], .seq _ ds => (match strsOf ds with
    | some ts => if ts.flatten.length ≤ lim then sOk (.str ts.flatten) else .bad
    | none => .bad)
  | _, _ => .bad
/-- xs.index(s) of a list of texts -/
def D.isS : D → Bool
  | .str _ => true
  | _ => false
def mIdx (a b : EM) : EM := fun ρ => (a ρ).bind fun x => match x.1 with
  | .seq .lst ds => (b ρ).bind fun y => (match y.1 with
    | .str s => if ds.all D.isS && decide (ds.length ≤ lim) then (match ds.findIdx? fun d => D.eqv d (.str s) with
      | some j => .ok (.int j, .cl)
      | none => .bad) else .bad
    | _ => .bad)
  | _ => .bad
/-- an item of a dict, by its key -/
def dFind : List D → List D → D → Option D
  | k :: ks, d :: ds, y => if D.eqv k y then some d else dFind ks ds y
  | _, _, _ => none
/-- what may be a key -/
def D.key : D → Bool
  | .int _ | .str _ => true
  | _ => false
def dGet : D → D → Res D
  | .dic ks vs, y => if y.key then (match dFind ks vs y with
    | some d => .ok d
    | none => .bad) else .bad
  | _, _ => .bad
/-- d[y] = z -/
def dPut : List D → List D → D → D → List D × List D
  | k :: ks, d :: ds, y, z => if D.eqv k y then (k :: ks, z :: ds) else (k :: (dPut ks ds y z).1, d :: (dPut ks ds y z).2)
  | _, _, y, z => ([y], [z])
/-- an item of a module's dict -/
def mDix (ks : List (List Nat)) (ds : List D) (a : EM) : EM := fun ρ => (a ρ).bind fun y => (dGet (.dic (ks.map .str) ds) y.1).bind fun d => .ok (d, .cl)
/-- o[k]: a place, or a key of a dict -/
def mIxD (a b : EM) : EM := fun ρ => (a ρ).bind fun x => (b ρ).bind fun y => (dGet x.1 y.1).bind fun d => .ok (d, .cl)
/-- a new dict -/
def mD0 : EM := fun _ => .ok (.dic [] [], .fr)
/-- {k: v, ..} of written keys -/
def mDisp (ks : List D) (a : AM) : EM := fun ρ => (a ρ).bind fun xs => (kept xs).bind fun ds => if ds.length = ks.length then .ok (.dic ks ds, .fr) else .bad

/-- k in d -/
def dIn : D → D → Res Bool
  | y, .dic ks vs => if y.key then .ok (dFind ks vs y).isSome else .bad
  | _, _ => .bad
def dNotIn : D → D → Res Bool := fun y x => (dIn y x).bind fun b => .ok (!b)
/-- d.get(k, e) -/
def mGet2 (a b c : EM) : EM := fun ρ => (a ρ).bind fun x => match x.1 with
  | .dic ks vs => (b ρ).bind fun y => (c ρ).bind fun z => if y.1.key && (z.2.free || z.1.sc) then .ok ((dFind ks vs y.1).getD z.1, .cl) else .bad
  | _ => .bad

def noEx {α : Type} : Res α → Res α
  | .ok a => .ok a
  | _ => .bad
/-! objects -/
def fGet : List String → List D → String → Option D
  | n :: ns, d :: ds, f => if n = f then some d else fGet ns ds f
  | _, _, _ => none
/-- o.f of an object of one of the classes Cs -/
def mFld (Cs : List String) (f : String) (a : EM) : EM := fun ρ => (a ρ).bind fun x => match x.1 with
  | .obj C ns ds => if Cs.contains C then (match fGet ns ds f with
    | some d => .ok (d, .cl)
    | none => .bad) else .bad
  | _ => .bad
/-- o.m(..): by the class of o -/
def mMeth (tbl : List (String × FM)) (m : String) (o : EM) (am : AM) : EM := fun ρ => (noEx (o ρ)).bind fun x => match x.1 with
  | .obj C ns ds => if fGet ns ds m = none then (match tbl.lookup C with
    | some g => (am ρ).bind fun xs => (g (x.1 :: xs.map (·.1))).bind fun r => if r.1.sc then .ok (r.1, .cl) else if (x :: xs).all (fun x => x.2.free || x.1.sc) then .ok (r.1, if r.2 then .fr else .cl) else .bad
    | none => .bad) else .bad
  | _ => .bad
/-- isinstance(x, C): U the classes that are known, cs those under C -/
def mIsC (U cs : List String) (a : EM) : EM := fun ρ => (a ρ).bind fun x => match x.1 with
  | .obj C _ _ => if U.contains C then .ok (.bl (cs.contains C), .cl) else .bad
  | .dit _ _ => .bad
  | _ => .ok (.bl false, .cl)

/-- isinstance(x, C) of an object -/
def mIsO (U cs : List String) (a : EM) : EM := fun ρ => (a ρ).bind fun x => match x.1 with
  | .obj C _ _ => if U.contains C then .ok (.bl (cs.contains C), .cl) else .bad
  | _ => .bad

def rgOk : Int → Bool := (shut fun i => decide (-4611686018427387904 ≤ i) && decide (i < 4611686018427387904)).1
theorem rgOk_def (i : Int) : rgOk i = (decide (-4611686018427387904 ≤ i) && decide (i < 4611686018427387904)) := congrFun (show rgOk = _ from (shut _).2) i

/-! how an object is made: its fields, laid in turn -/
abbrev IM := Rho → List String → List D → Res (List String × List D)
abbrev IF := List D → List String → List D → Res (List String × List D)
def setF : List String → List D → String → D → List String × List D
  | n :: ns, d :: ds, f, z => if n = f then (n :: ns, z :: ds) else (n :: (setF ns ds f z).1, d :: (setF ns ds f z).2)
  | _, _, f, z => ([f], [z])
def imNil : IM := fun _ ns es => .ok (ns, es)
def imFld (f : String) (a : EM) (r : IM) : IM := fun ρ ns es => (noEx (a ρ)).bind fun x => if (x.2.free || x.1.sc) && decide (ns.length < 900) then r ρ (setF ns es f x.1).1 (setF ns es f x.1).2 else .bad
def imBase (g : IF) (a : AM) (r : IM) : IM := fun ρ ns es => (noEx (a ρ)).bind fun xs => (kept xs).bind fun ds => (noEx (g ds ns es)).bind fun p => r ρ p.1 p.2
def mInit (np : Nat) (b : IM) : IF := fun ds ns es => if ds.length = np then noEx (b (.no :: ds.map .fz) ns es) else .bad
/-- C(..) -/
def mMake (C : String) (g : IF) (am : AM) : EM := fun ρ => (am ρ).bind fun xs => (kept xs).bind fun ds => (noEx (g ds [] [])).bind fun p => .ok (.obj C p.1 p.2, .fr)

/-- an __init__ whose first argument is a list of the caller's own, only read -/
def mInitB (np : Nat) (b : IM) : IF := fun ds ns es => match ds with
  | .seq .lst es0 :: ds' => if ds'.length + 1 = np then noEx (b (.no :: .oo .lst es0 :: ds'.map .fz) ns es) else .bad
  | _ => .bad
/-- C(x, ..), x the very list of a slot, of scalars -/
def mMakeB (C : String) (g : IF) (a : EM) (am : AM) : EM := fun ρ => (a ρ).bind fun x => match x with
  | (.seq .lst es0, .own _) => if es0.all D.sc then (am ρ).bind fun xs => (kept xs).bind fun ds => (noEx (g (.seq .lst es0 :: ds) [] [])).bind fun p => .ok (.obj C p.1 p.2, .fr) else .bad
  | _ => .bad

/-- an __init__ with its last parameters left out -/
def iDef (g : IF) (dd : List D) : IF := fun ds ns es => g (ds ++ dd) ns es

/-! ### statements -/
inductive Out where
  | nx (ρ : Rho) | rt (d : D) (fr : Bool) | bk (ρ : Rho) | ct (ρ : Rho) | ex (C : String) (ρ : Rho)
abbrev SM := Rho → Res Out
def smSkip : SM := fun ρ => .ok (.nx ρ)
def Out.go (o : Out) (b : SM) : Res Out := match o with
  | .nx ρ' => b ρ'
  | o => .ok o
@[simp] theorem Out.go_nx (ρ : Rho) (b : SM) : (Out.nx ρ).go b = b ρ := id rfl
@[simp] theorem Out.go_rt (d : D) (f : Bool) (b : SM) : (Out.rt d f).go b = .ok (.rt d f) := id rfl
@[simp] theorem Out.go_bk (ρ : Rho) (b : SM) : (Out.bk ρ).go b = .ok (.bk ρ) := id rfl
@[simp] theorem Out.go_ct (ρ : Rho) (b : SM) : (Out.ct ρ).go b = .ok (.ct ρ) := id rfl
@[simp] theorem Out.go_ex (C : String) (ρ : Rho) (b : SM) : (Out.ex C ρ).go b = .ok (.ex C ρ) := id rfl
def smSeq (a b : SM) : SM := fun ρ => (a ρ).bind fun o => o.go b
/-- a result of an expression, within a statement -/
def Res.st {α : Type} (r : Res α) (ρ : Rho) (f : α → Res Out) : Res Out := match r with
  | .ok a => f a
  | .ex C => .ok (.ex C ρ)
  | .bad => .bad
@[simp] theorem Res.st_ok {α : Type} (a : α) (ρ : Rho) (f : α → Res Out) : (Res.ok a).st ρ f = f a := id rfl
@[simp] theorem Res.st_ex {α : Type} (C : String) (ρ : Rho) (f : α → Res Out) : (Res.ex C : Res α).st ρ f = .ok (.ex C ρ) := id rfl
@[simp] theorem Res.st_bad {α : Type} (ρ : Rho) (f : α → Res Out) : (Res.bad : Res α).st ρ f = .bad := id rfl
/-- the slot's list is shared from here on -/
def frz (i : Nat) (ρ : Rho) : Rho := match ρ[i]? with
  | some (.oo k ds) => ρ.set i (.fz (k.asD ds))
  | _ => ρ
def putV (i : Nat) (x : Val) (ρ : Rho) : Res Rho := match x with
  | (d, .cl) => .ok (ρ.set i (.fz d))
  | (.seq .lst ds, .fr) => .ok (ρ.set i (.ow ds))
  | (.dic ks ds, .fr) => .ok (ρ.set i (.oo (.dic ks) ds))
  | (.obj C ns ds, .fr) => .ok (ρ.set i (.oo (.ins C ns) ds))
  | (.dit ks ds, .fr) => .ok (ρ.set i (.oo (.dit ks) ds))
  | (d, .own j) => .ok ((frz j ρ).set i (.fz d))
  | _ => .bad
def smSet (i : Nat) (a : EM) : SM := fun ρ => (a ρ).st ρ fun x => (putV i x ρ).bind fun ρ' => .ok (.nx ρ')
/-- a, b, .. = a tuple -/
def putAll : List Nat → List D → Rho → Res Rho
  | [], [], ρ => .ok ρ
  | i :: is, d :: ds, ρ => putAll is ds (ρ.set i (.fz d))
  | _, _, _ => .bad
def smUnp (is : List Nat) (a : EM) : SM := fun ρ => (a ρ).st ρ fun x => match x.1 with
  | .seq .tup ds => (putAll is ds ρ).bind fun ρ' => .ok (.nx ρ')
  | _ => .bad
/-- a, b = e, f (written) -/
def smPar (is : List Nat) (a : AM) : SM := fun ρ => (a ρ).st ρ fun xs => (kept xs).bind fun ds => (putAll is ds ρ).bind fun ρ' => .ok (.nx ρ')
def smExpr (a : EM) : SM := fun ρ => (a ρ).st ρ fun _ => .ok (.nx ρ)
@[simp] def Tg.new : Tg → Bool
  | .cl => false
  | _ => true
def smRet (a : EM) : SM := fun ρ => (a ρ).st ρ fun x => .ok (.rt x.1 x.2.new)
def smRetN : SM := fun _ => .ok (.rt .non false)
def smIf (t : TM) (a b : SM) : SM := fun ρ => (t ρ).st ρ fun k => if k then a ρ else b ρ
def smRaise (C : String) : SM := fun ρ => .ok (.ex C ρ)
def smNever : SM := fun _ => .bad
def smBreak : SM := fun ρ => .ok (.bk ρ)
def smCont : SM := fun ρ => .ok (.ct ρ)
/-- x.append(e) -/
def smApp (i : Nat) (a : EM) : SM := fun ρ => match ρ[i]? with
  | some (.oo .lst ds) => (a ρ).st ρ fun x => if (x.2.free || x.1.sc) && decide (ds.length < lim) then .ok (.nx (ρ.set i (.ow (ds ++ [x.1])))) else .bad
  | _ => .bad
/-- x.insert(i, e), i from 0 on -/
def smIns (i : Nat) (b a : EM) : SM := fun ρ => match ρ[i]? with
  | some (.oo .lst ds) => (b ρ).st ρ fun y => (a ρ).st ρ fun x => match y.1 with
    | .int j => if (x.2.free || x.1.sc) && decide (ds.length < lim) && rgOk j && decide (0 ≤ j) then .ok (.nx (ρ.set i (.ow (ds.take j.toNat ++ [x.1] ++ ds.drop j.toNat)))) else .bad
    | _ => .bad
  | _ => .bad
/-- x.extend(e), e a list -/
def smExt (i : Nat) (a : EM) : SM := fun ρ => match ρ[i]? with
  | some (.oo .lst ds) => (a ρ).st ρ fun x => match x.1 with
    | .seq .lst es => if ds.length + es.length ≤ lim then .ok (.nx (ρ.set i (.ow (ds ++ es)))) else .bad
    | _ => .bad
  | _ => .bad
/-- x[b] = a of a list of one's own -/
def smSetI (i : Nat) (b a : EM) : SM := fun ρ => (a ρ).st ρ fun x => match ρ[i]? with
  | some (.oo .lst ds) => (b ρ).st ρ fun y => match y.1 with
    | .int j => if x.2.free || x.1.sc then (match ixN ds.length j with
      | some k => .ok (.nx (ρ.set i (.ow (ds.set k x.1))))
      | none => .bad) else .bad
    | _ => .bad
  | _ => .bad
def smClear (i : Nat) : SM := fun ρ => match ρ[i]? with
  | some (.oo .lst _) => .ok (.nx (ρ.set i (.ow [])))
  | _ => .bad
/-- d[k] = v of a dict of one's own -/
def smPutD (i : Nat) (b c : EM) : SM := fun ρ => (c ρ).st ρ fun z => match ρ[i]? with
  | some (.oo (.dic ks) ds) => (b ρ).st ρ fun y => if y.1.key && (z.2.free || z.1.sc) && decide (ds.length < lim) then .ok (.nx (ρ.set i (.oo (.dic (dPut ks ds y.1 z.1).1) (dPut ks ds y.1 z.1).2))) else .bad
  | _ => .bad
def cNeS (x y : D) : Res Bool := match dEqS x y with
  | some k => .ok (!k)
  | none => .bad
/-- if t or d.setdefault(k, v) != e: s -/
def smIfSetd (i : Nat) (t : TM) (b c e : EM) (s : SM) : SM := fun ρ => (t ρ).st ρ fun k => if k then s ρ else match ρ[i]? with
  | some (.oo (.dic ks) ds) => (b ρ).st ρ fun y => (c ρ).st ρ fun z => if y.1.key && z.1.sc && decide (ds.length < lim) then (match dFind ks ds y.1 with
    | some d => (e ρ).st ρ fun w => (cNeS d w.1).bind fun k => if k then s ρ else .ok (.nx ρ)
    | none => (e (ρ.set i (.oo (.dic (ks ++ [y.1])) (ds ++ [z.1])))).st (ρ.set i (.oo (.dic (ks ++ [y.1])) (ds ++ [z.1]))) fun w => (cNeS z.1 w.1).bind fun k => if k then s (ρ.set i (.oo (.dic (ks ++ [y.1])) (ds ++ [z.1]))) else .ok (.nx (ρ.set i (.oo (.dic (ks ++ [y.1])) (ds ++ [z.1]))))) else .bad
  | _ => .bad
def smFrz (i : Nat) (a : SM) : SM := fun ρ => a (frz i ρ)

/-- behind a turn -/
def Out.turn (o : Out) (b : SM) : Res Out := match o with
  | .nx ρ2 => b ρ2
  | .ct ρ2 => b ρ2
  | .bk ρ2 => .ok (.nx ρ2)
  | o => .ok o
@[simp] theorem Out.turn_nx (ρ : Rho) (b : SM) : (Out.nx ρ).turn b = b ρ := id rfl
@[simp] theorem Out.turn_rt (d : D) (f : Bool) (b : SM) : (Out.rt d f).turn b = .ok (.rt d f) := id rfl
@[simp] theorem Out.turn_bk (ρ : Rho) (b : SM) : (Out.bk ρ).turn b = .ok (.nx ρ) := id rfl
@[simp] theorem Out.turn_ct (ρ : Rho) (b : SM) : (Out.ct ρ).turn b = b ρ := id rfl
@[simp] theorem Out.turn_ex (C : String) (ρ : Rho) (b : SM) : (Out.ex C ρ).turn b = .ok (.ex C ρ) := id rfl
def turns (put : D → Rho → Res Rho) (b : SM) : List D → SM
  | [], ρ => .ok (.nx ρ)
  | x :: xs, ρ => (put x ρ).bind fun ρ' => (b ρ').bind fun o => o.turn (turns put b xs)
def put1 (i : Nat) (d : D) (ρ : Rho) : Res Rho := .ok (ρ.set i (.fz d))
def putT (is : List Nat) (d : D) (ρ : Rho) : Res Rho := match d with
  | .seq .tup ds => putAll is ds ρ
  | _ => .bad
/-- what a loop walks: the items; the slot whose very list it is -/
abbrev WM := Rho → Res (List D × Option Nat)
@[simp] def Tg.slot : Tg → Option Nat
  | .own i => some i
  | _ => none
def frzO (o : Option Nat) (ρ : Rho) : Rho := match o with
  | some i => frz i ρ
  | none => ρ
def wmL (a : EM) : WM := fun ρ => (a ρ).bind fun x => match x.1 with
  | .seq .tup _ => .bad
  | .seq _ xs => .ok (xs, x.2.slot)
  | _ => .bad
def wmT (a : EM) : WM := fun ρ => (a ρ).bind fun x => match x.1 with
  | .seq .tup xs => .ok (xs, none)
  | _ => .bad
def wmS (a : EM) : WM := fun ρ => (a ρ).bind fun x => match x.1 with
  | .str s => .ok (s.map fun c => .str [c], none)
  | _ => .bad
/-- a list, a tuple or a text -/
def wmA (a : EM) : WM := fun ρ => (a ρ).bind fun x => match x.1 with
  | .seq .tup xs => .ok (xs, none)
  | .seq _ xs => .ok (xs, x.2.slot)
  | .str s => .ok (s.map fun c => .str [c], none)
  | _ => .bad
/-- zip of two lists -/
def zipD (ds es : List D) : List D := (ds.zip es).map fun p => D.seq .tup [p.1, p.2]
def slot2 : Option Nat → Option Nat → Option (Option Nat)
  | some _, some _ => none
  | some i, none => some (some i)
  | none, o => some o
def wmZip (a b : EM) : WM := fun ρ => (a ρ).bind fun x => (b ρ).bind fun y => match x.1, y.1 with
  | .seq k ds, .seq l es => if k = .tup ∨ l = .tup then .bad else (match slot2 x.2.slot y.2.slot with
    | some o => .ok (zipD ds es, o)
    | none => .bad)
  | _, _ => .bad
def rangeL (lo : Int) (n : Nat) : List D := (List.range n).map fun (k : Nat) => D.int (lo + (k : Int))
def wmR1 (a : EM) : WM := fun ρ => (a ρ).bind fun x => match x.1 with
  | .int j => if rgOk j then .ok (rangeL 0 j.toNat, none) else .bad
  | _ => .bad
def wmR2 (a b : EM) : WM := fun ρ => (a ρ).bind fun x => (b ρ).bind fun y => match x.1, y.1 with
  | .int i, .int j => if rgOk i && rgOk j then .ok (rangeL i (j - i).toNat, none) else .bad
  | _, _ => .bad
def rangeD (hi : Int) (n : Nat) : List D := (List.range n).map fun (k : Nat) => D.int (hi - (k : Int))
/-- range(i, j, -1) -/
def wmR3 (a b c : EM) : WM := fun ρ => (a ρ).bind fun x => (b ρ).bind fun y => (c ρ).bind fun z => match x.1, y.1, z.1 with
  | .int i, .int j, .int k => if rgOk i && rgOk j && decide (k = -1) then .ok (rangeD i (i - j).toNat, none) else .bad
  | _, _, _ => .bad
def rangeS (lo st : Int) (n : Nat) : List D := (List.range n).map fun (k : Nat) => D.int (lo + (k : Int) * st)
/-- range(i, j, k), k above 0 -/
def wmRS (a b c : EM) : WM := fun ρ => (a ρ).bind fun x => (b ρ).bind fun y => (c ρ).bind fun z => match x.1, y.1, z.1 with
  | .int i, .int j, .int k => if rgOk i && rgOk j && decide (0 < k) && decide (k < 1073741824) then .ok (rangeS i k (if i < j then (j - i - 1) / k + 1 else 0).toNat, none) else .bad
  | _, _, _ => .bad
def smFor (put : D → Rho → Res Rho) (w : WM) (b : SM) : SM := fun ρ => (w ρ).st ρ fun p => turns put b p.1 (frzO p.2 ρ)
def smWhile (t : TM) (b : SM) : Nat → SM
  | 0, _ => .bad
  | n + 1, ρ => (t ρ).st ρ fun k => if k then (b ρ).bind fun o => o.turn (smWhile t b n) else .ok (.nx ρ)
/-! comprehensions: is the own names, which are forgotten -/
@[simp] def wipeR (ρ : Rho) : List Nat → Rho
  | [] => ρ
  | v :: vs => (wipeR ρ vs).set v .no
def comp (put : D → Rho → Res Rho) (t : TM) (e : EM) (ρ : Rho) : List D → Res (List D)
  | [] => .ok []
  | x :: xs => (noEx (put x ρ)).bind fun ρ' => (noEx (t ρ')).bind fun k =>
    if k then (noEx (e ρ')).bind fun y => if y.2.free || y.1.sc then (comp put t e ρ xs).bind fun ys => .ok (y.1 :: ys) else .bad
    else comp put t e ρ xs
/-- no slot of a block's own holds a list of its own -/
def noOw (own : List Nat) (ρ : Rho) : Bool := own.all fun i => match ρ[i]? with
  | some (.oo _ _) => false
  | _ => true
def mComp (put : D → Rho → Res Rho) (own : List Nat) (w : WM) (t : TM) (e : EM) : EM := fun ρ => (w ρ).bind fun p => if noOw own ρ then
  (comp put t e (wipeR ρ own) p.1).bind fun ys => if p.1.length < lim then .ok (.seq .lst ys, .fr) else .bad else .bad
def tmYes : TM := fun _ => .ok true

/-! ### try -/
/-- behind a handler whose name is in slot i -/
def smEnd (i : Nat) : Out → Res Out
  | .nx ρ => .ok (.nx (ρ.set i .no))
  | .bk ρ => .ok (.bk (ρ.set i .no))
  | .ct ρ => .ok (.ct (ρ.set i .no))
  | .ex _ _ => .bad
  | .rt d f => .ok (.rt d f)
def smCatch (U cs : List String) (i : Nat) (h : SM) : Out → Res Out
  | .ex C ρ => if U.contains C then (if cs.contains C then (h (ρ.set i (.ex C))).bind (smEnd i) else .ok (.ex C ρ)) else .bad
  | o => .ok o
/-- try: b, except a class as slot i: h; U: the classes that are known here, cs: those the clause takes -/
def smTry (U cs : List String) (i : Nat) (b : SM) (h : SM) : SM := fun ρ => (b ρ).bind (smCatch U cs i h)
/-- an except clause whose suite is: raise N('..') -/
def smCatchX (U cs : List String) (N : String) : Out → Res Out
  | .ex C ρ => if U.contains C then (if cs.contains C then .ok (.ex N ρ) else .ok (.ex C ρ)) else .bad
  | o => .ok o
def smTryX (U cs : List String) (N : String) (b : SM) : SM := fun ρ => (b ρ).bind (smCatchX U cs N)
def noExO : Out → Res Out
  | .ex _ _ => .bad
  | o => .ok o
/-- except clauses without a name -/
def catchM : List (List String × SM) → String → Rho → Res Out
  | [], C, ρ => .ok (.ex C ρ)
  | (cs, h) :: r, C, ρ => if cs.contains C then (h ρ).bind noExO else catchM r C ρ
def smCatchM (U : List String) (cl : List (List String × SM)) : Out → Res Out
  | .ex C ρ => if U.contains C then catchM cl C ρ else .bad
  | o => .ok o
def smTryM (U : List String) (cl : List (List String × SM)) (b : SM) : SM := fun ρ => (b ρ).bind (smCatchM U cl)
/-- isinstance(e, C) or isinstance(e, (C, ..)) of the exception in slot i: the answers by its class -/
def mExIs (i : Nat) (tb : List (String × Bool)) : EM := fun ρ => match ρ[i]? with
  | some (.ex C) => match tb.lookup C with
    | some b => .ok (.bl b, .cl)
    | none => .bad
  | _ => .bad

/-! ### defs -/
def Res.fin : Res Out → Res (D × Bool)
  | .ok (.nx _) => .ok (.non, false)
  | .ok (.rt d fr) => .ok (d, fr)
  | .ok (.ex C _) => .ex C
  | _ => .bad
@[simp] theorem Res.fin_nx (ρ : Rho) : (Res.ok (Out.nx ρ)).fin = .ok (.non, false) := id rfl
@[simp] theorem Res.fin_rt (d : D) (f : Bool) : (Res.ok (Out.rt d f)).fin = .ok (d, f) := id rfl
@[simp] theorem Res.fin_ex (C : String) (ρ : Rho) : (Res.ok (Out.ex C ρ)).fin = .ex C := id rfl
@[simp] theorem Res.fin_bad : (Res.bad : Res Out).fin = .bad := id rfl
def mFn (np nl : Nat) (b : SM) : FM := fun ds => if ds.length = np then (b (ds.map .fz ++ List.replicate nl .no)).fin else .bad
end
end Dm
end

section
set_option linter.all false
/-! Dm: how the mirror machine is reckoned on written slots. -/
namespace Dm
@[simp] theorem e_mC (d : D) (s0 : Sl) (r0 : Rho) : mC d (s0 :: r0) = .ok (d, .cl) := id rfl
@[simp] theorem e_mV (i : Nat) (s0 : Sl) (r0 : Rho) : mV i (s0 :: r0) = match (s0 :: r0)[i]? with
  | some (.fz d) => .ok (d, .cl)
  | some (.oo k ds) => .ok (k.asD ds, .own i)
  | _ => .bad := id rfl
@[simp] theorem e_mB (f : Op2) (a b : EM) (s0 : Sl) (r0 : Rho) : mB f a b (s0 :: r0) = (a (s0 :: r0)).bind fun x => (b (s0 :: r0)).bind fun y => f x.1 y.1 := id rfl
@[simp] theorem e_mCmp (f : D → D → Res Bool) (a b : EM) (s0 : Sl) (r0 : Rho) : mCmp f a b (s0 :: r0) = (a (s0 :: r0)).bind fun x => (b (s0 :: r0)).bind fun y => (f x.1 y.1).bind fun k => .ok (.bl k, .cl) := id rfl
@[simp] theorem e_mChain (f g : D → D → Res Bool) (a b c : EM) (s0 : Sl) (r0 : Rho) : mChain f g a b c (s0 :: r0) = (a (s0 :: r0)).bind fun x => (b (s0 :: r0)).bind fun y => (f x.1 y.1).bind fun k => if k then (c (s0 :: r0)).bind fun z => (g y.1 z.1).bind fun l => .ok (.bl l, .cl) else .ok (.bl false, .cl) := id rfl
@[simp] theorem e_mNeg (a : EM) (s0 : Sl) (r0 : Rho) : mNeg a (s0 :: r0) = (a (s0 :: r0)).bind fun x => match x.1 with
  | .int i => .ok (.int (-i), .cl)
  | _ => .bad := id rfl
@[simp] theorem e_mAnd (a b : EM) (s0 : Sl) (r0 : Rho) : mAnd a b (s0 :: r0) = (a (s0 :: r0)).bind fun x => x.1.isB.bind fun k => if k then b (s0 :: r0) else .ok (.bl false, .cl) := id rfl
@[simp] theorem e_mOr (a b : EM) (s0 : Sl) (r0 : Rho) : mOr a b (s0 :: r0) = (a (s0 :: r0)).bind fun x => x.1.isB.bind fun k => if k then .ok (.bl true, .cl) else b (s0 :: r0) := id rfl
@[simp] theorem e_mNot (a : EM) (s0 : Sl) (r0 : Rho) : mNot a (s0 :: r0) = (a (s0 :: r0)).bind fun x => x.1.isB.bind fun k => .ok (.bl (!k), .cl) := id rfl
@[simp] theorem e_mT (a : EM) (s0 : Sl) (r0 : Rho) : mT a (s0 :: r0) = (a (s0 :: r0)).bind fun x => x.1.tru := id rfl
@[simp] theorem e_mTB (a : EM) (s0 : Sl) (r0 : Rho) : mTB a (s0 :: r0) = (a (s0 :: r0)).bind fun x => x.1.isB := id rfl
@[simp] theorem e_tmAnd (a b : TM) (s0 : Sl) (r0 : Rho) : tmAnd a b (s0 :: r0) = (a (s0 :: r0)).bind fun k => if k then b (s0 :: r0) else .ok false := id rfl
@[simp] theorem e_tmOr (a b : TM) (s0 : Sl) (r0 : Rho) : tmOr a b (s0 :: r0) = (a (s0 :: r0)).bind fun k => if k then .ok true else b (s0 :: r0) := id rfl
@[simp] theorem e_tmNot (a : TM) (s0 : Sl) (r0 : Rho) : tmNot a (s0 :: r0) = (a (s0 :: r0)).bind fun k => .ok (!k) := id rfl
@[simp] theorem e_mIf (t : TM) (a b : EM) (s0 : Sl) (r0 : Rho) : mIf t a b (s0 :: r0) = (t (s0 :: r0)).bind fun k => if k then a (s0 :: r0) else b (s0 :: r0) := id rfl
@[simp] theorem e_mIx (a b : EM) (s0 : Sl) (r0 : Rho) : mIx a b (s0 :: r0) = (a (s0 :: r0)).bind fun x => (b (s0 :: r0)).bind fun y => (dIx x.1 y.1).bind fun d => .ok (d, .cl) := id rfl
@[simp] theorem e_mNoP (s0 : Sl) (r0 : Rho) : mNoP  (s0 :: r0) = .ok none := id rfl
@[simp] theorem e_mPart (a : EM) (s0 : Sl) (r0 : Rho) : mPart a (s0 :: r0) = (a (s0 :: r0)).bind fun x => match x.1 with
  | .int i => .ok (some i)
  | _ => .bad := id rfl
@[simp] theorem e_mCut (a : EM) (lo hi : OM) (s0 : Sl) (r0 : Rho) : mCut a lo hi (s0 :: r0) = (a (s0 :: r0)).bind fun x => (lo (s0 :: r0)).bind fun l => (hi (s0 :: r0)).bind fun h => dCut x.1 l h := id rfl
@[simp] theorem e_amNil (s0 : Sl) (r0 : Rho) : amNil  (s0 :: r0) = .ok [] := id rfl
@[simp] theorem e_amCons (a : EM) (r : AM) (s0 : Sl) (r0 : Rho) : amCons a r (s0 :: r0) = (a (s0 :: r0)).bind fun x => (r (s0 :: r0)).bind fun xs => .ok (x :: xs) := id rfl
@[simp] theorem e_mTup (a : AM) (s0 : Sl) (r0 : Rho) : mTup a (s0 :: r0) = (a (s0 :: r0)).bind fun xs => (kept xs).bind fun ds => if ds.length ≤ lim then .ok (.seq .tup ds, .cl) else .bad := id rfl
@[simp] theorem e_mLst (a : AM) (s0 : Sl) (r0 : Rho) : mLst a (s0 :: r0) = (a (s0 :: r0)).bind fun xs => (kept xs).bind fun ds => if ds.length ≤ lim then .ok (.seq .lst ds, .fr) else .bad := id rfl
@[simp] theorem e_mList (a : AM) (s0 : Sl) (r0 : Rho) : mList a (s0 :: r0) = (a (s0 :: r0)).bind mList1 := id rfl
@[simp] theorem e_mCall (g : FM) (a : AM) (s0 : Sl) (r0 : Rho) : mCall g a (s0 :: r0) = (a (s0 :: r0)).bind fun xs => (g (xs.map (·.1))).bind fun r =>
  if r.1.sc then .ok (r.1, .cl) else if xs.all (fun x => x.2.free || x.1.sc) then .ok (r.1, if r.2 then .fr else .cl) else .bad := id rfl
@[simp] theorem e_mBlt (f : List D → Res D) (a : AM) (s0 : Sl) (r0 : Rho) : mBlt f a (s0 :: r0) = (a (s0 :: r0)).bind fun xs => (f (xs.map (·.1))).bind fun d => .ok (d, .cl) := id rfl
@[simp] theorem e_mIs (T : String) (a : EM) (s0 : Sl) (r0 : Rho) : mIs T a (s0 :: r0) = (a (s0 :: r0)).bind fun x => match x.1 with
  | .obj _ _ _ => .bad
  | .dit _ _ => .bad
  | d => .ok (.bl (isT d.tn T), .cl) := id rfl
@[simp] theorem e_mS0 (f : List Nat → Res (D × Tg)) (a : EM) (s0 : Sl) (r0 : Rho) : mS0 f a (s0 :: r0) = (a (s0 :: r0)).bind fun x => match x.1 with
  | .str s => f s
  | _ => .bad := id rfl
@[simp] theorem e_mS1 (f : List Nat → D → Res (D × Tg)) (a b : EM) (s0 : Sl) (r0 : Rho) : mS1 f a b (s0 :: r0) = (a (s0 :: r0)).bind fun x => match x.1 with
  | .str s => (b (s0 :: r0)).bind fun y => f s y.1
  | _ => .bad := id rfl
@[simp] theorem e_smSkip (s0 : Sl) (r0 : Rho) : smSkip  (s0 :: r0) = .ok (.nx (s0 :: r0)) := id rfl
@[simp] theorem e_smSeq (a b : SM) (s0 : Sl) (r0 : Rho) : smSeq a b (s0 :: r0) = (a (s0 :: r0)).bind fun o => o.go b := id rfl
@[simp] theorem e_smSet (i : Nat) (a : EM) (s0 : Sl) (r0 : Rho) : smSet i a (s0 :: r0) = (a (s0 :: r0)).st (s0 :: r0) fun x => (putV i x (s0 :: r0)).bind fun ρ' => .ok (.nx ρ') := id rfl
@[simp] theorem e_smUnp (is : List Nat) (a : EM) (s0 : Sl) (r0 : Rho) : smUnp is a (s0 :: r0) = (a (s0 :: r0)).st (s0 :: r0) fun x => match x.1 with
  | .seq .tup ds => (putAll is ds (s0 :: r0)).bind fun ρ' => .ok (.nx ρ')
  | _ => .bad := id rfl
@[simp] theorem e_smPar (is : List Nat) (a : AM) (s0 : Sl) (r0 : Rho) : smPar is a (s0 :: r0) = (a (s0 :: r0)).st (s0 :: r0) fun xs => (kept xs).bind fun ds => (putAll is ds (s0 :: r0)).bind fun ρ' => .ok (.nx ρ') := id rfl
@[simp] theorem e_smExpr (a : EM) (s0 : Sl) (r0 : Rho) : smExpr a (s0 :: r0) = (a (s0 :: r0)).st (s0 :: r0) fun _ => .ok (.nx (s0 :: r0)) := id rfl
@[simp] theorem e_smRet (a : EM) (s0 : Sl) (r0 : Rho) : smRet a (s0 :: r0) = (a (s0 :: r0)).st (s0 :: r0) fun x => .ok (.rt x.1 x.2.new) := id rfl
@[simp] theorem e_smRetN (s0 : Sl) (r0 : Rho) : smRetN  (s0 :: r0) = .ok (.rt .non false) := id rfl
@[simp] theorem e_smIf (t : TM) (a b : SM) (s0 : Sl) (r0 : Rho) : smIf t a b (s0 :: r0) = (t (s0 :: r0)).st (s0 :: r0) fun k => if k then a (s0 :: r0) else b (s0 :: r0) := id rfl
@[simp] theorem e_smRaise (C : String) (s0 : Sl) (r0 : Rho) : smRaise C (s0 :: r0) = .ok (.ex C (s0 :: r0)) := id rfl
@[simp] theorem e_smNever (s0 : Sl) (r0 : Rho) : smNever  (s0 :: r0) = .bad := id rfl
@[simp] theorem e_smBreak (s0 : Sl) (r0 : Rho) : smBreak  (s0 :: r0) = .ok (.bk (s0 :: r0)) := id rfl
@[simp] theorem e_smCont (s0 : Sl) (r0 : Rho) : smCont  (s0 :: r0) = .ok (.ct (s0 :: r0)) := id rfl
@[simp] theorem e_smApp (i : Nat) (a : EM) (s0 : Sl) (r0 : Rho) : smApp i a (s0 :: r0) = match (s0 :: r0)[i]? with
  | some (.oo .lst ds) => (a (s0 :: r0)).st (s0 :: r0) fun x => if (x.2.free || x.1.sc) && decide (ds.length < lim) then .ok (.nx ((s0 :: r0).set i (.ow (ds ++ [x.1])))) else .bad
  | _ => .bad := id rfl
@[simp] theorem e_smClear (i : Nat) (s0 : Sl) (r0 : Rho) : smClear i (s0 :: r0) = match (s0 :: r0)[i]? with
  | some (.oo .lst _) => .ok (.nx ((s0 :: r0).set i (.ow [])))
  | _ => .bad := id rfl
@[simp] theorem e_wmL (a : EM) (s0 : Sl) (r0 : Rho) : wmL a (s0 :: r0) = (a (s0 :: r0)).bind fun x => match x.1 with
  | .seq .tup _ => .bad
  | .seq _ xs => .ok (xs, x.2.slot)
  | _ => .bad := id rfl
@[simp] theorem e_wmT (a : EM) (s0 : Sl) (r0 : Rho) : wmT a (s0 :: r0) = (a (s0 :: r0)).bind fun x => match x.1 with
  | .seq .tup xs => .ok (xs, none)
  | _ => .bad := id rfl
@[simp] theorem e_wmS (a : EM) (s0 : Sl) (r0 : Rho) : wmS a (s0 :: r0) = (a (s0 :: r0)).bind fun x => match x.1 with
  | .str s => .ok (s.map fun c => .str [c], none)
  | _ => .bad := id rfl
@[simp] theorem e_wmA (a : EM) (s0 : Sl) (r0 : Rho) : wmA a (s0 :: r0) = (a (s0 :: r0)).bind fun x => match x.1 with
  | .seq .tup xs => .ok (xs, none)
  | .seq _ xs => .ok (xs, x.2.slot)
  | .str s => .ok (s.map fun c => .str [c], none)
  | _ => .bad := id rfl
@[simp] theorem e_wmR1 (a : EM) (s0 : Sl) (r0 : Rho) : wmR1 a (s0 :: r0) = (a (s0 :: r0)).bind fun x => match x.1 with
  | .int j => if rgOk j then .ok (rangeL 0 j.toNat, none) else .bad
  | _ => .bad := id rfl
@[simp] theorem e_wmR2 (a b : EM) (s0 : Sl) (r0 : Rho) : wmR2 a b (s0 :: r0) = (a (s0 :: r0)).bind fun x => (b (s0 :: r0)).bind fun y => match x.1, y.1 with
  | .int i, .int j => if rgOk i && rgOk j then .ok (rangeL i (j - i).toNat, none) else .bad
  | _, _ => .bad := id rfl
@[simp] theorem e_smFor (put : D → Rho → Res Rho) (w : WM) (b : SM) (s0 : Sl) (r0 : Rho) : smFor put w b (s0 :: r0) = (w (s0 :: r0)).st (s0 :: r0) fun p => turns put b p.1 (frzO p.2 (s0 :: r0)) := id rfl
@[simp] theorem e_mComp (put : D → Rho → Res Rho) (own : List Nat) (w : WM) (t : TM) (e : EM) (s0 : Sl) (r0 : Rho) : mComp put own w t e (s0 :: r0) = (w (s0 :: r0)).bind fun p => if noOw own (s0 :: r0) then
  (comp put t e (wipeR (s0 :: r0) own) p.1).bind fun ys => if p.1.length < lim then .ok (.seq .lst ys, .fr) else .bad else .bad := id rfl
@[simp] theorem e_tmYes (s0 : Sl) (r0 : Rho) : tmYes  (s0 :: r0) = .ok true := id rfl
@[simp] theorem e_smTry (U cs : List String) (i : Nat) (b : SM) (h : SM) (s0 : Sl) (r0 : Rho) : smTry U cs i b h (s0 :: r0) = (b (s0 :: r0)).bind (smCatch U cs i h) := id rfl
@[simp] theorem e_smTryX (U cs : List String) (N : String) (b : SM) (s0 : Sl) (r0 : Rho) : smTryX U cs N b (s0 :: r0) = (b (s0 :: r0)).bind (smCatchX U cs N) := id rfl
@[simp] theorem e_smTryM (U : List String) (cl : List (List String × SM)) (b : SM) (s0 : Sl) (r0 : Rho) : smTryM U cl b (s0 :: r0) = (b (s0 :: r0)).bind (smCatchM U cl) := id rfl
@[simp] theorem e_mDix (ks : List (List Nat)) (ds : List D) (a : EM) (s0 : Sl) (r0 : Rho) : mDix ks ds a (s0 :: r0) = (a (s0 :: r0)).bind fun y => (dGet (.dic (ks.map .str) ds) y.1).bind fun d => .ok (d, .cl) := id rfl
@[simp] theorem e_mIxD (a b : EM) (s0 : Sl) (r0 : Rho) : mIxD a b (s0 :: r0) = (a (s0 :: r0)).bind fun x => (b (s0 :: r0)).bind fun y => (dGet x.1 y.1).bind fun d => .ok (d, .cl) := id rfl
@[simp] theorem e_mD0 (s0 : Sl) (r0 : Rho) : mD0  (s0 :: r0) = .ok (.dic [] [], .fr) := id rfl
@[simp] theorem e_mDisp (ks : List D) (a : AM) (s0 : Sl) (r0 : Rho) : mDisp ks a (s0 :: r0) = (a (s0 :: r0)).bind fun xs => (kept xs).bind fun ds => if ds.length = ks.length then .ok (.dic ks ds, .fr) else .bad := id rfl
@[simp] theorem e_mGet2 (a b c : EM) (s0 : Sl) (r0 : Rho) : mGet2 a b c (s0 :: r0) = (a (s0 :: r0)).bind fun x => match x.1 with
  | .dic ks vs => (b (s0 :: r0)).bind fun y => (c (s0 :: r0)).bind fun z => if y.1.key && (z.2.free || z.1.sc) then .ok ((dFind ks vs y.1).getD z.1, .cl) else .bad
  | _ => .bad := id rfl
@[simp] theorem e_smPutD (i : Nat) (b c : EM) (s0 : Sl) (r0 : Rho) : smPutD i b c (s0 :: r0) = (c (s0 :: r0)).st (s0 :: r0) fun z => match (s0 :: r0)[i]? with
  | some (.oo (.dic ks) ds) => (b (s0 :: r0)).st (s0 :: r0) fun y => if y.1.key && (z.2.free || z.1.sc) && decide (ds.length < lim) then .ok (.nx ((s0 :: r0).set i (.oo (.dic (dPut ks ds y.1 z.1).1) (dPut ks ds y.1 z.1).2))) else .bad
  | _ => .bad := id rfl
@[simp] theorem e_smIfSetd (i : Nat) (t : TM) (b c e : EM) (s : SM) (s0 : Sl) (r0 : Rho) : smIfSetd i t b c e s (s0 :: r0) = (t (s0 :: r0)).st (s0 :: r0) fun k => if k then s (s0 :: r0) else match (s0 :: r0)[i]? with
  | some (.oo (.dic ks) ds) => (b (s0 :: r0)).st (s0 :: r0) fun y => (c (s0 :: r0)).st (s0 :: r0) fun z => if y.1.key && z.1.sc && decide (ds.length < lim) then (match dFind ks ds y.1 with
    | some d => (e (s0 :: r0)).st (s0 :: r0) fun w => (cNeS d w.1).bind fun k => if k then s (s0 :: r0) else .ok (.nx (s0 :: r0))
    | none => (e ((s0 :: r0).set i (.oo (.dic (ks ++ [y.1])) (ds ++ [z.1])))).st ((s0 :: r0).set i (.oo (.dic (ks ++ [y.1])) (ds ++ [z.1]))) fun w => (cNeS z.1 w.1).bind fun k => if k then s ((s0 :: r0).set i (.oo (.dic (ks ++ [y.1])) (ds ++ [z.1]))) else .ok (.nx ((s0 :: r0).set i (.oo (.dic (ks ++ [y.1])) (ds ++ [z.1]))))) else .bad
  | _ => .bad := id rfl
@[simp] theorem e_mFld (Cs : List String) (f : String) (a : EM) (s0 : Sl) (r0 : Rho) : mFld Cs f a (s0 :: r0) = (a (s0 :: r0)).bind fun x => match x.1 with
  | .obj C ns ds => if Cs.contains C then (match fGet ns ds f with
    | some d => .ok (d, .cl)
    | none => .bad) else .bad
  | _ => .bad := id rfl
@[simp] theorem e_mMeth (tbl : List (String × FM)) (m : String) (o : EM) (am : AM) (s0 : Sl) (r0 : Rho) : mMeth tbl m o am (s0 :: r0) = (noEx (o (s0 :: r0))).bind fun x => match x.1 with
  | .obj C ns ds => if fGet ns ds m = none then (match tbl.lookup C with
    | some g => (am (s0 :: r0)).bind fun xs => (g (x.1 :: xs.map (·.1))).bind fun r => if r.1.sc then .ok (r.1, .cl) else if (x :: xs).all (fun x => x.2.free || x.1.sc) then .ok (r.1, if r.2 then .fr else .cl) else .bad
    | none => .bad) else .bad
  | _ => .bad := id rfl
@[simp] theorem e_mIsC (U cs : List String) (a : EM) (s0 : Sl) (r0 : Rho) : mIsC U cs a (s0 :: r0) = (a (s0 :: r0)).bind fun x => match x.1 with
  | .obj C _ _ => if U.contains C then .ok (.bl (cs.contains C), .cl) else .bad
  | .dit _ _ => .bad
  | _ => .ok (.bl false, .cl) := id rfl
@[simp] theorem e_mExIs (i : Nat) (tb : List (String × Bool)) (s0 : Sl) (r0 : Rho) : mExIs i tb (s0 :: r0) = match (s0 :: r0)[i]? with
  | some (.ex C) => match tb.lookup C with
    | some b => .ok (.bl b, .cl)
    | none => .bad
  | _ => .bad := id rfl
@[simp] theorem e_mRevS (a : EM) (s0 : Sl) (r0 : Rho) : mRevS a (s0 :: r0) = (a (s0 :: r0)).bind fun x => match x.1 with
  | .str s => if s.length ≤ lim then .ok (.str s.reverse, .cl) else .bad
  | _ => .bad := id rfl
@[simp] theorem e_mSorted (a : AM) (s0 : Sl) (r0 : Rho) : mSorted a (s0 :: r0) = (a (s0 :: r0)).bind mSort1 := id rfl
@[simp] theorem e_smIns (i : Nat) (b a : EM) (s0 : Sl) (r0 : Rho) : smIns i b a (s0 :: r0) = match (s0 :: r0)[i]? with
  | some (.oo .lst ds) => (b (s0 :: r0)).st (s0 :: r0) fun y => (a (s0 :: r0)).st (s0 :: r0) fun x => match y.1 with
    | .int j => if (x.2.free || x.1.sc) && decide (ds.length < lim) && rgOk j && decide (0 ≤ j) then .ok (.nx ((s0 :: r0).set i (.ow (ds.take j.toNat ++ [x.1] ++ ds.drop j.toNat)))) else .bad
    | _ => .bad
  | _ => .bad := id rfl
@[simp] theorem e_wmR3 (a b c : EM) (s0 : Sl) (r0 : Rho) : wmR3 a b c (s0 :: r0) = (a (s0 :: r0)).bind fun x => (b (s0 :: r0)).bind fun y => (c (s0 :: r0)).bind fun z => match x.1, y.1, z.1 with
  | .int i, .int j, .int k => if rgOk i && rgOk j && decide (k = -1) then .ok (rangeD i (i - j).toNat, none) else .bad
  | _, _, _ => .bad := id rfl
@[simp] theorem e_mMake (C : String) (g : IF) (am : AM) (s0 : Sl) (r0 : Rho) : mMake C g am (s0 :: r0) = (am (s0 :: r0)).bind fun xs => (kept xs).bind fun ds => (noEx (g ds [] [])).bind fun p => .ok (.obj C p.1 p.2, .fr) := id rfl
@[simp] theorem e_mIdx (a b : EM) (s0 : Sl) (r0 : Rho) : mIdx a b (s0 :: r0) = (a (s0 :: r0)).bind fun x => match x.1 with
  | .seq .lst ds => (b (s0 :: r0)).bind fun y => (match y.1 with
    | .str s => if ds.all D.isS && decide (ds.length ≤ lim) then (match ds.findIdx? fun d => D.eqv d (.str s) with
      | some j => .ok (.int j, .cl)
      | none => .bad) else .bad
    | _ => .bad)
  | _ => .bad := id rfl
@[simp] theorem e_smFrz (i : Nat) (a : SM) (s0 : Sl) (r0 : Rho) : smFrz i a (s0 :: r0) = a (frz i (s0 :: r0)) := id rfl
@[simp] theorem e_mStep (e lo st : EM) (s0 : Sl) (r0 : Rho) : mStep e lo st (s0 :: r0) = (e (s0 :: r0)).bind fun x => match x.1 with
  | .str s => (lo (s0 :: r0)).bind fun y => (match y.1 with
    | .int a => (st (s0 :: r0)).bind fun z => (match z.1 with
      | .int k => if decide (s.length ≤ lim) && decide (0 ≤ a) && decide (0 < k) then .ok (.str (stepL s a.toNat k.toNat), .cl) else .bad
      | _ => .bad)
    | _ => .bad)
  | _ => .bad := id rfl
@[simp] theorem e_mFn (np nl : Nat) (b : SM) (ds : List D) : mFn np nl b ds = if ds.length = np then (b (ds.map .fz ++ List.replicate nl .no)).fin else .bad := rfl
section
variable (i j : Int) (a b : Bool) (s t u : List Nat) (xs ys : List D) (d x y : D) (c : Nat) (k : SK) (C : String) (r : Rho) (n m : Nat) (l h : Option Int) (v : Val) (vs : List Val) (is : List Nat)
@[simp] theorem isB_bl' : (D.bl a).isB = .ok a := id rfl
@[simp] theorem tru_non : D.non.tru = .ok false := id rfl
@[simp] theorem tru_bl : (D.bl a).tru = .ok a := id rfl
@[simp] theorem tru_int : (D.int i).tru = .ok (i != 0) := id rfl
@[simp] theorem tru_str : (D.str s).tru = if s.length ≤ lim then .ok (!s.isEmpty) else .bad := id rfl
@[simp] theorem tru_seq : (D.seq k xs).tru = .ok (!xs.isEmpty) := id rfl
@[simp] theorem oAdd_ii : oAdd (.int i) (.int j) = .ok (.int (i + j), .cl) := id rfl
@[simp] theorem oAdd_ss : oAdd (.str s) (.str t) = if s.length + t.length ≤ lim then .ok (.str (s ++ t), .cl) else .bad := id rfl
@[simp] theorem oAdd_ll : oAdd (.seq .lst xs) (.seq .lst ys) = if xs.length + ys.length ≤ lim then .ok (.seq .lst (xs ++ ys), .fr) else .bad := id rfl
@[simp] theorem oAdd_tt : oAdd (.seq .tup xs) (.seq .tup ys) = if xs.length + ys.length ≤ lim then .ok (.seq .tup (xs ++ ys), .cl) else .bad := id rfl
@[simp] theorem oSub_ii : oSub (.int i) (.int j) = .ok (.int (i - j), .cl) := id rfl
@[simp] theorem oMul_ii : oMul (.int i) (.int j) = if mulOk i j then .ok (.int (i * j), .cl) else .bad := id rfl
@[simp] theorem oMul_si : oMul (.str s) (.int i) = if decide (s.length * i.toNat ≤ lim) && decide (-9223372036854775808 ≤ i) && decide (i < 9223372036854775808) then .ok (.str (List.replicate i.toNat s).flatten, .cl) else .bad := id rfl
@[simp] theorem oMul_li : oMul (.seq .lst xs) (.int i) = if decide (-9223372036854775808 ≤ i) && decide (i < 9223372036854775808) && decide (xs.length * i.toNat ≤ lim) then .ok (.seq .lst (List.replicate i.toNat xs).flatten, .fr) else .bad := id rfl
@[simp] theorem oFdiv_ii : oFdiv (.int i) (.int j) = if decide (j ≠ 0) && lg j 9000 then .ok (.int (fdivI i j), .cl) else .bad := id rfl
@[simp] theorem oMod_ii : oMod (.int i) (.int j) = if decide (j ≠ 0) then .ok (.int (fmodI i j), .cl) else .bad := id rfl
@[simp] theorem oPow_ii : oPow (.int i) (.int j) = if decide (0 ≤ j) && decide (j ≤ 1000000) && decide (i.natAbs < 18446744073709551616) then .ok (.int (i ^ j.toNat), .cl) else .bad := id rfl
@[simp] theorem oShr_ii : oShr (.int i) (.int j) = if decide (0 ≤ j) then .ok (.int (i / 2 ^ j.toNat), .cl) else .bad := id rfl
@[simp] theorem cLt_ii : cLt (.int i) (.int j) = .ok (decide (i < j)) := id rfl
@[simp] theorem cLt_ss : cLt (.str s) (.str t) = .ok (ltL s t) := id rfl
@[simp] theorem cLe_ii : cLe (.int i) (.int j) = .ok (decide (i ≤ j)) := id rfl
@[simp] theorem cLe_ss : cLe (.str s) (.str t) = .ok (!ltL t s) := id rfl
@[simp] theorem cGt_ii : cGt (.int i) (.int j) = .ok (decide (j < i)) := id rfl
@[simp] theorem cGt_ss : cGt (.str s) (.str t) = .ok (ltL t s) := id rfl
@[simp] theorem cGe_ii : cGe (.int i) (.int j) = .ok (decide (j ≤ i)) := id rfl
@[simp] theorem cGe_ss : cGe (.str s) (.str t) = .ok (!ltL s t) := id rfl
@[simp] theorem cEq_' : cEq x y = dEqB x y := id rfl
@[simp] theorem cNe_' : cNe x y = (dEqB x y).bind fun b => .ok (!b) := id rfl
@[simp] theorem dEqB_ii : dEqB (.int i) (.int j) = .ok (i == j) := id rfl
@[simp] theorem dEqB_ss : dEqB (.str s) (.str t) = .ok (s == t) := id rfl
@[simp] theorem dEqB_bb : dEqB (.bl a) (.bl b) = .ok (a == b) := id rfl
@[simp] theorem dEqB_nn : dEqB .non .non = .ok true := id rfl
@[simp] theorem dEqB_ni : dEqB .non (.int i) = .ok false := id rfl
@[simp] theorem dEqB_in : dEqB (.int i) .non = .ok false := id rfl
@[simp] theorem dEqB_is : dEqB (.int i) (.str s) = .ok false := id rfl
@[simp] theorem dEqB_si : dEqB (.str s) (.int i) = .ok false := id rfl
@[simp] theorem dEqB_ns : dEqB .non (.str s) = .ok false := id rfl
@[simp] theorem dEqB_sn : dEqB (.str s) .non = .ok false := id rfl
@[simp] theorem dEqB_qq (k' : SK) : dEqB (.seq k xs) (.seq k' ys) = if D.lay 12 (.seq k xs) && D.lay 12 (.seq k' ys) then .ok (((k == .tup) == (k' == .tup)) && D.eqvs xs ys) else .bad := id rfl
@[simp] theorem eqv_ii : D.eqv (.int i) (.int j) = (i == j) := id rfl
@[simp] theorem eqv_ss : D.eqv (.str s) (.str t) = (s == t) := id rfl
@[simp] theorem eqv_bb : D.eqv (.bl a) (.bl b) = (a == b) := id rfl
@[simp] theorem eqv_nn : D.eqv .non .non = true := id rfl
@[simp] theorem eqv_qq (k' : SK) : D.eqv (.seq k xs) (.seq k' ys) = (((k == .tup) == (k' == .tup)) && D.eqvs xs ys) := by simp only [D.eqv]
@[simp] theorem eqvs_nn : D.eqvs [] [] = true := id rfl
@[simp] theorem eqvs_cc : D.eqvs (x :: xs) (y :: ys) = (D.eqv x y && D.eqvs xs ys) := id rfl
@[simp] theorem eqvs_nc : D.eqvs [] (y :: ys) = false := id rfl
@[simp] theorem eqvs_cn : D.eqvs (x :: xs) [] = false := id rfl
@[simp] theorem lay_i : D.lay n (.int i) = true := by cases n <;> rfl
@[simp] theorem lay_b : D.lay n (.bl a) = true := by cases n <;> rfl
@[simp] theorem lay_n : D.lay n .non = true := by cases n <;> rfl
@[simp] theorem lay_s : D.lay n (.str s) = s.all (· < 1114112) := by cases n <;> rfl
@[simp] theorem lay_q : D.lay (n + 1) (.seq k xs) = xs.all (D.lay n) := id rfl
@[simp] theorem cIsN_n : cIsN .non .non = .ok true := id rfl
@[simp] theorem cIsN_i : cIsN (.int i) .non = .ok false := id rfl
@[simp] theorem cIsN_s : cIsN (.str s) .non = .ok false := id rfl
@[simp] theorem cIsN_q : cIsN (.seq k xs) .non = .ok false := id rfl
@[simp] theorem cNotN_n : cNotN .non .non = .ok false := id rfl
@[simp] theorem cNotN_i : cNotN (.int i) .non = .ok true := id rfl
@[simp] theorem cNotN_s : cNotN (.str s) .non = .ok true := id rfl
@[simp] theorem cNotN_q : cNotN (.seq k xs) .non = .ok true := id rfl
@[simp] theorem cIn_cs : cIn (.str [c]) (.str t) = .ok (decide (c ∈ t)) := id rfl
@[simp] theorem cIn_iq : cIn (.int i) (.seq k xs) = if (xs.all D.sc) || (!(k == .tup) && xs.all (D.lay 11)) then .ok (inB (.int i) xs) else .bad := by simp [cIn, D.sc]
@[simp] theorem cIn_sq : cIn (.str s) (.seq k xs) = if (xs.all D.sc) || (!(k == .tup) && s.all (· < 1114112) && xs.all (D.lay 11)) then .ok (inB (.str s) xs) else .bad := by
  unfold cIn
  split
  · rename_i h1 h2; cases h2
  · rename_i h1 h2; cases h2; simp [D.sc]
  · rename_i h _; exact absurd rfl (h _ _)
@[simp] theorem cIn_qq (k' : SK) : cIn (.seq k xs) (.seq k' ys) = if (!(k' == .tup) && D.lay 11 (.seq k xs) && ys.all (D.lay 11)) then .ok (inB (.seq k xs) ys) else .bad := by simp [cIn, D.sc]
@[simp] theorem cNotIn_' : cNotIn x y = (cIn x y).bind fun b => .ok (!b) := id rfl
@[simp] theorem sc_i : (D.int i).sc = true := id rfl
@[simp] theorem sc_b : (D.bl a).sc = true := id rfl
@[simp] theorem sc_n : D.non.sc = true := id rfl
@[simp] theorem sc_s : (D.str s).sc = true := id rfl
@[simp] theorem sc_q : (D.seq k xs).sc = false := id rfl
@[simp] theorem sc_o (ns : List String) : (D.obj C ns xs).sc = false := id rfl
@[simp] theorem dIx_q : dIx (.seq k xs) (.int i) = match atI xs i with | some d => .ok d | none => .bad := id rfl
@[simp] theorem dIx_s : dIx (.str s) (.int i) = if s.length ≤ lim then (match atI s i with | some c => .ok (.str [c]) | none => .bad) else .bad := id rfl
@[simp] theorem dCut_s : dCut (.str s) l h = if s.length ≤ lim then .ok (.str (cutL s l h), .cl) else .bad := id rfl
@[simp] theorem dCut_l : dCut (.seq .lst xs) l h = .ok (.seq .lst (cutL xs l h), .fr) := id rfl
@[simp] theorem dCut_r : dCut (.seq .rol xs) l h = .ok (.seq .lst (cutL xs l h), .fr) := id rfl
@[simp] theorem kept_' : kept vs = if vs.all (fun x => x.2.free || x.1.sc) then .ok (vs.map (·.1)) else .bad := id rfl
@[simp] theorem bLen_q : bLen [.seq k xs] = .ok (.int xs.length) := id rfl
@[simp] theorem bLen_s : bLen [.str s] = if s.length ≤ lim then .ok (.int s.length) else .bad := id rfl
@[simp] theorem bAbs_i : bAbs [.int i] = .ok (.int (if i < 0 then -i else i)) := id rfl
@[simp] theorem bMax_i : bMax [.int i, .int j] = .ok (.int (if j > i then j else i)) := id rfl
@[simp] theorem bMin_i : bMin [.int i, .int j] = .ok (.int (if j < i then j else i)) := id rfl
@[simp] theorem bInt_i : bInt [.int i] = .ok (.int i) := id rfl
@[simp] theorem bInt_b : bInt [.bl a] = .ok (.int (if a then 1 else 0)) := id rfl
@[simp] theorem bStr_i : bStr [.int i] = if lg i 1920 then .ok (.str (decI i)) else .bad := id rfl
@[simp] theorem bDivmod_i : bDivmod [.int i, .int j] = if decide (0 < j) && decide (j < 1073741824) then .ok (.seq .tup [.int (i / j), .int (i % j)]) else .bad := id rfl
@[simp] theorem fFind_c : fFind s (.str [c]) = .ok (.int (findL s c), .cl) := id rfl
@[simp] theorem tn_n : D.non.tn = "NoneType" := id rfl
@[simp] theorem tn_b : (D.bl a).tn = "bool" := id rfl
@[simp] theorem tn_i : (D.int i).tn = "int" := id rfl
@[simp] theorem tn_s : (D.str s).tn = "str" := id rfl
@[simp] theorem tn_t : (D.seq .tup xs).tn = "tuple" := id rfl
@[simp] theorem tn_l : (D.seq .lst xs).tn = "list" := id rfl
@[simp] theorem tn_r : (D.seq .rol xs).tn = "list" := id rfl
@[simp] theorem tn_d (ks : List D) : (D.dic ks xs).tn = "dict" := id rfl
@[simp] theorem noEx_ok {α : Type} (z : α) : noEx (.ok z) = .ok z := id rfl
@[simp] theorem putV_cl : putV n (d, .cl) r = .ok (r.set n (.fz d)) := id rfl
@[simp] theorem putV_fr : putV n (.seq .lst xs, .fr) r = .ok (r.set n (.ow xs)) := id rfl
@[simp] theorem putV_frD (ks : List D) : putV n (.dic ks xs, .fr) r = .ok (r.set n (.oo (.dic ks) xs)) := id rfl
@[simp] theorem putV_own : putV n (d, .own m) r = .ok ((frz m r).set n (.fz d)) := id rfl
@[simp] theorem putAll_n : putAll [] [] r = .ok r := id rfl
@[simp] theorem putAll_c : putAll (n :: is) (d :: xs) r = putAll is xs (r.set n (.fz d)) := id rfl
@[simp] theorem put1_' : put1 n d r = .ok (r.set n (.fz d)) := id rfl
@[simp] theorem putT_t : putT is (.seq .tup xs) r = putAll is xs r := id rfl
@[simp] theorem frzO_n : frzO none r = r := id rfl
@[simp] theorem frzO_s : frzO (some n) r = frz n r := id rfl
@[simp] theorem frz_' : frz n r = match r[n]? with | some (.oo k ds) => r.set n (.fz (k.asD ds)) | _ => r := id rfl
@[simp] theorem noOw_n : noOw [] r = true := id rfl
@[simp] theorem noOw_c : noOw (n :: is) r = ((match r[n]? with | some (.oo _ _) => false | _ => true) && noOw is r) := id rfl
end
@[simp] theorem mList1_q (k : SK) (ds : List D) (t : Tg) : mList1 [(.seq k ds, t)] = .ok (.seq .lst ds, .fr) := id rfl
@[simp] theorem dGet_k (ks vs : List D) (y : D) : dGet (.dic ks vs) y = if y.key then (match dFind ks vs y with
    | some d => .ok d
    | none => .bad) else .bad := id rfl
@[simp] theorem key_i : (D.int i).key = true := id rfl
@[simp] theorem key_s : (D.str s).key = true := id rfl
@[simp] theorem dFind_c (k d y : D) (ks ds : List D) : dFind (k :: ks) (d :: ds) y = if D.eqv k y then some d else dFind ks ds y := id rfl
@[simp] theorem dFind_n (ds : List D) (y : D) : dFind [] ds y = none := by cases ds <;> rfl
@[simp] theorem eqv_is : D.eqv (.int i) (.str s) = false := id rfl
@[simp] theorem eqv_si : D.eqv (.str s) (.int i) = false := id rfl
@[simp] theorem asD_l (ds : List D) : OwK.asD .lst ds = .seq .lst ds := id rfl
@[simp] theorem asD_d (ks ds : List D) : OwK.asD (.dic ks) ds = .dic ks ds := id rfl
@[simp] theorem asD_i (C : String) (ns : List String) (ds : List D) : OwK.asD (.ins C ns) ds = .obj C ns ds := id rfl
@[simp] theorem cNeS_ii : cNeS (.int i) (.int j) = .ok (!(i == j)) := id rfl
@[simp] theorem cNeS_ss : cNeS (.str s) (.str t) = .ok (!(s == t)) := id rfl

end Dm
end

section
set_option linter.all false
/-! Dm: plain lemmas for the mirrors' mathematics. -/
namespace Dm

theorem log2_lt {n k : Nat} (hk : 0 < k) (h : n < 2 ^ k) : n.log2 < k := by
  by_cases h0 : n = 0
  · subst h0
    simpa using hk
  · exact (Nat.log2_lt h0).mpr h
theorem lg_of {i : Int} {n : Nat} (k : Nat) (h : i.natAbs < 2 ^ k) (hk : 0 < k := by decide) (hn : k ≤ n := by decide) : lg i n = true :=
  (lg_def i n).trans (decide_eq_true (Nat.lt_of_lt_of_le (log2_lt hk h) hn))
theorem lg_small {i : Int} (n : Nat) (h : i.natAbs < 18446744073709551616) (hn : 64 ≤ n := by decide) : lg i n = true := lg_of 64 (by simpa using h) (by decide) hn
theorem mulOk_l {i j : Int} (h : i.natAbs < 18446744073709551616) : mulOk i j = true := by simp [mulOk_def, h]
theorem mulOk_r {i j : Int} (h : j.natAbs < 18446744073709551616) : mulOk i j = true := by simp [mulOk_def, h]
theorem mulOk_w {i j : Int} (a b : Nat) (ha : i.natAbs < 2 ^ a) (hb : j.natAbs < 2 ^ b) (h0 : 0 < a := by decide) (h1 : 0 < b := by decide) (h : a + b ≤ 1000000 := by decide) : mulOk i j = true := by
  have x := log2_lt h0 ha
  have y := log2_lt h1 hb
  have : lg2 i j = true := decide_eq_true (by omega)
  simp [mulOk_def, this]
theorem fdivI_pos {i j : Int} (h : 0 < j) : fdivI i j = i / j := if_pos h
theorem fmodI_pos {i j : Int} (h : 0 < j) : fmodI i j = i % j := if_pos h
theorem atI_of {α : Type} {xs : List α} {i : Int} (h0 : 0 ≤ i) (h1 : i < xs.length) : atI xs i = some (xs[i.toNat]'(by omega)) := by
  unfold atI ixN
  rw [if_pos h0, if_pos h1]
  simp
theorem atI_nat {α : Type} {xs : List α} {i : Nat} (h1 : i < xs.length) : atI xs (i : Int) = some xs[i] := by
  rw [atI_of (by omega) (by omega)]
  simp
theorem atI_mem {α : Type} {xs : List α} {i : Int} (h0 : 0 ≤ i) (h1 : i < xs.length) : ∃ c, c ∈ xs ∧ atI xs i = some c := ⟨_, List.getElem_mem _, atI_of h0 h1⟩
theorem sIx_nat (n d k : Nat) : sIx n d (some (k : Int)) = min k n := by
  show (if (k : Int) < 0 then ((k : Int) + (n : Int)).toNat else min (k : Int).toNat n) = min k n
  rw [if_neg (by omega), Int.toNat_natCast]
theorem cutL_nat {α : Type} (xs : List α) (a b : Nat) : cutL xs (some (a : Int)) (some (b : Int)) = (xs.drop a).take (b - a) := by
  unfold cutL
  rw [sIx_nat, sIx_nat]
  by_cases h : a ≤ xs.length
  · rw [Nat.min_eq_left h]
    by_cases h2 : b ≤ xs.length
    · rw [Nat.min_eq_left h2]
    · rw [Nat.min_eq_right (by omega)]
      rw [List.take_of_length_le (by rw [List.length_drop]; omega), List.take_of_length_le (by rw [List.length_drop]; omega)]
  · have e1 : xs.drop (min a xs.length) = [] := List.drop_of_length_le (by omega)
    have e2 : xs.drop a = [] := List.drop_of_length_le (by omega)
    rw [e1, e2]
    simp
theorem cutL_to {α : Type} (xs : List α) (b : Nat) : cutL xs none (some (b : Int)) = xs.take b := by
  have := cutL_nat xs 0 b
  simpa [cutL, sIx] using this
theorem cutL_from {α : Type} (xs : List α) (a : Nat) : cutL xs (some (a : Int)) none = xs.drop a := by
  unfold cutL
  rw [sIx_nat]
  show (xs.drop (min a xs.length)).take (xs.length - min a xs.length) = xs.drop a
  by_cases h : a ≤ xs.length
  · rw [Nat.min_eq_left h, List.take_of_length_le (by rw [List.length_drop]; omega)]
  · have e1 : xs.drop (min a xs.length) = [] := List.drop_of_length_le (by omega)
    have e2 : xs.drop a = [] := List.drop_of_length_le (by omega)
    rw [e1, e2]
    simp
theorem cutL_all {α : Type} (xs : List α) : cutL xs none none = xs := by simp [cutL, sIx]
@[simp] theorem rangeL_len (lo : Int) (n : Nat) : (rangeL lo n).length = n := by simp [rangeL]
theorem rangeL_get {lo : Int} {n i : Nat} {d : D} (h : (rangeL lo n)[i]? = some d) : i < n ∧ d = .int (lo + (i : Int)) := by
  unfold rangeL at h
  rw [List.getElem?_map] at h
  by_cases hi : i < n
  · rw [List.getElem?_range hi] at h
    cases h
    exact ⟨hi, rfl⟩
  · rw [List.getElem?_eq_none (by simpa using hi)] at h
    cases h
theorem rgOk_of {i : Int} (h0 : -4611686018427387904 ≤ i) (h1 : i < 4611686018427387904) : rgOk i = true := by simp [rgOk_def, h0, h1]

/-- a loop that goes to its end: a word P of the turn and the slots -/
theorem turns_inv {put : D → Rho → Res Rho} {b : SM} (P : Nat → Rho → Prop) : ∀ {xs : List D} {ρ : Rho} (k : Nat), P k ρ →
    (∀ i d ρ, xs[i]? = some d → P (k + i) ρ → ∃ ρ1, put d ρ = .ok ρ1 ∧ ∃ o ρ2, b ρ1 = .ok o ∧ (o = .nx ρ2 ∨ o = .ct ρ2) ∧ P (k + i + 1) ρ2) → ∃ ρ', turns put b xs ρ = .ok (.nx ρ') ∧ P (k + xs.length) ρ'
  | [], ρ, k, h, _ => ⟨ρ, rfl, h⟩
  | x :: xs, ρ, k, h, hs => by
    obtain ⟨ρ1, e1, o, ρ2, e2, ho, h2⟩ := hs 0 x ρ rfl h
    have ih := turns_inv P (xs := xs) (ρ := ρ2) (k + 1) h2 fun i d ρ hd hp => by
      have := hs (i + 1) d ρ (by simpa using hd) (by rw [show k + (i + 1) = k + 1 + i by omega]; exact hp)
      rw [show k + (i + 1) = k + 1 + i by omega] at this
      exact this
    obtain ⟨ρ', e3, h3⟩ := ih
    refine ⟨ρ', ?_, by rw [show k + (x :: xs).length = k + 1 + xs.length by rw [List.length_cons]; omega]; exact h3⟩
    unfold turns
    rw [e1, Res.bind_ok, e2, Res.bind_ok]
    rcases ho with rfl | rfl
    · exact e3
    · exact e3
theorem turns_inv0 {put : D → Rho → Res Rho} {b : SM} (P : Nat → Rho → Prop) {xs : List D} {ρ : Rho} (h : P 0 ρ)
    (hs : ∀ i d ρ, xs[i]? = some d → P i ρ → ∃ ρ1, put d ρ = .ok ρ1 ∧ ∃ o ρ2, b ρ1 = .ok o ∧ (o = .nx ρ2 ∨ o = .ct ρ2) ∧ P (i + 1) ρ2) : ∃ ρ', turns put b xs ρ = .ok (.nx ρ') ∧ P xs.length ρ' := by
  have := turns_inv P 0 h (xs := xs) (put := put) (b := b) fun i d ρ hd hp => by
    rw [Nat.zero_add] at hp ⊢
    exact hs i d ρ hd hp
  rwa [Nat.zero_add] at this
/-- a loop that is left in its turn k -/
theorem turns_left {put : D → Rho → Res Rho} {b : SM} (P : Nat → Rho → Prop) (r : Out) (hr : ∀ c, r.turn c = .ok r) : ∀ {xs : List D} {ρ : Rho} (j k : Nat), P j ρ → k < xs.length →
    (∀ i d ρ, i < k → xs[i]? = some d → P (j + i) ρ → ∃ ρ1, put d ρ = .ok ρ1 ∧ ∃ o ρ2, b ρ1 = .ok o ∧ (o = .nx ρ2 ∨ o = .ct ρ2) ∧ P (j + i + 1) ρ2) →
    (∀ d ρ, xs[k]? = some d → P (j + k) ρ → ∃ ρ1, put d ρ = .ok ρ1 ∧ b ρ1 = .ok r) → turns put b xs ρ = .ok r
  | [], ρ, j, k, h, hk, _, _ => by simp at hk
  | x :: xs, ρ, j, 0, h, hk, hs, hl => by
    obtain ⟨ρ1, e1, e2⟩ := hl x ρ rfl h
    unfold turns
    rw [e1, Res.bind_ok, e2, Res.bind_ok, hr]
  | x :: xs, ρ, j, k + 1, h, hk, hs, hl => by
    obtain ⟨ρ1, e1, o, ρ2, e2, ho, h2⟩ := hs 0 x ρ (by omega) rfl h
    have ih := turns_left P r hr (xs := xs) (ρ := ρ2) (j + 1) k h2 (by simpa using hk) (fun i d ρ hi hd hp => by
      have := hs (i + 1) d ρ (by omega) (by simpa using hd) (by rw [show j + (i + 1) = j + 1 + i by omega]; exact hp)
      rw [show j + (i + 1) = j + 1 + i by omega] at this
      exact this) fun d ρ hd hp => hl d ρ (by simpa using hd) (by rw [show j + (k + 1) = j + 1 + k by omega]; exact hp)
    unfold turns
    rw [e1, Res.bind_ok, e2, Res.bind_ok]
    rcases ho with rfl | rfl
    · exact ih
    · exact ih
/-- a comprehension without a test, whose elements come out -/
theorem comp_map {put : D → Rho → Res Rho} {e : EM} {ρ : Rho} (f : D → D) : ∀ {xs : List D}, (∀ d ∈ xs, ∃ ρ1, put d ρ = .ok ρ1 ∧ ∃ t, e ρ1 = .ok (f d, t) ∧ (t.free || (f d).sc) = true) → comp put tmYes e ρ xs = .ok (xs.map f)
  | [], _ => rfl
  | x :: xs, h => by
    obtain ⟨ρ1, e1, t, e2, e3⟩ := h x (List.mem_cons_self ..)
    have ih := comp_map f (xs := xs) fun d hd => h d (List.mem_cons_of_mem _ hd)
    unfold comp
    have e0 : tmYes ρ1 = .ok true := rfl
    simp only [e1, noEx, Res.bind_ok, e0, if_true, e2, e3, ih, List.map_cons]
/-! the same, before what follows -/
theorem tb_inv {β : Type} {put : D → Rho → Res Rho} {b : SM} (P : Nat → Rho → Prop) {xs : List D} {ρ : Rho} {f : Out → Res β} {R : Res β} (h : P 0 ρ)
    (hs : ∀ i d ρ, xs[i]? = some d → P i ρ → ∃ ρ1, put d ρ = .ok ρ1 ∧ ∃ o ρ2, b ρ1 = .ok o ∧ (o = .nx ρ2 ∨ o = .ct ρ2) ∧ P (i + 1) ρ2)
    (hk : ∀ ρ', P xs.length ρ' → f (.nx ρ') = R) : (turns put b xs ρ).bind f = R := by
  obtain ⟨ρ', e, h2⟩ := turns_inv0 P h hs
  rw [e]
  exact hk ρ' h2
theorem tf_inv {put : D → Rho → Res Rho} {b : SM} (P : Nat → Rho → Prop) {xs : List D} {ρ : Rho} {f : Out → Res Out} {R : Res (D × Bool)} (h : P 0 ρ)
    (hs : ∀ i d ρ, xs[i]? = some d → P i ρ → ∃ ρ1, put d ρ = .ok ρ1 ∧ ∃ o ρ2, b ρ1 = .ok o ∧ (o = .nx ρ2 ∨ o = .ct ρ2) ∧ P (i + 1) ρ2)
    (hk : ∀ ρ', P xs.length ρ' → (f (.nx ρ')).fin = R) : ((turns put b xs ρ).bind f).fin = R := by
  obtain ⟨ρ', e, h2⟩ := turns_inv0 P h hs
  rw [e]
  exact hk ρ' h2
theorem tb_left {β : Type} {put : D → Rho → Res Rho} {b : SM} (P : Nat → Rho → Prop) (r : Out) (hr : ∀ c, r.turn c = .ok r) (k : Nat) {xs : List D} {ρ : Rho} {f : Out → Res β} {R : Res β} (h : P 0 ρ) (hl : k < xs.length)
    (hs : ∀ i d ρ, i < k → xs[i]? = some d → P i ρ → ∃ ρ1, put d ρ = .ok ρ1 ∧ ∃ o ρ2, b ρ1 = .ok o ∧ (o = .nx ρ2 ∨ o = .ct ρ2) ∧ P (i + 1) ρ2)
    (he : ∀ d ρ, xs[k]? = some d → P k ρ → ∃ ρ1, put d ρ = .ok ρ1 ∧ b ρ1 = .ok r)
    (hk : f r = R) : (turns put b xs ρ).bind f = R := by
  rw [turns_left P r hr 0 k h hl (fun i d ρ hi hd hp => by rw [Nat.zero_add] at hp ⊢; exact hs i d ρ hi hd hp) fun d ρ hd hp => by rw [Nat.zero_add] at hp; exact he d ρ hd hp]
  exact hk
theorem tf_left {put : D → Rho → Res Rho} {b : SM} (P : Nat → Rho → Prop) (r : Out) (hr : ∀ c, r.turn c = .ok r) (k : Nat) {xs : List D} {ρ : Rho} {f : Out → Res Out} {R : Res (D × Bool)} (h : P 0 ρ) (hl : k < xs.length)
    (hs : ∀ i d ρ, i < k → xs[i]? = some d → P i ρ → ∃ ρ1, put d ρ = .ok ρ1 ∧ ∃ o ρ2, b ρ1 = .ok o ∧ (o = .nx ρ2 ∨ o = .ct ρ2) ∧ P (i + 1) ρ2)
    (he : ∀ d ρ, xs[k]? = some d → P k ρ → ∃ ρ1, put d ρ = .ok ρ1 ∧ b ρ1 = .ok r)
    (hk : (f r).fin = R) : ((turns put b xs ρ).bind f).fin = R := by
  rw [turns_left P r hr 0 k h hl (fun i d ρ hi hd hp => by rw [Nat.zero_add] at hp ⊢; exact hs i d ρ hi hd hp) fun d ρ hd hp => by rw [Nat.zero_add] at hp; exact he d ρ hd hp]
  exact hk
theorem t_inv {put : D → Rho → Res Rho} {b : SM} {β : Type} (Q : Res β → Prop) (P : Nat → Rho → Prop) {xs : List D} {ρ : Rho} {f : Out → Res β} (h : P 0 ρ)
    (hs : ∀ i d ρ, xs[i]? = some d → P i ρ → ∃ ρ1, put d ρ = .ok ρ1 ∧ ∃ o ρ2, b ρ1 = .ok o ∧ (o = .nx ρ2 ∨ o = .ct ρ2) ∧ P (i + 1) ρ2)
    (hk : ∀ ρ', P xs.length ρ' → Q (f (.nx ρ'))) : Q ((turns put b xs ρ).bind f) := by
  obtain ⟨ρ', e, h2⟩ := turns_inv0 P h hs
  rw [e]
  exact hk ρ' h2
theorem q_inv {put : D → Rho → Res Rho} {b : SM} (Q : Res (D × Bool) → Prop) (P : Nat → Rho → Prop) {xs : List D} {ρ : Rho} {f : Out → Res Out} (h : P 0 ρ)
    (hs : ∀ i d ρ, xs[i]? = some d → P i ρ → ∃ ρ1, put d ρ = .ok ρ1 ∧ ∃ o ρ2, b ρ1 = .ok o ∧ (o = .nx ρ2 ∨ o = .ct ρ2) ∧ P (i + 1) ρ2)
    (hk : ∀ ρ', P xs.length ρ' → Q (f (.nx ρ')).fin) : Q ((turns put b xs ρ).bind f).fin := by
  obtain ⟨ρ', e, h2⟩ := turns_inv0 P h hs
  rw [e]
  exact hk ρ' h2
/-- a turn goes on, to slots with P -/
def Stp (P : Rho → Prop) : Res Out → Prop
  | .ok (.nx ρ) => P ρ
  | .ok (.ct ρ) => P ρ
  | _ => False
@[simp] theorem Stp_nx (P : Rho → Prop) (ρ : Rho) : Stp P (.ok (.nx ρ)) = P ρ := rfl
@[simp] theorem Stp_ct (P : Rho → Prop) (ρ : Rho) : Stp P (.ok (.ct ρ)) = P ρ := rfl
theorem Stp.ex {P : Rho → Prop} {put : Res Rho} {b : SM} (h : Stp P (put.bind b)) : ∃ ρ1, put = .ok ρ1 ∧ ∃ o ρ2, b ρ1 = .ok o ∧ (o = .nx ρ2 ∨ o = .ct ρ2) ∧ P ρ2 := by
  cases put with
  | ok ρ1 =>
    refine ⟨ρ1, rfl, ?_⟩
    rw [Res.bind_ok] at h
    cases e : b ρ1 with
    | ok o =>
      rw [e] at h
      cases o with
      | nx ρ => exact ⟨_, _, rfl, .inl rfl, h⟩
      | ct ρ => exact ⟨_, _, rfl, .inr rfl, h⟩
      | _ => exact False.elim h
    | ex C => rw [e] at h; exact False.elim h
    | bad => rw [e] at h; exact False.elim h
  | ex C => exact False.elim h
  | bad => exact False.elim h
theorem t_run {put : D → Rho → Res Rho} {b : SM} {β : Type} (Q : Res β → Prop) (P : Nat → Rho → Prop) {xs : List D} {ρ : Rho} {f : Out → Res β} (h : P 0 ρ)
    (hs : ∀ i d ρ, xs[i]? = some d → P i ρ → Stp (P (i + 1)) ((put d ρ).bind b))
    (hk : ∀ ρ', P xs.length ρ' → Q (f (.nx ρ'))) : Q ((turns put b xs ρ).bind f) := t_inv Q P h (fun i d ρ hd hp => (hs i d ρ hd hp).ex) hk
theorem q_run {put : D → Rho → Res Rho} {b : SM} (Q : Res (D × Bool) → Prop) (P : Nat → Rho → Prop) {xs : List D} {ρ : Rho} {f : Out → Res Out} (h : P 0 ρ)
    (hs : ∀ i d ρ, xs[i]? = some d → P i ρ → Stp (P (i + 1)) ((put d ρ).bind b))
    (hk : ∀ ρ', P xs.length ρ' → Q (f (.nx ρ')).fin) : Q ((turns put b xs ρ).bind f).fin := q_inv Q P h (fun i d ρ hd hp => (hs i d ρ hd hp).ex) hk
theorem b_run {put : D → Rho → Res Rho} {b : SM} (Q : Res Out → Prop) (P : Nat → Rho → Prop) {xs : List D} {ρ : Rho} (h : P 0 ρ)
    (hs : ∀ i d ρ, xs[i]? = some d → P i ρ → Stp (P (i + 1)) ((put d ρ).bind b))
    (hk : ∀ ρ', P xs.length ρ' → Q (.ok (.nx ρ'))) : Q (turns put b xs ρ) := by
  obtain ⟨ρ', e, h2⟩ := turns_inv0 P h (fun i d ρ hd hp => (hs i d ρ hd hp).ex)
  rw [e]
  exact hk ρ' h2
theorem t_exit {β : Type} {put : D → Rho → Res Rho} {b : SM} (Q : Res β → Prop) (P : Nat → Rho → Prop) (r : Out) (hr : ∀ c, r.turn c = .ok r) (k : Nat) {xs : List D} {ρ : Rho} {f : Out → Res β} (h : P 0 ρ) (hl : k < xs.length)
    (hs : ∀ i d ρ, i < k → xs[i]? = some d → P i ρ → Stp (P (i + 1)) ((put d ρ).bind b))
    (he : ∀ d ρ, xs[k]? = some d → P k ρ → (put d ρ).bind b = .ok r)
    (hk : Q (f r)) : Q ((turns put b xs ρ).bind f) := by
  rw [turns_left P r hr 0 k h hl (fun i d ρ hi hd hp => by rw [Nat.zero_add] at hp ⊢; exact (hs i d ρ hi hd hp).ex) fun d ρ hd hp => by
    rw [Nat.zero_add] at hp
    have := he d ρ hd hp
    cases e : put d ρ with
    | ok ρ1 => rw [e, Res.bind_ok] at this; exact ⟨ρ1, rfl, this⟩
    | ex C => rw [e] at this; cases this
    | bad => rw [e] at this; cases this]
  exact hk
theorem q_exit {put : D → Rho → Res Rho} {b : SM} (Q : Res (D × Bool) → Prop) (P : Nat → Rho → Prop) (r : Out) (hr : ∀ c, r.turn c = .ok r) (k : Nat) {xs : List D} {ρ : Rho} {f : Out → Res Out} (h : P 0 ρ) (hl : k < xs.length)
    (hs : ∀ i d ρ, i < k → xs[i]? = some d → P i ρ → Stp (P (i + 1)) ((put d ρ).bind b))
    (he : ∀ d ρ, xs[k]? = some d → P k ρ → (put d ρ).bind b = .ok r)
    (hk : Q (f r).fin) : Q ((turns put b xs ρ).bind f).fin := t_exit (fun x => Q x.fin) P r hr k h hl hs he hk
/-! for simp (disch := omega) -/
theorem le_lim {n : Nat} (h : n ≤ 16777216) : n ≤ lim := by rw [lim_def]; exact h
theorem lt_lim {n : Nat} (h : n < 16777216) : n < lim := by rw [lim_def]; exact h
theorem comp_of {α : Type} {put : D → Rho → Res Rho} {e : EM} {ρ : Rho} (h g : α → D) (t : Tg) (ht : ∀ c, (t.free || (g c).sc) = true) : ∀ {cs : List α}, (∀ c ∈ cs, (put (h c) ρ).bind e = .ok (g c, t)) → comp put tmYes e ρ (cs.map h) = .ok (cs.map g)
  | [], _ => rfl
  | x :: xs, hs => by
    have e2 := hs x (List.mem_cons_self ..)
    have ih := comp_of h g t ht (cs := xs) fun d hd => hs d (List.mem_cons_of_mem _ hd)
    rw [List.map_cons]
    unfold comp
    have e0 : ∀ r, tmYes r = .ok true := fun _ => rfl
    cases e1 : put (h x) ρ with
    | ok ρ1 =>
      rw [e1, Res.bind_ok] at e2
      simp only [noEx, Res.bind_ok, e0, if_true, e2, ht x, ih, List.map_cons]
    | ex C => rw [e1] at e2; cases e2
    | bad => rw [e1] at e2; cases e2
/-- a while that goes to its end: a word P and a measure -/
theorem while_run {t : TM} {b : SM} (P : Rho → Prop) (m : Rho → Nat) (R : Rho → Prop)
    (hs : ∀ ρ, P ρ → (t ρ = .ok false ∧ R ρ) ∨ (t ρ = .ok true ∧ Stp (fun ρ' => P ρ' ∧ m ρ' < m ρ) (b ρ))) : ∀ {n : Nat} {ρ : Rho}, P ρ → m ρ < n → ∃ ρ', smWhile t b n ρ = .ok (.nx ρ') ∧ R ρ'
  | 0, ρ, _, h => absurd h (Nat.not_lt_zero _)
  | n + 1, ρ, hp, hm => by
    unfold smWhile
    rcases hs ρ hp with ⟨e, r⟩ | ⟨e, h⟩
    · rw [e]
      exact ⟨ρ, rfl, r⟩
    · rw [e]
      have h2 : Stp (fun ρ' => P ρ' ∧ m ρ' < m ρ) ((Res.ok ρ).bind b) := h
      obtain ⟨ρ1, e1, o, ρ2, e2, ho, p2, l2⟩ := h2.ex
      cases e1
      obtain ⟨ρ', e3, r⟩ := while_run P m R hs (n := n) p2 (by omega)
      refine ⟨ρ', ?_, r⟩
      show (b ρ).bind (fun o => o.turn (smWhile t b n)) = _
      rw [e2]
      rcases ho with rfl | rfl
      · exact e3
      · exact e3
theorem tw_run {t : TM} {b : SM} {β : Type} (Q : Res β → Prop) (P : Rho → Prop) (m : Rho → Nat) (R : Rho → Prop) {n : Nat} {ρ : Rho} {f : Out → Res β} (h : P ρ) (hm : m ρ < n)
    (hs : ∀ ρ, P ρ → (t ρ = .ok false ∧ R ρ) ∨ (t ρ = .ok true ∧ Stp (fun ρ' => P ρ' ∧ m ρ' < m ρ) (b ρ)))
    (hk : ∀ ρ', R ρ' → Q (f (.nx ρ'))) : Q ((smWhile t b n ρ).bind f) := by
  obtain ⟨ρ', e, r⟩ := while_run P m R hs h hm
  rw [e]
  exact hk ρ' r
theorem qw_run {t : TM} {b : SM} (Q : Res (D × Bool) → Prop) (P : Rho → Prop) (m : Rho → Nat) (R : Rho → Prop) {n : Nat} {ρ : Rho} {f : Out → Res Out} (h : P ρ) (hm : m ρ < n)
    (hs : ∀ ρ, P ρ → (t ρ = .ok false ∧ R ρ) ∨ (t ρ = .ok true ∧ Stp (fun ρ' => P ρ' ∧ m ρ' < m ρ) (b ρ)))
    (hk : ∀ ρ', R ρ' → Q (f (.nx ρ')).fin) : Q ((smWhile t b n ρ).bind f).fin := by
  obtain ⟨ρ', e, r⟩ := while_run P m R hs h hm
  rw [e]
  exact hk ρ' r
theorem mul_one (x n : Nat) (h : n ≤ 1000) : oMul (.str [x]) (.int n) = .ok (.str (List.replicate n x), .cl) := by
  have h1 : (n : Int) ≤ 1048576 := by omega
  have h2 : (-9223372036854775808 : Int) ≤ n := by omega
  have e : (List.replicate n [x]).flatten = List.replicate n x := by
    induction n with
    | zero => rfl
    | succ n ih => rw [List.replicate_succ, List.replicate_succ, List.flatten_cons, ih (by omega) (by omega) (by omega)]; rfl
  have h3 : n ≤ lim := by rw [lim_def]; omega
  have h4 : (n : Int) < 9223372036854775808 := by omega
  show (if decide ([x].length * (n : Int).toNat ≤ lim) && decide (-9223372036854775808 ≤ (n : Int)) && decide ((n : Int) < 9223372036854775808) then sOk (.str (List.replicate (n : Int).toNat [x]).flatten) else .bad) = _
  simp [h1, h2, h3, h4, e]
theorem at20 (x y : D) : atI [x, y] 0 = some x := rfl
theorem at21 (x y : D) : atI [x, y] 1 = some y := rfl
/-- a loop that may be left in some turn, with a word F of how -/
theorem turns_or {put : D → Rho → Res Rho} {b : SM} (P : Nat → Rho → Prop) (F : Out → Prop) : ∀ {xs : List D} {ρ : Rho} (k : Nat), P k ρ →
    (∀ i d ρ, xs[i]? = some d → P (k + i) ρ → Stp (P (k + i + 1)) ((put d ρ).bind b) ∨ ∃ r, (put d ρ).bind b = .ok r ∧ (∀ c, r.turn c = .ok r) ∧ F r) →
    (∃ ρ', turns put b xs ρ = .ok (.nx ρ') ∧ P (k + xs.length) ρ') ∨ ∃ r, turns put b xs ρ = .ok r ∧ F r
  | [], ρ, k, h, _ => .inl ⟨ρ, rfl, h⟩
  | x :: xs, ρ, k, h, hs => by
    have tail : ∀ ρ2, P (k + 1) ρ2 → (∃ ρ', turns put b xs ρ2 = .ok (.nx ρ') ∧ P (k + 1 + xs.length) ρ') ∨ ∃ r, turns put b xs ρ2 = .ok r ∧ F r := fun ρ2 h2 =>
      turns_or P F (xs := xs) (ρ := ρ2) (k + 1) h2 fun i d ρ hd hp => by
        have := hs (i + 1) d ρ (by simpa using hd) (by rw [show k + (i + 1) = k + 1 + i by omega]; exact hp)
        rw [show k + (i + 1) = k + 1 + i by omega] at this
        exact this
    have e0 : k + (x :: xs).length = k + 1 + xs.length := by rw [List.length_cons]; omega
    rcases hs 0 x ρ rfl h with h1 | ⟨r, e, hr, f⟩
    · obtain ⟨ρ1, e1, o, ρ2, e2, ho, h2⟩ := h1.ex
      unfold turns
      rw [e1, Res.bind_ok, e2, Res.bind_ok, e0]
      rcases ho with rfl | rfl
      · exact tail ρ2 h2
      · exact tail ρ2 h2
    · refine .inr ⟨r, ?_, f⟩
      unfold turns
      cases e1 : put x ρ with
      | ok ρ1 =>
        rw [e1, Res.bind_ok] at e
        rw [Res.bind_ok, e, Res.bind_ok, hr]
      | ex C => rw [e1] at e; cases e
      | bad => rw [e1] at e; cases e
theorem q_or {put : D → Rho → Res Rho} {b : SM} (Q : Res (D × Bool) → Prop) (P : Nat → Rho → Prop) (F : Out → Prop) {xs : List D} {ρ : Rho} {f : Out → Res Out} (h : P 0 ρ)
    (hs : ∀ i d ρ, xs[i]? = some d → P i ρ → Stp (P (i + 1)) ((put d ρ).bind b) ∨ ∃ r, (put d ρ).bind b = .ok r ∧ (∀ c, r.turn c = .ok r) ∧ F r)
    (hk : ∀ ρ', P xs.length ρ' → Q (f (.nx ρ')).fin) (he : ∀ r, F r → Q (f r).fin) : Q ((turns put b xs ρ).bind f).fin := by
  rcases turns_or P F (xs := xs) 0 h (fun i d ρ hd hp => by rw [Nat.zero_add] at hp ⊢; exact hs i d ρ hd hp) with ⟨ρ', e, h2⟩ | ⟨r, e, h2⟩
  · rw [e]
    rw [Nat.zero_add] at h2
    exact hk ρ' h2
  · rw [e]
    exact he r h2
theorem t_or {put : D → Rho → Res Rho} {b : SM} {β : Type} (Q : Res β → Prop) (P : Nat → Rho → Prop) (F : Out → Prop) {xs : List D} {ρ : Rho} {f : Out → Res β} (h : P 0 ρ)
    (hs : ∀ i d ρ, xs[i]? = some d → P i ρ → Stp (P (i + 1)) ((put d ρ).bind b) ∨ ∃ r, (put d ρ).bind b = .ok r ∧ (∀ c, r.turn c = .ok r) ∧ F r)
    (hk : ∀ ρ', P xs.length ρ' → Q (f (.nx ρ'))) (he : ∀ r, F r → Q (f r)) : Q ((turns put b xs ρ).bind f) := by
  rcases turns_or P F (xs := xs) 0 h (fun i d ρ hd hp => by rw [Nat.zero_add] at hp ⊢; exact hs i d ρ hd hp) with ⟨ρ', e, h2⟩ | ⟨r, e, h2⟩
  · rw [e]
    rw [Nat.zero_add] at h2
    exact hk ρ' h2
  · rw [e]
    exact he r h2
end Dm
end

section
set_option linter.all false
/-! Dm: texts parted, signs of a text replaced, a text read as a number (mirrors). -/
noncomputable section
namespace Dm
/-- s.partition(c) of one sign -/
def fPart : List Nat → D → Res (D × Tg)
  | s, .str [c] => if s.length ≤ lim then (match s.findIdx? (· == c) with
    | some i => .ok (.seq .tup [.str (s.take i), .str [c], .str (s.drop (i + 1))], .cl)
    | none => .ok (.seq .tup [.str s, .str [], .str []], .cl)) else .bad
  | _, _ => .bad
def repl1 (c d : Nat) (s : List Nat) : List Nat := s.map fun x => if x = c then d else x
def fRepl (c d : Nat) (s : List Nat) : Res (D × Tg) := if s.length + (s.length + 1) * 1 ≤ lim then sOk (.str (repl1 c d s)) else .bad
def decV (s : List Nat) : Nat := s.foldl (fun acc c => acc * 10 + (c - 48)) 0
def isDig (c : Nat) : Bool := decide (48 ≤ c) && decide (c ≤ 57)
/-- int() of a number, a truth, a text of figures -/
def bIntS : List D → Res D
  | [.int i] => .ok (.int i)
  | [.bl b] => .ok (.int (if b then 1 else 0))
  | [.str s] => if !s.isEmpty && decide (s.length ≤ 640) && s.all isDig then .ok (.int (decV s)) else .bad
  | _ => .bad
end Dm
end
end

section
set_option linter.all false
set_option maxRecDepth 100000
set_option maxHeartbeats 1000000
noncomputable section
namespace MD
open Dm
def _law_cell_b : SM :=
    (smSeq (smIf (mTB (mCmp cLt (mV 1) (mBlt bLen (amCons (mV 0) amNil)))) (smRet (mIx (mV 0) (mV 1))) smSkip)
    (smRet (mC (.int 0))))
def _law_cell : FM := mFn 2 0 _law_cell_b
def _law_draw_b : SM :=
    (smSeq (smIf (tmAnd (mTB (mCmp cGt (mV 0) (mB oPow (mC (.int 10)) (mC (.int 18))))) (mTB (mCmp cGt (mB oShr (mV 0) (mB oMul (mC (.int 20)) (mV 1))) (mC (.int 0))))) (smRet (mB oMod (mB oMod (mB oShr (mV 0) (mB oMul (mC (.int 20)) (mV 1))) (mC (.int 1048576))) (mV 2))) smSkip)
    (smSeq (smSet 3 (mB oMod (mB oAdd (mB oAdd (mB oMod (mV 0) (mC (.int 1000000007))) (mC (.int 314159265))) (mB oMul (mC (.int 104729)) (mV 1))) (mC (.int 998244353))))
    (smSeq (smSet 3 (mB oMod (mB oMul (mV 3) (mV 3)) (mC (.int 998244353))))
    (smSeq (smSet 4 (mB oMod (mB oMul (mB oAdd (mV 3) (mC (.int 271828183))) (mB oAdd (mB oAdd (mB oFdiv (mV 3) (mC (.int 1024))) (mC (.int 48271))) (mV 1))) (mC (.int 2147483629))))
    (smRet (mB oMod (mB oFdiv (mV 4) (mC (.int 128))) (mV 2)))))))
def _law_draw : FM := mFn 3 2 _law_draw_b
end MD
namespace Law0
open Dm MD
def cellF (ns : List Int) (k : Nat) : Int := ns.getD k 0
theorem cell_eq (ns : List Int) (k : Nat) : MD._law_cell [.seq .rol (ns.map .int), .int k] = .ok (.int (cellF ns k), false) := by
  unfold cellF
  by_cases h : k < ns.length
  · have h2 : (k : Int) < (ns.length : Int) := by omega
    have h3 : atI (ns.map D.int) (k : Int) = some (.int ns[k]) := by
      rw [atI_nat (by simpa using h)]
      simp
    simp [_law_cell, _law_cell_b, h2, h3, List.getD, h]
  · have h2 : ¬ (k : Int) < (ns.length : Int) := by omega
    simp [_law_cell, _law_cell_b, h2, List.getD, List.getElem?_eq_none (show ns.length ≤ k by omega)]
/-- what is drawn -/
def drawF (c s m : Int) : Int := match MD._law_draw [.int c, .int s, .int m] with
  | .ok (.int r, _) => r
  | _ => 0
theorem draw_ex (c s m : Int) (hs : 0 ≤ s) (hs2 : s ≤ 1000000) (hm : 0 < m) : ∃ r, MD._law_draw [.int c, .int s, .int m] = .ok (.int r, false) ∧ 0 ≤ r ∧ r < m := by
  have k1 : mulOk 20 s = true := mulOk_l (by decide)
  have k2 : mulOk 104729 s = true := mulOk_l (by decide)
  have k3 : (0 : Int) ≤ 20 * s := by omega
  have e1 : fmodI c 1000000007 = c % 1000000007 := fmodI_pos (by decide)
  have hb : ¬ (m = 0) := by omega
  by_cases h : (1000000000000000000 < c ∧ 0 < c / 2 ^ (20 * s).toNat)
  · refine ⟨fmodI (fmodI (c / 2 ^ (20 * s).toNat) 1048576) m, ?_, ?_, ?_⟩
    · simp [_law_draw, _law_draw_b, k1, k3, h.1, h.2, hb]
    · rw [fmodI_pos hm]
      exact Int.emod_nonneg _ hb
    · rw [fmodI_pos hm]
      exact Int.emod_lt_of_pos _ hm
  · obtain ⟨x, hx, hx0, hx1⟩ : ∃ x, fmodI (fmodI c 1000000007 + 314159265 + 104729 * s) 998244353 = x ∧ 0 ≤ x ∧ x < 998244353 := ⟨_, rfl, by rw [fmodI_pos (by decide)]; omega, by rw [fmodI_pos (by decide)]; omega⟩
    have k4 : mulOk x x = true := mulOk_l (by omega)
    obtain ⟨y, hy, hy0, hy1⟩ : ∃ y, fmodI (x * x) 998244353 = y ∧ 0 ≤ y ∧ y < 998244353 := ⟨_, rfl, by rw [fmodI_pos (by decide)]; exact Int.emod_nonneg _ (by decide), by rw [fmodI_pos (by decide)]; exact Int.emod_lt_of_pos _ (by decide)⟩
    have k5 : ∀ z : Int, mulOk (y + 271828183) z = true := fun z => mulOk_l (by omega)
    have k6 : lg 1024 9000 = true := lg_small _ (by decide)
    have k7 : lg 128 9000 = true := lg_small _ (by decide)
    refine ⟨fmodI (fdivI (fmodI ((y + 271828183) * (fdivI y 1024 + 48271 + s)) 2147483629) 128) m, ?_, ?_, ?_⟩
    · by_cases h1 : 1000000000000000000 < c
      · have h2 : ¬ 0 < c / 2 ^ (20 * s).toNat := fun z => h ⟨h1, z⟩
        simp [_law_draw, _law_draw_b, k1, k2, k3, h1, h2, hb, hx, hy, k4, k5, k6, k7]
      · simp [_law_draw, _law_draw_b, k1, k2, k3, h1, hb, hx, hy, k4, k5, k6, k7]
    · rw [fmodI_pos hm]
      exact Int.emod_nonneg _ hb
    · rw [fmodI_pos hm]
      exact Int.emod_lt_of_pos _ hm
theorem draw_eq (c s m : Int) (hs : 0 ≤ s := by omega) (hs2 : s ≤ 1000000 := by omega) (hm : 0 < m := by omega) : MD._law_draw [.int c, .int s, .int m] = .ok (.int (drawF c s m), false) := by
  obtain ⟨r, h, _⟩ := draw_ex c s m hs hs2 hm
  unfold drawF
  rw [h]
theorem draw_lo (c s m : Int) (hs : 0 ≤ s := by omega) (hs2 : s ≤ 1000000 := by omega) (hm : 0 < m := by omega) : 0 ≤ drawF c s m := by
  obtain ⟨r, h, h1, h2⟩ := draw_ex c s m hs hs2 hm
  unfold drawF
  rw [h]
  exact h1
theorem draw_hi (c s m : Int) (hs : 0 ≤ s := by omega) (hs2 : s ≤ 1000000 := by omega) (hm : 0 < m := by omega) : drawF c s m < m := by
  obtain ⟨r, h, h1, h2⟩ := draw_ex c s m hs hs2 hm
  unfold drawF
  rw [h]
  exact h2
end Law0

end
end

section
set_option linter.all false
set_option maxRecDepth 100000
set_option maxHeartbeats 1000000
noncomputable section
namespace M
open Dm
def _law_cell_b : SM :=
    (smSeq (smIf (mTB (mCmp cLt (mV 1) (mBlt bLen (amCons (mV 0) amNil)))) (smRet (mIx (mV 0) (mV 1))) smSkip)
    (smRet (mC (.int 0))))
def _law_cell : FM := mFn 2 0 _law_cell_b
def _law_draw_b : SM :=
    (smSeq (smIf (tmAnd (mTB (mCmp cGt (mV 0) (mB oPow (mC (.int 10)) (mC (.int 18))))) (mTB (mCmp cGt (mB oShr (mV 0) (mB oMul (mC (.int 20)) (mV 1))) (mC (.int 0))))) (smRet (mB oMod (mB oMod (mB oShr (mV 0) (mB oMul (mC (.int 20)) (mV 1))) (mC (.int 1048576))) (mV 2))) smSkip)
    (smSeq (smSet 3 (mB oMod (mB oAdd (mB oAdd (mB oMod (mV 0) (mC (.int 1000000007))) (mC (.int 314159265))) (mB oMul (mC (.int 104729)) (mV 1))) (mC (.int 998244353))))
    (smSeq (smSet 3 (mB oMod (mB oMul (mV 3) (mV 3)) (mC (.int 998244353))))
    (smSeq (smSet 4 (mB oMod (mB oMul (mB oAdd (mV 3) (mC (.int 271828183))) (mB oAdd (mB oAdd (mB oFdiv (mV 3) (mC (.int 1024))) (mC (.int 48271))) (mV 1))) (mC (.int 2147483629))))
    (smRet (mB oMod (mB oFdiv (mV 4) (mC (.int 128))) (mV 2)))))))
def _law_draw : FM := mFn 3 2 _law_draw_b
def _law_whole_b : SM :=
    (smRet (mAnd (mIs "int" (mV 0)) (mNot (mIs "bool" (mV 0)))))
def _law_whole : FM := mFn 1 0 _law_whole_b
end M
namespace Law
open Dm M
def cellF := Law0.cellF
theorem cell_eq (ns : List Int) (k : Nat) : M._law_cell [.seq .rol (ns.map .int), .int k] = .ok (.int (cellF ns k), false) := Law0.cell_eq ns k
/-- what is drawn -/
def drawF := Law0.drawF
theorem draw_eq (c s m : Int) (hs : 0 ≤ s := by omega) (hs2 : s ≤ 1000000 := by omega) (hm : 0 < m := by omega) : M._law_draw [.int c, .int s, .int m] = .ok (.int (drawF c s m), false) := Law0.draw_eq c s m hs hs2 hm
theorem draw_lo (c s m : Int) (hs : 0 ≤ s := by omega) (hs2 : s ≤ 1000000 := by omega) (hm : 0 < m := by omega) : 0 ≤ drawF c s m := Law0.draw_lo c s m hs hs2 hm
theorem draw_hi (c s m : Int) (hs : 0 ≤ s := by omega) (hs2 : s ≤ 1000000 := by omega) (hm : 0 < m := by omega) : drawF c s m < m := Law0.draw_hi c s m hs hs2 hm
/-- the script's first numbers: [cell 0] + script[1:N] -/
def leadF (ns : List Int) (N : Nat) : List Int := cellF ns 0 :: (ns.drop 1).take (N - 1)
theorem leadF_len (ns : List Int) (N : Nat) : (leadF ns N).length ≤ N - 1 + 1 := by
  unfold leadF
  rw [List.length_cons, List.length_take]
  omega
theorem lead_eq (ns : List Int) (N : Nat) (r : Rho) (h1 : 1 ≤ N) (h2 : N ≤ 1000) : mB oAdd (mLst (amCons (mCall M._law_cell (amCons (mV 0) (amCons (mC (.int 0)) amNil))) amNil)) (mCut (mV 0) (mPart (mC (.int 1))) (mPart (mC (.int N)))) (.fz (.seq .rol (ns.map .int)) :: r) = .ok (.seq .lst ((leadF ns N).map .int), .fr) := by
  have c0 := cell_eq ns 0
  have e1 : cutL (ns.map D.int) (some 1) (some (N : Int)) = ((ns.drop 1).take (N - 1)).map .int := by
    rw [show (some (1 : Int)) = some ((1 : Nat) : Int) from rfl, cutL_nat, ← List.map_drop, ← List.map_take]
  have hl1 : 1 ≤ lim := le_lim (by decide)
  have hl2 : 1 + ((ns.drop 1).take (N - 1)).length ≤ lim := le_lim (by rw [List.length_take]; omega)
  have hl3 : ((ns.drop 1).take (N - 1)).length + 1 ≤ lim := le_lim (by rw [List.length_take]; omega)
  unfold leadF
  generalize (ns.drop 1).take (N - 1) = cs at *
  simp at c0
  simp [c0, e1, hl1, hl2, hl3]
end Law

end
end

section
set_option linter.all false
set_option maxRecDepth 100000
set_option maxHeartbeats 1000000
noncomputable section
namespace Law
open Dm
def msr : Rho → Nat
  | [_, .fz (.int y)] => y.toNat
  | _ => 0
def msr3 : Rho → Nat
  | [_, .fz (.int y), _] => y.toNat
  | _ => 0
theorem abs_n (a : Int) : bAbs [.int a] = .ok (.int (a.natAbs : Nat)) := by
  rw [bAbs_i]
  congr 2
  split <;> omega
theorem gcd_b {a b : Int} (hb : 0 < b) : 0 < Nat.gcd a.natAbs b.natAbs ∧ Nat.gcd a.natAbs b.natAbs ≤ b.natAbs := ⟨Nat.gcd_pos_of_pos_right _ (by omega), Nat.le_of_dvd (by omega) (Nat.gcd_dvd_right ..)⟩
/-- a fraction's lowest terms -/
def lowT (a b : Int) : Int := a / (Nat.gcd a.natAbs b.natAbs : Nat)
def lowB (a b : Int) : Int := b / (Nat.gcd a.natAbs b.natAbs : Nat)
theorem low_pos {a b : Int} (hb : 0 < b) : 0 < lowB a b ∧ lowB a b ≤ b := by
  have hg := gcd_b (a := a) hb
  have hd : ((Nat.gcd a.natAbs b.natAbs : Nat) : Int) ∣ b := by
    rw [Int.ofNat_dvd_left]
    exact Nat.gcd_dvd_right ..
  unfold lowB
  obtain ⟨k, hk⟩ := hd
  generalize Nat.gcd a.natAbs b.natAbs = g at *
  have hg0 : (0 : Int) < g := by omega
  rw [hk, Int.mul_ediv_cancel_left _ (by omega)]
  have hk0 : 0 < k := by
    rcases Int.lt_or_le 0 k with h | h
    · exact h
    · have := Int.mul_nonpos_of_nonneg_of_nonpos (Int.le_of_lt hg0) h
      omega
  exact ⟨hk0, by
    have := Int.mul_le_mul_of_nonneg_right (show (1 : Int) ≤ g by omega) (Int.le_of_lt hk0)
    omega⟩
theorem low_dvd (a b : Int) : a = lowT a b * (Nat.gcd a.natAbs b.natAbs : Nat) ∧ b = lowB a b * (Nat.gcd a.natAbs b.natAbs : Nat) := by
  have h1 : ((Nat.gcd a.natAbs b.natAbs : Nat) : Int) ∣ a := by
    rw [Int.ofNat_dvd_left]
    exact Nat.gcd_dvd_left ..
  have h2 : ((Nat.gcd a.natAbs b.natAbs : Nat) : Int) ∣ b := by
    rw [Int.ofNat_dvd_left]
    exact Nat.gcd_dvd_right ..
  exact ⟨(Int.ediv_mul_cancel h1).symm, (Int.ediv_mul_cancel h2).symm⟩
theorem low_abs {a b : Int} (hb : 0 < b) : (lowT a b).natAbs ≤ a.natAbs := by
  have hg := gcd_b (a := a) hb
  have h := (low_dvd a b).1
  generalize Nat.gcd a.natAbs b.natAbs = g at *
  have := congrArg Int.natAbs h
  rw [Int.natAbs_mul, Int.natAbs_natCast] at this
  rw [this]
  exact Nat.le_mul_of_pos_right _ hg.1
theorem mulW {i j : Int} (hi : i.natAbs < 2 ^ 1000) (hj : j.natAbs < 2 ^ 1000) : mulOk i j = true := mulOk_w 1000 1000 hi hj
theorem absMul {i j : Int} {a b : Nat} (c : Nat) (hi : i.natAbs < 2 ^ a) (hj : j.natAbs < 2 ^ b) (hc : c = a + b := by rfl) : (i * j).natAbs < 2 ^ c := by
  rw [Int.natAbs_mul, hc, Nat.pow_add]
  exact Nat.mul_lt_mul'' hi hj
theorem absLe {i : Int} {a : Nat} (b : Nat) (hi : i.natAbs < 2 ^ a) (h : a ≤ b := by decide) : i.natAbs < 2 ^ b := Nat.lt_of_lt_of_le hi (Nat.pow_le_pow_right (by decide) h)
theorem lowT_neg {n m : Int} (hm : 0 < m) : lowT n m < 0 ↔ n < 0 := by
  have hg := gcd_b (a := n) hm
  have h := (low_dvd n m).1
  generalize Nat.gcd n.natAbs m.natAbs = g at *
  have hg0 : (0 : Int) < g := by omega
  constructor
  · intro h1
    rw [h]
    exact Int.mul_neg_of_neg_of_pos h1 hg0
  · intro h1
    rcases Int.lt_or_le (lowT n m) 0 with h2 | h2
    · exact h2
    · have := Int.mul_nonneg h2 (Int.le_of_lt hg0)
      omega
theorem low_zero {m : Int} (hm : 0 < m) : lowT 0 m = 0 ∧ lowB 0 m = 1 := by
  unfold lowT lowB
  refine ⟨Int.zero_ediv _, ?_⟩
  rw [Int.natAbs_zero, Nat.gcd_zero_left, show ((m.natAbs : Nat) : Int) = m by omega]
  exact Int.ediv_self (by omega)
theorem div_abs (t y : Int) (hy0 : 0 < y) : (t / y).natAbs ≤ t.natAbs + 1 := by
  have a1 := Int.ediv_mul_le t (Int.ne_of_gt hy0)
  have a2 := Int.lt_ediv_add_one_mul_self t hy0
  rcases Int.lt_or_le (t / y) 0 with h | h
  · have h3 := Int.mul_nonneg (show 0 ≤ -(t / y + 1) by omega) (show 0 ≤ y - 1 by omega)
    rw [Int.neg_mul, Int.mul_sub, Int.mul_one] at h3
    omega
  · have h3 := Int.mul_nonneg h (show 0 ≤ y - 1 by omega)
    rw [Int.mul_sub, Int.mul_one] at h3
    omega
theorem div_rest (t y : Int) (hy0 : 0 < y) : 0 ≤ t - t / y * y ∧ t - t / y * y < y := by
  have a1 := Int.ediv_mul_le t (Int.ne_of_gt hy0)
  have a2 := Int.lt_ediv_add_one_mul_self t hy0
  rw [Int.add_mul, Int.one_mul] at a2
  omega
end Law

end
end

section
set_option linter.all false
set_option maxRecDepth 100000
set_option maxHeartbeats 1000000
noncomputable section
namespace M
open Dm
def power_of_b : SM :=
    (smSeq (smSet 2 (mC (.int 1)))
    (smSeq (smFor (put1 3) (wmR1 (mV 1)) (smSet 2 (mB oMul (mV 2) (mV 0))))
    (smRet (mV 2))))
def power_of : FM := mFn 2 2 power_of_b
end M
namespace Law
open Dm M
theorem power_eq (b n : Nat) (hb : b ≤ 16) (hn : n ≤ 1000) : M.power_of [.int b, .int n] = .ok (.int (b ^ n : Nat), false) := by
  have hR : rgOk n = true := rgOk_of (by omega) (by omega)
  simp [power_of, power_of_b, hR]
  refine q_run (fun r => r = .ok (.int ((b : Int) ^ n), false)) (fun i ρ => ∃ a, ρ = [.fz (.int b), .fz (.int n), .fz (.int ((b : Int) ^ i)), a]) ⟨.no, by simp⟩ ?_ ?_
  · rintro i d ρ hd ⟨a, rfl⟩
    obtain ⟨hi, rfl⟩ := rangeL_get hd
    have k : mulOk ((b : Int) ^ i) b = true := mulOk_r (by omega)
    simp [k, Int.pow_succ]
  · rintro ρ ⟨a, rfl⟩
    simp
theorem pow_b {b n : Nat} (hb : 2 ≤ b) (hb2 : b ≤ 16) (hn : n ≤ 60) : 0 < b ^ n ∧ b ^ n < 2 ^ 250 := by
  refine ⟨Nat.pow_pos (by omega), ?_⟩
  have h1 : b ^ n ≤ 16 ^ n := Nat.pow_le_pow_left hb2 n
  have h2 : (16 : Nat) ^ n ≤ 16 ^ 60 := Nat.pow_le_pow_right (by decide) hn
  have h3 : (16 : Nat) ^ 60 < 2 ^ 250 := by decide
  omega
end Law

end
end

section
set_option linter.all false
set_option maxRecDepth 100000
set_option maxHeartbeats 1000000
noncomputable section
namespace M
open Dm
def gridded_b : SM :=
    (smSeq (smSet 4 (mB oMul (mIx (mV 0) (mC (.int 0))) (mCall M.power_of (amCons (mV 1) (amCons (mV 2) amNil)))))
    (smSeq (smSet 5 (mIx (mV 0) (mC (.int 1))))
    (smSeq (smSet 6 (mB oFdiv (mV 4) (mV 5)))
    (smSeq (smSet 7 (mB oSub (mV 4) (mB oMul (mV 6) (mV 5))))
    (smSeq (smIf (tmOr (mTB (mCmp cEq (mV 7) (mC (.int 0)))) (mTB (mCmp cEq (mV 3) (mC (.str [100, 111, 119, 110]))))) (smRet (mV 6)) smSkip)
    (smSeq (smIf (mTB (mCmp cEq (mV 3) (mC (.str [117, 112])))) (smRet (mB oAdd (mV 6) (mC (.int 1)))) smSkip)
    (smSeq (smIf (mTB (mCmp cEq (mV 3) (mC (.str [99, 117, 116])))) (smRet (mB oAdd (mV 6) (mBlt bInt (amCons (mCmp cLt (mV 6) (mC (.int 0))) amNil)))) smSkip)
    (smSeq (smIf (tmAnd (mTB (mCmp cEq (mB oMul (mC (.int 2)) (mV 7)) (mV 5))) (mTB (mCmp cEq (mV 3) (mC (.str [101, 118, 101, 110]))))) (smRet (mB oAdd (mV 6) (mB oMod (mV 6) (mC (.int 2))))) smSkip)
    (smRet (mB oAdd (mV 6) (mBlt bInt (amCons (mCmp cGe (mB oMul (mC (.int 2)) (mV 7)) (mV 5)) amNil))))))))))))
def gridded : FM := mFn 4 4 gridded_b
end M
namespace Law
open Dm M
def wDown : List Nat := [100, 111, 119, 110]
def wUp : List Nat := [117, 112]
def wCut : List Nat := [99, 117, 116]
def wNear : List Nat := [110, 101, 97, 114]
def wEven : List Nat := [101, 118, 101, 110]
def gridF (t y : Int) (w : List Nat) : Int :=
  if t - t / y * y = 0 ∨ w = wDown then t / y else if w = wUp then t / y + 1 else if w = wCut then t / y + (if t / y < 0 then 1 else 0)
  else if 2 * (t - t / y * y) = y ∧ w = wEven then t / y + t / y % 2 else t / y + (if 2 * (t - t / y * y) ≥ y then 1 else 0)
theorem gridded_eq (x y : Int) (b n : Nat) (w : List Nat) (hb : 2 ≤ b) (hb2 : b ≤ 16) (hn : n ≤ 60) (hx : x.natAbs < 2 ^ 500) (hy : y.natAbs < 2 ^ 500) (hy0 : 0 < y) : M.gridded [.seq .tup [.int x, .int y], .int b, .int n, .str w] = .ok (.int (gridF (x * (b ^ n : Nat)) y w), false) := by
  have p := power_eq b n hb2 (by omega)
  have pb := pow_b hb hb2 hn
  have hpb : ((b ^ n : Nat) : Int).natAbs < 2 ^ 250 := by omega
  generalize b ^ n = s at *
  have k1 : mulOk x s = true := mulW (absLe 1000 hx) (absLe 1000 hpb)
  have ht := absMul 750 hx hpb
  generalize hts : x * (s : Int) = t at *
  have hl : lg y 9000 = true := lg_of 500 hy
  have e1 : fdivI t y = t / y := fdivI_pos hy0
  have hq : (t / y).natAbs < 2 ^ 1000 := by
    have h1 : (t / y).natAbs ≤ t.natAbs + 1 := by
      have a1 := Int.ediv_mul_le t (Int.ne_of_gt hy0)
      have a2 := Int.lt_ediv_add_one_mul_self t hy0
      rcases Int.lt_or_le (t / y) 0 with h | h
      · have h3 := Int.mul_nonneg (show 0 ≤ -(t / y + 1) by omega) (show 0 ≤ y - 1 by omega)
        rw [Int.neg_mul, Int.mul_sub, Int.mul_one] at h3
        omega
      · have h3 := Int.mul_nonneg h (show 0 ≤ y - 1 by omega)
        rw [Int.mul_sub, Int.mul_one] at h3
        omega
    have : (2 : Nat) ^ 750 < 2 ^ 1000 := by decide
    omega
  have k2 : mulOk (t / y) y = true := mulW hq (absLe 1000 hy)
  have k3 : ∀ z, mulOk 2 z = true := fun z => mulOk_l (by decide)
  have hy1 : ¬ y = 0 := by omega
  have e2 : fmodI (t / y) 2 = t / y % 2 := fmodI_pos (by decide)
  unfold gridF
  generalize hqq : t / y = q at *
  by_cases h0 : t - q * y = 0
  · simp [gridded, gridded_b, at20, at21, p, hts, k1, hy1, hl, e1, k2, h0]
  · by_cases h1 : w = wDown
    · subst h1
      simp [gridded, gridded_b, at20, at21, p, hts, k1, hy1, hl, e1, k2, h0, wDown]
    · by_cases h2 : w = wUp
      · subst h2
        simp [gridded, gridded_b, at20, at21, p, hts, k1, hy1, hl, e1, k2, h0, wDown, wUp]
      · by_cases h3 : w = wCut
        · subst h3
          by_cases h5 : q < 0 <;> simp [gridded, gridded_b, at20, at21, p, hts, k1, hy1, hl, e1, k2, h0, wDown, wUp, wCut, h5]
        · have h1' := h1
          have h2' := h2
          have h3' := h3
          unfold wDown at h1'
          unfold wUp at h2'
          unfold wCut at h3'
          by_cases h4 : 2 * (t - q * y) = y
          · by_cases h6 : w = wEven
            · subst h6
              simp [gridded, gridded_b, at20, at21, p, hts, k1, hy1, hl, e1, k2, h0, h1, h2, h3, k3, h4, e2, wEven] at h1' h2' h3' ⊢
              simp [wDown, wUp, wCut]
            · have h6' := h6
              unfold wEven at h6'
              simp [gridded, gridded_b, at20, at21, p, hts, k1, hy1, hl, e1, k2, h0, h1, h2, h3, h1', h2', h3', k3, h4, h6, h6']
          · by_cases h7 : 2 * (t - q * y) ≥ y <;> simp [gridded, gridded_b, at20, at21, p, hts, k1, hy1, hl, e1, k2, h0, h1, h2, h3, h1', h2', h3', k3, h4, h7]
theorem gridF_abs (t y : Int) (w : List Nat) (hy0 : 0 < y) : (gridF t y w).natAbs ≤ t.natAbs + 3 := by
  have h := div_abs t y hy0
  unfold gridF
  generalize t / y = q at *
  split
  · omega
  · split
    · omega
    · split
      · split <;> omega
      · split
        · omega
        · split <;> omega
theorem gridF_whole (m y : Int) (w : List Nat) (hy0 : 0 < y) : gridF (m * y) y w = m := by
  have e : m * y / y = m := Int.mul_ediv_cancel m (by omega)
  unfold gridF
  rw [e, Int.sub_self, if_pos (.inl rfl)]
end Law

end
end

section
set_option linter.all false
set_option maxRecDepth 100000
set_option maxHeartbeats 1000000
noncomputable section
namespace M
open Dm
def is_whole_b : SM :=
    (smRet (mAnd (mIs "int" (mV 0)) (mNot (mIs "bool" (mV 0)))))
def is_whole : FM := mFn 1 0 is_whole_b
def divisor_of_b : SM :=
    (smSeq (smSet 0 (mBlt bAbs (amCons (mV 0) amNil)))
    (smSeq (smSet 1 (mBlt bAbs (amCons (mV 1) amNil)))
    (smSeq (smWhile (mTB (mCmp cGt (mV 1) (mC (.int 0)))) (smSeq (smSet 2 (mB oMod (mV 0) (mV 1)))
    (smSeq (smSet 0 (mV 1))
    (smSet 1 (mV 2)))) fuel)
    (smRet (mV 0)))))
def divisor_of : FM := mFn 2 1 divisor_of_b
def fraction_b : SM :=
    (smSeq (smIf (tmOr (tmNot (mT (mCall M.is_whole (amCons (mV 0) amNil)))) (tmOr (tmNot (mT (mCall M.is_whole (amCons (mV 1) amNil)))) (mTB (mCmp cEq (mV 1) (mC (.int 0)))))) (smRaise "NoNumber") smSkip)
    (smSeq (smSet 2 (mCall M.divisor_of (amCons (mV 0) (amCons (mV 1) amNil))))
    (smSeq (smIf (mTB (mCmp cLt (mV 1) (mC (.int 0)))) (smSet 2 (mNeg (mV 2))) smSkip)
    (smRet (mTup (amCons (mB oFdiv (mV 0) (mV 2)) (amCons (mB oFdiv (mV 1) (mV 2)) amNil)))))))
def fraction : FM := mFn 2 1 fraction_b
end M
namespace Law
open Dm M
theorem divisor_eq (a b : Int) (hb : b.natAbs < 2 ^ 4000) : M.divisor_of [.int a, .int b] = .ok (.int (Nat.gcd a.natAbs b.natAbs : Nat), false) := by
  simp [divisor_of, divisor_of_b, -bAbs_i, abs_n]
  refine qw_run (fun r => r = .ok (.int (Nat.gcd a.natAbs b.natAbs : Nat), false)) (fun ρ => ∃ (x y : Nat) (z : Sl), ρ = [.fz (.int x), .fz (.int y), z] ∧ Nat.gcd x y = Nat.gcd a.natAbs b.natAbs) msr3 (fun ρ => ∃ z w, ρ = [.fz (.int (Nat.gcd a.natAbs b.natAbs : Nat)), z, w]) ⟨a.natAbs, b.natAbs, .no, rfl, rfl⟩ ?_ ?_ ?_
  · exact fuel_of 4000 hb
  · rintro ρ ⟨x, y, z, rfl, h⟩
    by_cases h0 : y = 0
    · subst h0
      refine .inl ⟨by simp, ?_⟩
      rw [Nat.gcd_zero_right] at h
      rw [h]
      exact ⟨_, _, rfl⟩
    · have hy : (0 : Int) < y := by omega
      have e : fmodI (x : Int) (y : Int) = ((x % y : Nat) : Int) := by rw [fmodI_pos hy]; exact (Int.natCast_emod x y).symm
      have hlt := Nat.mod_lt x (Nat.pos_of_ne_zero h0)
      refine .inr ⟨by simp; omega, ?_⟩
      simp [h0, msr3, -Int.natCast_emod, e]
      refine ⟨⟨y, x % y, ⟨rfl, rfl⟩, ?_⟩, ?_⟩
      · rw [← h, Nat.gcd_comm x y, Nat.gcd_rec y x, Nat.gcd_comm]
      · exact hlt
  · rintro ρ ⟨z, w, rfl⟩
    simp
theorem fraction_eq (a b : Int) (hb : 0 < b) (hb2 : b.natAbs < 2 ^ 4000) : M.fraction [.int a, .int b] = .ok (.seq .tup [.int (lowT a b), .int (lowB a b)], false) := by
  have c := divisor_eq a b hb2
  have hg := gcd_b (a := a) hb
  have h2 : 2 ≤ lim := le_lim (by decide)
  unfold lowT lowB
  have hk : lg (Nat.gcd a.natAbs b.natAbs : Nat) 9000 = true := lg_of 4000 (by rw [Int.natAbs_natCast]; exact Nat.lt_of_le_of_lt hg.2 hb2)
  generalize Nat.gcd a.natAbs b.natAbs = g at *
  have hg0 : ¬ (g = 0) := by omega
  have e1 : fdivI a g = a / g := fdivI_pos (by omega)
  have e2 : fdivI b g = b / g := fdivI_pos (by omega)
  have hn : ¬ b < 0 := by omega
  have hn0 : ¬ b = 0 := by omega
  simp [fraction, fraction_b, is_whole, is_whole_b, c, hn, hn0, hg0, hk, e1, e2, h2]
end Law

end
end

section
set_option linter.all false
set_option maxRecDepth 100000
set_option maxHeartbeats 1000000
noncomputable section
namespace M
open Dm
def _law_great_b : SM :=
    (smSeq (smIf (tmAnd (mTB (mCmp cGt (mV 0) (mB oPow (mC (.int 10)) (mC (.int 18))))) (mTB (mCmp cGt (mB oShr (mV 0) (mB oAdd (mC (.int 6000)) (mB oMul (mC (.int 400)) (mV 1)))) (mC (.int 0))))) (smRet (mB oMod (mB oShr (mV 0) (mB oAdd (mC (.int 6000)) (mB oMul (mC (.int 400)) (mV 1)))) (mV 2))) smSkip)
    (smSeq (smSet 3 (mB oAdd (mB oAdd (mB oMod (mV 0) (mB oPow (mC (.int 10)) (mC (.int 40)))) (mB oMul (mC (.int 314159265)) (mV 1))) (mC (.int 271828183))))
    (smRet (mB oMod (mB oMul (mV 3) (mC (.int 618033988749894848204586834365638117720309))) (mV 2)))))
def _law_great : FM := mFn 3 1 _law_great_b
end M
namespace Law
open Dm M
theorem great_ex (c s m : Int) (hs0 : 0 ≤ s) (hs : s ≤ 100000) (hm : 0 < m) : ∃ r, M._law_great [.int c, .int s, .int m] = .ok (.int r, false) ∧ 0 ≤ r ∧ r < m := by
  have hb : ¬ (m = 0) := by omega
  have k1 : ∀ z, mulOk 400 z = true := fun z => mulOk_l (by decide)
  have k2 : ∀ z, mulOk 314159265 z = true := fun z => mulOk_l (by decide)
  have hp : (0 : Int) ≤ 6000 + 400 * s := by omega
  have e1 : fmodI c 10000000000000000000000000000000000000000 = c % 10000000000000000000000000000000000000000 := fmodI_pos (by decide)
  by_cases h : 1000000000000000000 < c ∧ 0 < c / 2 ^ (6000 + 400 * s).toNat
  · refine ⟨fmodI (c / 2 ^ (6000 + 400 * s).toNat) m, ?_, ?_, ?_⟩
    · simp [_law_great, _law_great_b, k1, hp, h.1, h.2, hb]
    · rw [fmodI_pos hm]
      exact Int.emod_nonneg _ hb
    · rw [fmodI_pos hm]
      exact Int.emod_lt_of_pos _ hm
  · obtain ⟨x, hx, hx1⟩ : ∃ x, fmodI c 10000000000000000000000000000000000000000 + 314159265 * s + 271828183 = x ∧ x.natAbs < 2 ^ 140 := ⟨_, rfl, by rw [e1]; omega⟩
    have k4 : mulOk x 618033988749894848204586834365638117720309 = true := mulOk_w 140 140 hx1 (by decide)
    refine ⟨fmodI (x * 618033988749894848204586834365638117720309) m, ?_, ?_, ?_⟩
    · by_cases h1 : 1000000000000000000 < c
      · have h2 : ¬ 0 < c / 2 ^ (6000 + 400 * s).toNat := fun z => h ⟨h1, z⟩
        simp [_law_great, _law_great_b, k1, k2, hp, h1, h2, hb, hx, k4]
      · simp [_law_great, _law_great_b, k1, k2, hp, h1, hb, hx, k4]
    · rw [fmodI_pos hm]
      exact Int.emod_nonneg _ hb
    · rw [fmodI_pos hm]
      exact Int.emod_lt_of_pos _ hm
def greatF (c s m : Int) : Int := match M._law_great [.int c, .int s, .int m] with
  | .ok (.int r, _) => r
  | _ => 0
theorem great_eq (c s m : Int) (hs0 : 0 ≤ s := by omega) (hs : s ≤ 100000 := by omega) (hm : 0 < m := by omega) : M._law_great [.int c, .int s, .int m] = .ok (.int (greatF c s m), false) := by
  obtain ⟨r, h, _⟩ := great_ex c s m hs0 hs hm
  unfold greatF
  rw [h]
theorem great_b (c s m : Int) (hs0 : 0 ≤ s := by omega) (hs : s ≤ 100000 := by omega) (hm : 0 < m := by omega) : 0 ≤ greatF c s m ∧ greatF c s m < m := by
  obtain ⟨r, h, h1⟩ := great_ex c s m hs0 hs hm
  unfold greatF
  rw [h]
  exact h1
end Law

end
end

section
set_option linter.all false
set_option maxRecDepth 100000
set_option maxHeartbeats 1000000
noncomputable section
namespace M
open Dm
def ends_of_b : SM :=
    (smSeq (smIf (mT (mV 1)) (smRet (mDix [[109, 105, 110, 117, 115], [112, 108, 117, 115], [98, 108, 97, 110, 107], [98, 114, 97, 99, 107, 101, 116, 115], [98, 101, 104, 105, 110, 100]] [(.seq .tup [(.str [45]), (.str [])]), (.seq .tup [(.str [45]), (.str [])]), (.seq .tup [(.str [45]), (.str [])]), (.seq .tup [(.str [40]), (.str [41])]), (.seq .tup [(.str []), (.str [45])])] (mV 0))) smSkip)
    (smRet (mDix [[109, 105, 110, 117, 115], [112, 108, 117, 115], [98, 108, 97, 110, 107], [98, 114, 97, 99, 107, 101, 116, 115], [98, 101, 104, 105, 110, 100]] [(.seq .tup [(.str []), (.str [])]), (.seq .tup [(.str [43]), (.str [])]), (.seq .tup [(.str [32]), (.str [])]), (.seq .tup [(.str []), (.str [])]), (.seq .tup [(.str []), (.str [])])] (mV 0))))
def ends_of : FM := mFn 2 0 ends_of_b
def signed_b : SM :=
    (smSeq (smUnp [3, 4] (mCall M.ends_of (amCons (mV 1) (amCons (mV 2) amNil))))
    (smRet (mB oAdd (mB oAdd (mV 3) (mV 0)) (mV 4))))
def signed : FM := mFn 3 2 signed_b
end M
namespace Law
open Dm M
def syMinus : List Nat := [109, 105, 110, 117, 115]
def syPlus : List Nat := [112, 108, 117, 115]
def syBlank : List Nat := [98, 108, 97, 110, 107]
def syBrack : List Nat := [98, 114, 97, 99, 107, 101, 116, 115]
def syBehind : List Nat := [98, 101, 104, 105, 110, 100]
def styles : List (List Nat) := [syMinus, syPlus, syBlank, syBrack, syBehind]
def leadS (sty : List Nat) (b : Bool) : List Nat := if b then (if sty = syBrack then [40] else if sty = syBehind then [] else [45]) else (if sty = syPlus then [43] else if sty = syBlank then [32] else [])
def tailS (sty : List Nat) (b : Bool) : List Nat := if b then (if sty = syBrack then [41] else if sty = syBehind then [45] else []) else []
theorem sty_cases {P : List Nat → Prop} {s : List Nat} (h : s ∈ styles) (h1 : P syMinus) (h2 : P syPlus) (h3 : P syBlank) (h4 : P syBrack) (h5 : P syBehind) : P s := by
  simp only [styles, List.mem_cons, List.not_mem_nil, or_false] at h
  rcases h with rfl | rfl | rfl | rfl | rfl <;> assumption
theorem lead_le (s : List Nat) (b : Bool) : (leadS s b).length ≤ 1 := by
  unfold leadS
  cases b <;> (repeat' split) <;> simp
theorem tail_le (s : List Nat) (b : Bool) : (tailS s b).length ≤ 1 := by
  unfold tailS
  cases b <;> (repeat' split) <;> simp
theorem ends_of_eq (s : List Nat) (b : Bool) (h : s ∈ styles) : M.ends_of [.str s, .bl b] = .ok (.seq .tup [.str (leadS s b), .str (tailS s b)], false) := by
  refine sty_cases (P := fun s => M.ends_of [.str s, .bl b] = .ok (.seq .tup [.str (leadS s b), .str (tailS s b)], false)) h ?_ ?_ ?_ ?_ ?_ <;> cases b <;>
    simp [ends_of, ends_of_b, leadS, tailS, syMinus, syPlus, syBlank, syBrack, syBehind]
theorem signed_eq (t s : List Nat) (b : Bool) (h : s ∈ styles) (ht : t.length ≤ 1000000) : M.signed [.str t, .str s, .bl b] = .ok (.str (leadS s b ++ t ++ tailS s b), false) := by
  have e := ends_of_eq s b h
  have l1 := lead_le s b
  have l2 := tail_le s b
  have k1 : (leadS s b).length + t.length ≤ lim := le_lim (by omega)
  have k2 : (leadS s b).length + t.length + (tailS s b).length ≤ lim := le_lim (by omega)
  have k3 : (leadS s b).length + (t.length + (tailS s b).length) ≤ lim := le_lim (by omega)
  simp [signed, signed_b, e, k1, k2, k3]
end Law

end
end

section
set_option linter.all false
set_option maxRecDepth 100000
set_option maxHeartbeats 1000000
noncomputable section
namespace M
open Dm
def _law_cell_at_b : SM :=
    (smSeq (smIf (mTB (mCmp cLt (mV 1) (mBlt bLen (amCons (mV 0) amNil)))) (smRet (mIx (mV 0) (mV 1))) smSkip)
    (smRet (mC (.int 0))))
def _law_cell_at : FM := mFn 2 0 _law_cell_at_b
def _law_pick_b : SM :=
    (smSeq (smIf (tmAnd (mTB (mCmp cGt (mV 0) (mB oPow (mC (.int 10)) (mC (.int 18))))) (mTB (mCmp cGt (mB oShr (mV 0) (mB oMul (mC (.int 20)) (mV 1))) (mC (.int 0))))) (smRet (mB oMod (mB oMod (mB oShr (mV 0) (mB oMul (mC (.int 20)) (mV 1))) (mC (.int 1048576))) (mV 2))) smSkip)
    (smSeq (smSet 3 (mB oMod (mB oAdd (mB oAdd (mB oMod (mV 0) (mC (.int 1000000007))) (mC (.int 314159265))) (mB oMul (mC (.int 104729)) (mV 1))) (mC (.int 998244353))))
    (smSeq (smSet 3 (mB oMod (mB oMul (mV 3) (mV 3)) (mC (.int 998244353))))
    (smSeq (smSet 4 (mB oMod (mB oMul (mB oAdd (mV 3) (mC (.int 271828183))) (mB oAdd (mB oAdd (mB oFdiv (mV 3) (mC (.int 1024))) (mC (.int 48271))) (mV 1))) (mC (.int 2147483629))))
    (smRet (mB oMod (mB oFdiv (mV 4) (mC (.int 128))) (mV 2)))))))
def _law_pick : FM := mFn 3 2 _law_pick_b
end M
namespace Law
open Dm M
def pcellF := Law0.cellF
theorem pcell_eq (ns : List Int) (k : Nat) : M._law_cell_at [.seq .rol (ns.map .int), .int k] = .ok (.int (pcellF ns k), false) := Law0.cell_eq ns k
def pickF := Law0.drawF
theorem pick_eq (c s m : Int) (hs : 0 ≤ s := by omega) (hs2 : s ≤ 1000000 := by omega) (hm : 0 < m := by omega) : M._law_pick [.int c, .int s, .int m] = .ok (.int (pickF c s m), false) := Law0.draw_eq c s m hs hs2 hm
theorem pick_lo (c s m : Int) (hs : 0 ≤ s := by omega) (hs2 : s ≤ 1000000 := by omega) (hm : 0 < m := by omega) : 0 ≤ pickF c s m := Law0.draw_lo c s m hs hs2 hm
theorem pick_hi (c s m : Int) (hs : 0 ≤ s := by omega) (hs2 : s ≤ 1000000 := by omega) (hm : 0 < m := by omega) : pickF c s m < m := Law0.draw_hi c s m hs hs2 hm
/-- a pick as a natural number -/
theorem pick_ex (c s : Int) (m : Nat) (hs : 0 ≤ s := by omega) (hs2 : s ≤ 1000000 := by omega) (hm : 0 < m := by omega) : ∃ r : Nat, r < m ∧ M._law_pick [.int c, .int s, .int m] = .ok (.int r, false) := by
  have e := pick_eq c s m hs hs2 (by omega)
  have l := pick_lo c s m hs hs2 (by omega)
  have h := pick_hi c s m hs hs2 (by omega)
  obtain ⟨r, hr⟩ : ∃ r : Nat, pickF c s m = r := ⟨(pickF c s m).toNat, by omega⟩
  rw [hr] at e h
  exact ⟨r, by omega, e⟩
/-- one of a written list -/
theorem at_mem {us : List D} {r : Nat} (h : r < us.length) : ∃ d, d ∈ us ∧ atI us (r : Int) = some d := ⟨us[r], List.getElem_mem h, atI_nat h⟩
end Law

end
end

section
set_option linter.all false
set_option maxRecDepth 100000
set_option maxHeartbeats 1000000
noncomputable section
namespace M
open Dm
def pads_of_b : SM :=
    (smSeq (smSet 3 (mBlt bMax (amCons (mC (.int 0)) (amCons (mB oSub (mV 1) (mV 0)) amNil))))
    (smSeq (smIf (mTB (mCmp cEq (mV 2) (mC (.str [108, 101, 102, 116])))) (smRet (mTup (amCons (mC (.int 0)) (amCons (mV 3) amNil)))) smSkip)
    (smSeq (smIf (mTB (mCmp cEq (mV 2) (mC (.str [114, 105, 103, 104, 116])))) (smRet (mTup (amCons (mV 3) (amCons (mC (.int 0)) amNil)))) smSkip)
    (smRet (mTup (amCons (mB oFdiv (mV 3) (mC (.int 2))) (amCons (mB oSub (mV 3) (mB oFdiv (mV 3) (mC (.int 2)))) amNil)))))))
def pads_of : FM := mFn 3 1 pads_of_b
def padded_b : SM :=
    (smSeq (smUnp [4, 5] (mCall M.pads_of (amCons (mBlt bLen (amCons (mV 0) amNil)) (amCons (mV 1) (amCons (mV 3) amNil)))))
    (smRet (mB oAdd (mB oAdd (mB oMul (mV 2) (mV 4)) (mV 0)) (mB oMul (mV 2) (mV 5)))))
def padded : FM := mFn 4 2 padded_b
def padded_inside_b : SM :=
    (smSeq (smUnp [4, 5] (mCall M.pads_of (amCons (mB oAdd (mBlt bLen (amCons (mV 0) amNil)) (mBlt bLen (amCons (mV 1) amNil))) (amCons (mV 2) (amCons (mC (.str [114, 105, 103, 104, 116])) amNil)))))
    (smRet (mB oAdd (mB oAdd (mV 0) (mB oMul (mV 3) (mV 4))) (mV 1))))
def padded_inside : FM := mFn 4 2 padded_inside_b
end M
namespace Law
open Dm M
def sdL : List Nat := [108, 101, 102, 116]
def sdR : List Nat := [114, 105, 103, 104, 116]
def sdM : List Nat := [109, 105, 100, 100, 108, 101]
def padA (n w : Nat) (s : List Nat) : Nat := if s = sdL then 0 else if s = sdR then w - n else (w - n) / 2
def padB (n w : Nat) (s : List Nat) : Nat := if s = sdL then w - n else if s = sdR then 0 else (w - n) - (w - n) / 2
theorem pads_eq (n w : Nat) (s : List Nat) : M.pads_of [.int n, .int w, .str s] = .ok (.seq .tup [.int (padA n w s), .int (padB n w s)], false) := by
  have e : (if (w : Int) - (n : Int) > 0 then (w : Int) - (n : Int) else 0) = ((w - n : Nat) : Int) := by split <;> omega
  have k : lg 2 9000 = true := lg_small _ (by decide)
  have e2 : fdivI ((w - n : Nat) : Int) 2 = ((w - n) / 2 : Nat) := by
    rw [fdivI_pos (by omega)]
    exact (Int.natCast_ediv _ 2).symm
  have e3 : ((w - n : Nat) : Int) - (((w - n) / 2 : Nat) : Int) = ((w - n - (w - n) / 2 : Nat) : Int) := by omega
  have h2 : 2 ≤ lim := le_lim (by decide)
  have e0 : bMax [.int 0, .int ((w : Int) - (n : Int))] = .ok (.int ((w - n : Nat) : Int)) := by rw [bMax_i, e]
  unfold padA padB
  generalize w - n = d at *
  by_cases h1 : s = sdL
  · subst h1
    simp [pads_of, pads_of_b, -bMax_i, e0, sdL, h2]
  · by_cases h3 : s = sdR
    · subst h3
      simp [pads_of, pads_of_b, -bMax_i, e0, sdL, sdR, h2]
    · rw [if_neg h1, if_neg h1, if_neg h3, if_neg h3]
      unfold sdL at h1
      unfold sdR at h3
      simp [pads_of, pads_of_b, -bMax_i, e0, h1, h3, h2, k]
      rw [e2]
      exact ⟨rfl, by omega⟩
theorem pad_sum (n w : Nat) (s : List Nat) : padA n w s + padB n w s = w - n := by
  unfold padA padB
  split
  · omega
  · split <;> omega
end Law
namespace Law
open Dm M
/-- the padded text -/
def padT (t : List Nat) (w x : Nat) (s : List Nat) : List Nat := List.replicate (padA t.length w s) x ++ t ++ List.replicate (padB t.length w s) x
theorem padT_len (t : List Nat) (w x : Nat) (s : List Nat) : (padT t w x s).length = max t.length w := by
  have := pad_sum t.length w s
  simp [padT]
  omega
theorem padded_eq (t : List Nat) (w x : Nat) (s : List Nat) (ht : t.length ≤ 400) (hw : w ≤ 400) : M.padded [.str t, .int w, .str [x], .str s] = .ok (.str (padT t w x s), false) := by
  have p := pads_eq t.length w s
  have q := pad_sum t.length w s
  have m1 := mul_one x (padA t.length w s) (by omega)
  have m2 := mul_one x (padB t.length w s) (by omega)
  simp (disch := first | omega | simp) [padded, padded_b, p, m1, m2, le_lim, padT]
def insT (l r : List Nat) (w x : Nat) : List Nat := l ++ List.replicate (w - (l.length + r.length)) x ++ r
theorem insT_len (l r : List Nat) (w x : Nat) : (insT l r w x).length = max (l.length + r.length) w := by
  simp [insT]
  omega
theorem inside_eq (l r : List Nat) (w x : Nat) (hl : l.length ≤ 500) (hr : r.length ≤ 500) (hw : w ≤ 400) : M.padded_inside [.str l, .str r, .int w, .str [x]] = .ok (.str (insT l r w x), false) := by
  have p := pads_eq (l.length + r.length) w sdR
  have hA : padA (l.length + r.length) w sdR = w - (l.length + r.length) := by simp [padA, sdL, sdR]
  rw [hA] at p
  have m1 := mul_one x (w - (l.length + r.length)) (by omega)
  simp only [sdR] at p
  simp at p
  simp (disch := first | omega | simp) [padded_inside, padded_inside_b, p, m1, le_lim, insT]
end Law

end
end

section
set_option linter.all false
set_option maxRecDepth 100000
set_option maxHeartbeats 1000000
noncomputable section
namespace M
open Dm
def _law_divisor_b : SM :=
    (smSeq (smWhile (mTB (mCmp cNe (mV 1) (mC (.int 0)))) (smPar [0, 1] (amCons (mV 1) (amCons (mB oMod (mV 0) (mV 1)) amNil))) fuel)
    (smRet (mBlt bAbs (amCons (mV 0) amNil))))
def _law_divisor : FM := mFn 2 0 _law_divisor_b
def _law_lowest_b : SM :=
    (smSeq (smSet 2 (mCall M._law_divisor (amCons (mV 0) (amCons (mV 1) amNil))))
    (smRet (mTup (amCons (mB oFdiv (mV 0) (mV 2)) (amCons (mB oFdiv (mV 1) (mV 2)) amNil)))))
def _law_lowest : FM := mFn 2 1 _law_lowest_b
end M
namespace Law
open Dm M
theorem ldiv_eq (a b : Int) (hb0 : 0 ≤ b) (hb : b.natAbs < 2 ^ 4000) : M._law_divisor [.int a, .int b] = .ok (.int (Nat.gcd a.natAbs b.natAbs : Nat), false) := by
  simp [_law_divisor, _law_divisor_b]
  refine qw_run (fun r => r = .ok (.int (Nat.gcd a.natAbs b.natAbs : Nat), false)) (fun ρ => ∃ (x : Int) (y : Nat), ρ = [.fz (.int x), .fz (.int y)] ∧ Nat.gcd x.natAbs y = Nat.gcd a.natAbs b.natAbs) msr (fun ρ => ∃ x : Int, x.natAbs = Nat.gcd a.natAbs b.natAbs ∧ ρ = [.fz (.int x), .fz (.int 0)]) ⟨a, b.natAbs, by rw [show ((b.natAbs : Nat) : Int) = b by omega], rfl⟩ ?_ ?_ ?_
  · exact fuel_of 4000 (by show b.toNat < _; omega)
  · rintro ρ ⟨x, y, rfl, h⟩
    by_cases h0 : y = 0
    · subst h0
      rw [Nat.gcd_zero_right] at h
      exact .inl ⟨by simp, x, h, rfl⟩
    · have hy : (0 : Int) < y := by omega
      have e : fmodI x (y : Int) = ((x % (y : Int)).toNat : Nat) := by
        rw [fmodI_pos hy, Int.toNat_of_nonneg (Int.emod_nonneg _ (by omega))]
      have hlt := Int.emod_lt_of_pos x hy
      have h0' := Int.emod_nonneg x (show (y : Int) ≠ 0 by omega)
      refine .inr ⟨by simp [h0], ?_⟩
      have hne : ¬ (y : Int) = 0 := by omega
      simp only [e_smPar, e_amCons, e_mV, e_amNil, e_mB] 
      simp [h0, hne, msr, e]
      have e7 : (x % (y : Int)).toNat = (x % (y : Int)).natAbs := by omega
      have e8 : Int.gcd (x % (y : Int)) (y : Int) = Int.gcd x (y : Int) := by rw [Int.emod_def, Int.mul_comm, Int.gcd_sub_mul_right_left]
      refine ⟨⟨(y : Int), (x % (y : Int)).toNat, ⟨rfl, by omega⟩, ?_⟩, by omega⟩
      rw [← h, e7, Nat.gcd_comm]
      exact e8
  · rintro ρ ⟨x, hx, rfl⟩
    simp [-bAbs_i, abs_n, hx]
theorem llow_eq (a b : Int) (hb : 0 < b) (hb2 : b.natAbs < 2 ^ 4000) : M._law_lowest [.int a, .int b] = .ok (.seq .tup [.int (lowT a b), .int (lowB a b)], false) := by
  have c := ldiv_eq a b (by omega) hb2
  have hg := gcd_b (a := a) hb
  have h2 : 2 ≤ lim := le_lim (by decide)
  unfold lowT lowB
  have hk : lg (Nat.gcd a.natAbs b.natAbs : Nat) 9000 = true := lg_of 4000 (by rw [Int.natAbs_natCast]; exact Nat.lt_of_le_of_lt hg.2 hb2)
  generalize Nat.gcd a.natAbs b.natAbs = g at *
  have hg0 : ¬ (g = 0) := by omega
  have e1 : fdivI a g = a / g := fdivI_pos (by omega)
  have e2 : fdivI b g = b / g := fdivI_pos (by omega)
  simp [_law_lowest, _law_lowest_b, c, hg0, hk, e1, e2, h2]
end Law

end
end

section
set_option linter.all false
set_option maxRecDepth 100000
set_option maxHeartbeats 1000000
noncomputable section
namespace M
open Dm
def _law_signs_b : SM :=
    (smRet (mC (.str [32, 33, 34, 35, 36, 38, 39, 40, 41, 42, 43, 44, 45, 46, 47, 48, 49, 50, 51, 52, 53, 54, 55, 56, 57, 58, 59, 60, 61, 62, 63, 64, 65, 66, 67, 68, 69, 70, 71, 72, 73, 74, 75, 76, 77, 78, 79, 80, 81, 82, 83, 84, 85, 86, 87, 88, 89, 90, 91, 92, 93, 94, 95, 96, 97, 98, 99, 100, 101, 102, 103, 104, 105, 106, 107, 108, 109, 110, 111, 112, 113, 114, 115, 116, 117, 118, 119, 120, 121, 122, 123, 124, 125, 126])))
def _law_signs : FM := mFn 0 0 _law_signs_b
def _law_sign_b : SM :=
    (smSeq (smSet 2 (mC (.str [32, 48, 45, 43, 40, 49, 42, 41, 95, 44, 46, 57, 102])))
    (smSeq (smIf (mTB (mCmp cGt (mCall M._law_pick (amCons (mV 0) (amCons (mV 1) (amCons (mC (.int 3)) amNil)))) (mC (.int 0)))) (smRet (mIx (mV 2) (mCall M._law_pick (amCons (mV 0) (amCons (mB oAdd (mV 1) (mC (.int 1))) (amCons (mBlt bLen (amCons (mV 2) amNil)) amNil)))))) smSkip)
    (smRet (mIx (mCall M._law_signs amNil) (mCall M._law_pick (amCons (mV 0) (amCons (mB oAdd (mV 1) (mC (.int 2))) (amCons (mC (.int 94)) amNil))))))))
def _law_sign : FM := mFn 2 1 _law_sign_b
def _law_number_spec_b : SM :=
    (smSeq (smSet 3 (mB oAdd (mC (.int 1)) (mCall M._law_pick (amCons (mV 0) (amCons (mC (.int 1)) (amCons (mIx (mLst (amCons (mC (.int 12)) (amCons (mC (.int 2)) amNil))) (mV 2)) amNil))))))
    (smSeq (smSet 4 (mCall M._law_pick (amCons (mV 0) (amCons (mC (.int 2)) (amCons (mIx (mLst (amCons (mC (.int 7)) (amCons (mC (.int 2)) amNil))) (mV 2)) amNil)))))
    (smSeq (smSet 5 (mIx (mLst (amCons (mC (.int 10)) (amCons (mC (.int 2)) (amCons (mIx (mLst (amCons (mC (.int 16)) (amCons (mC (.int 3)) amNil))) (mV 2)) (amCons (mIx (mLst (amCons (mB oAdd (mC (.int 2)) (mCall M._law_pick (amCons (mV 0) (amCons (mC (.int 3)) (amCons (mC (.int 15)) amNil))))) (amCons (mC (.int 10)) amNil))) (mV 2)) amNil))))) (mCall M._law_pick (amCons (mV 0) (amCons (mC (.int 4)) (amCons (mC (.int 4)) amNil))))))
    (smSeq (smSet 6 (mIx (mLst (amCons (mC (.str [109, 105, 110, 117, 115])) (amCons (mC (.str [112, 108, 117, 115])) (amCons (mC (.str [98, 108, 97, 110, 107])) (amCons (mC (.str [98, 114, 97, 99, 107, 101, 116, 115])) (amCons (mC (.str [98, 101, 104, 105, 110, 100])) amNil)))))) (mCall M._law_pick (amCons (mV 0) (amCons (mC (.int 5)) (amCons (mC (.int 5)) amNil))))))
    (smSeq (smSet 7 (mIx (mLst (amCons (mC (.int 0)) (amCons (mC (.int 3)) (amCons (mB oAdd (mC (.int 1)) (mCall M._law_pick (amCons (mV 0) (amCons (mC (.int 6)) (amCons (mC (.int 9)) amNil))))) amNil)))) (mCall M._law_pick (amCons (mV 0) (amCons (mC (.int 7)) (amCons (mC (.int 3)) amNil))))))
    (smSeq (smSet 8 (mIx (mLst (amCons (mC (.str [100, 111, 119, 110])) (amCons (mC (.str [117, 112])) (amCons (mC (.str [99, 117, 116])) (amCons (mC (.str [110, 101, 97, 114])) (amCons (mC (.str [101, 118, 101, 110])) amNil)))))) (mCall M._law_pick (amCons (mV 0) (amCons (mC (.int 8)) (amCons (mC (.int 5)) amNil))))))
    (smSeq (smSet 9 (mTup (amCons (mCall M._law_sign (amCons (mV 1) (amCons (mC (.int 10)) amNil))) (amCons (mCall M._law_sign (amCons (mV 1) (amCons (mC (.int 20)) amNil))) (amCons (mCall M._law_sign (amCons (mV 1) (amCons (mC (.int 30)) amNil))) amNil)))))
    (smSeq (smSet 10 (mLst (amCons (mC (.int 0)) (amCons (mB oAdd (mC (.int 1)) (mCall M._law_pick (amCons (mV 1) (amCons (mC (.int 40)) (amCons (mIx (mLst (amCons (mC (.int 40)) (amCons (mC (.int 5)) amNil))) (mV 2)) amNil))))) (amCons (mB oAdd (mC (.int 3)) (mCall M._law_pick (amCons (mV 1) (amCons (mC (.int 41)) (amCons (mIx (mLst (amCons (mC (.int 8)) (amCons (mC (.int 3)) amNil))) (mV 2)) amNil))))) amNil)))))
    (smSeq (smSet 11 (mIx (mV 10) (mCall M._law_pick (amCons (mV 1) (amCons (mC (.int 42)) (amCons (mC (.int 3)) amNil))))))
    (smSeq (smSet 12 (mIx (mLst (amCons (mC (.str [114, 105, 103, 104, 116])) (amCons (mC (.str [108, 101, 102, 116])) (amCons (mC (.str [109, 105, 100, 100, 108, 101])) (amCons (mC (.str [105, 110, 115, 105, 100, 101])) amNil))))) (mCall M._law_pick (amCons (mV 1) (amCons (mC (.int 43)) (amCons (mC (.int 4)) amNil))))))
    (smSeq (smSet 13 (mCmp cEq (mCall M._law_pick (amCons (mV 1) (amCons (mC (.int 44)) (amCons (mC (.int 3)) amNil)))) (mC (.int 0))))
    (smRet (mTup (amCons (mC (.str [110, 117, 109, 98, 101, 114])) (amCons (mV 3) (amCons (mV 4) (amCons (mV 5) (amCons (mV 6) (amCons (mV 7) (amCons (mIx (mV 9) (mC (.int 0))) (amCons (mIx (mV 9) (mC (.int 1))) (amCons (mV 8) (amCons (mV 11) (amCons (mIx (mV 9) (mC (.int 2))) (amCons (mV 12) (amCons (mV 13) amNil))))))))))))))))))))))))))
def _law_number_spec : FM := mFn 3 11 _law_number_spec_b
end M
namespace Law
open Dm M
def sgL : List Nat := [32, 33, 34, 35, 36, 38, 39, 40, 41, 42, 43, 44, 45, 46, 47, 48, 49, 50, 51, 52, 53, 54, 55, 56, 57, 58, 59, 60, 61, 62, 63, 64, 65, 66, 67, 68, 69, 70, 71, 72, 73, 74, 75, 76, 77, 78, 79, 80, 81, 82, 83, 84, 85, 86, 87, 88, 89, 90, 91, 92, 93, 94, 95, 96, 97, 98, 99, 100, 101, 102, 103, 104, 105, 106, 107, 108, 109, 110, 111, 112, 113, 114, 115, 116, 117, 118, 119, 120, 121, 122, 123, 124, 125, 126]
theorem sgL_len : sgL.length = 94 := by decide
theorem sgL_b : ∀ x ∈ sgL, 32 ≤ x ∧ x < 127 := by decide
theorem signs_eq : M._law_signs [] = .ok (.str sgL, false) := id rfl
theorem sign2_ex (c : Int) (s : Nat) (hs : s ≤ 1000) : ∃ x : Nat, M._law_sign [.int c, .int s] = .ok (.str [x], false) ∧ 32 ≤ x ∧ x < 127 := by
  obtain ⟨r1, h1, e1⟩ := pick_ex c s 3
  obtain ⟨r2, h2, e2⟩ := pick_ex c ((s : Int) + 1) 13
  obtain ⟨r3, h3, e3⟩ := pick_ex c ((s : Int) + 2) 94
  have k1 : 13 ≤ lim := le_lim (by decide)
  have k2 : 94 ≤ lim := le_lim (by decide)
  simp at e1 e2 e3
  by_cases h : 0 < r1
  · obtain ⟨x, hx, ex⟩ := (show ∃ x, x ∈ [32, 48, 45, 43, 40, 49, 42, 41, 95, 44, 46, 57, 102] ∧ atI [32, 48, 45, 43, 40, 49, 42, 41, 95, 44, 46, 57, 102] (r2 : Int) = some x from ⟨_, List.getElem_mem (show r2 < [32, 48, 45, 43, 40, 49, 42, 41, 95, 44, 46, 57, 102].length from h2), atI_nat h2⟩)
    refine ⟨x, ?_, (show ∀ x ∈ [32, 48, 45, 43, 40, 49, 42, 41, 95, 44, 46, 57, 102], 32 ≤ x ∧ x < 127 by decide) x hx⟩
    simp [_law_sign, _law_sign_b, e1, h, k1, e2, ex]
  · obtain ⟨x, hx, ex⟩ := atI_mem (xs := sgL) (i := (r3 : Int)) (by omega) (by rw [sgL_len]; omega)
    refine ⟨x, ?_, sgL_b x hx⟩
    have sl : sgL.length ≤ lim := by rw [sgL_len]; exact k2
    simp [_law_sign, _law_sign_b, e1, h, k1, k2, e3, signs_eq, ex, sl]
/-- a form of numbers, by the law's words -/
structure NS where
  f : Nat
  p : Nat
  b : Nat
  sg : List Nat
  sz : Nat
  mark : Nat
  pt : Nat
  wy : List Nat
  wd : Nat
  fl : Nat
  sd : List Nat
  st : Bool
def sdI : List Nat := [105, 110, 115, 105, 100, 101]
def NS.D (S : NS) : D := .seq .tup [.str [110, 117, 109, 98, 101, 114], .int S.f, .int S.p, .int S.b, .str S.sg, .int S.sz, .str [S.mark], .str [S.pt], .str S.wy, .int S.wd, .str [S.fl], .str S.sd, .bl S.st]
structure NS.Ok (S : NS) : Prop where
  f1 : 1 ≤ S.f
  f2 : S.f ≤ 12
  p2 : S.p ≤ 6
  b1 : 2 ≤ S.b
  b2 : S.b ≤ 16
  sg : S.sg ∈ styles
  sz : S.sz ≤ 9
  mark : 32 ≤ S.mark ∧ S.mark < 127
  pt : 32 ≤ S.pt ∧ S.pt < 127
  wd : S.wd ≤ 40
  fl : 32 ≤ S.fl ∧ S.fl < 127
  sd : S.sd = sdL ∨ S.sd = sdR ∨ S.sd = sdM ∨ S.sd = sdI
  wy : S.wy = wDown ∨ S.wy = wUp ∨ S.wy = wCut ∨ S.wy = wNear ∨ S.wy = wEven
theorem spec_ex (c o : Int) (sm : Nat) (h : sm ≤ 1) : ∃ S : NS, S.Ok ∧ M._law_number_spec [.int c, .int o, .int sm] = .ok (S.D, false) := by
  obtain ⟨m1, a1, b1, c1⟩ : ∃ m : Nat, atI [D.int 12, .int 2] (sm : Int) = some (.int m) ∧ 1 ≤ m ∧ m ≤ 12 := by
    rcases (show sm = 0 ∨ sm = 1 by omega) with rfl | rfl
    · exact ⟨12, rfl, by decide, by decide⟩
    · exact ⟨2, rfl, by decide, by decide⟩
  obtain ⟨m2, a2, b2, c2⟩ : ∃ m : Nat, atI [D.int 7, .int 2] (sm : Int) = some (.int m) ∧ 1 ≤ m ∧ m ≤ 7 := by
    rcases (show sm = 0 ∨ sm = 1 by omega) with rfl | rfl
    · exact ⟨7, rfl, by decide, by decide⟩
    · exact ⟨2, rfl, by decide, by decide⟩
  obtain ⟨m3, a3, b3, c3⟩ : ∃ m : Nat, atI [D.int 16, .int 3] (sm : Int) = some (.int m) ∧ 2 ≤ m ∧ m ≤ 16 := by
    rcases (show sm = 0 ∨ sm = 1 by omega) with rfl | rfl
    · exact ⟨16, rfl, by decide, by decide⟩
    · exact ⟨3, rfl, by decide, by decide⟩
  obtain ⟨m5, a5, b5, c5⟩ : ∃ m : Nat, atI [D.int 40, .int 5] (sm : Int) = some (.int m) ∧ 1 ≤ m ∧ m ≤ 40 := by
    rcases (show sm = 0 ∨ sm = 1 by omega) with rfl | rfl
    · exact ⟨40, rfl, by decide, by decide⟩
    · exact ⟨5, rfl, by decide, by decide⟩
  obtain ⟨m6, a6, b6, c6⟩ : ∃ m : Nat, atI [D.int 8, .int 3] (sm : Int) = some (.int m) ∧ 1 ≤ m ∧ m ≤ 8 := by
    rcases (show sm = 0 ∨ sm = 1 by omega) with rfl | rfl
    · exact ⟨8, rfl, by decide, by decide⟩
    · exact ⟨3, rfl, by decide, by decide⟩
  obtain ⟨r1, h1, e1⟩ := pick_ex c 1 m1
  obtain ⟨r2, h2, e2⟩ := pick_ex c 2 m2
  obtain ⟨r3, h3, e3⟩ := pick_ex c 3 15
  obtain ⟨m4, a4, b4, c4⟩ : ∃ m : Nat, atI [D.int (2 + (r3 : Int)), .int 10] (sm : Int) = some (.int m) ∧ 2 ≤ m ∧ m ≤ 16 := by
    rcases (show sm = 0 ∨ sm = 1 by omega) with rfl | rfl
    · exact ⟨2 + r3, rfl, by omega, by omega⟩
    · exact ⟨10, rfl, by decide, by decide⟩
  obtain ⟨r4, h4, e4⟩ := pick_ex c 4 4
  obtain ⟨b, ab, bb, cb⟩ : ∃ m : Nat, atI [D.int 10, .int 2, .int m3, .int m4] (r4 : Int) = some (.int m) ∧ 2 ≤ m ∧ m ≤ 16 := by
    rcases (show r4 = 0 ∨ r4 = 1 ∨ r4 = 2 ∨ r4 = 3 by omega) with rfl | rfl | rfl | rfl
    · exact ⟨10, rfl, by decide, by decide⟩
    · exact ⟨2, rfl, by decide, by decide⟩
    · exact ⟨m3, rfl, b3, c3⟩
    · exact ⟨m4, rfl, b4, c4⟩
  obtain ⟨r5, h5, e5⟩ := pick_ex c 5 5
  obtain ⟨sg, as, bs⟩ : ∃ s : List Nat, atI [D.str syMinus, .str syPlus, .str syBlank, .str syBrack, .str syBehind] (r5 : Int) = some (.str s) ∧ s ∈ styles := by
    rcases (show r5 = 0 ∨ r5 = 1 ∨ r5 = 2 ∨ r5 = 3 ∨ r5 = 4 by omega) with rfl | rfl | rfl | rfl | rfl
    · exact ⟨syMinus, rfl, by simp [styles]⟩
    · exact ⟨syPlus, rfl, by simp [styles]⟩
    · exact ⟨syBlank, rfl, by simp [styles]⟩
    · exact ⟨syBrack, rfl, by simp [styles]⟩
    · exact ⟨syBehind, rfl, by simp [styles]⟩
  obtain ⟨r6, h6, e6⟩ := pick_ex c 6 9
  obtain ⟨r7, h7, e7⟩ := pick_ex c 7 3
  obtain ⟨sz, az, bz⟩ : ∃ m : Nat, atI [D.int 0, .int 3, .int (1 + (r6 : Int))] (r7 : Int) = some (.int m) ∧ m ≤ 9 := by
    rcases (show r7 = 0 ∨ r7 = 1 ∨ r7 = 2 by omega) with rfl | rfl | rfl
    · exact ⟨0, rfl, by decide⟩
    · exact ⟨3, rfl, by decide⟩
    · exact ⟨1 + r6, rfl, by omega⟩
  obtain ⟨r8, h8, e8⟩ := pick_ex c 8 5
  obtain ⟨wy, aw, bw⟩ : ∃ s : List Nat, atI [D.str [100, 111, 119, 110], .str [117, 112], .str [99, 117, 116], .str [110, 101, 97, 114], .str [101, 118, 101, 110]] (r8 : Int) = some (.str s) ∧ (s = wDown ∨ s = wUp ∨ s = wCut ∨ s = wNear ∨ s = wEven) := by
    rcases (show r8 = 0 ∨ r8 = 1 ∨ r8 = 2 ∨ r8 = 3 ∨ r8 = 4 by omega) with rfl | rfl | rfl | rfl | rfl
    · exact ⟨wDown, rfl, .inl rfl⟩
    · exact ⟨wUp, rfl, .inr (.inl rfl)⟩
    · exact ⟨wCut, rfl, .inr (.inr (.inl rfl))⟩
    · exact ⟨wNear, rfl, .inr (.inr (.inr (.inl rfl)))⟩
    · exact ⟨wEven, rfl, .inr (.inr (.inr (.inr rfl)))⟩
  obtain ⟨x1, s1, t1⟩ := sign2_ex o 10 (by decide)
  obtain ⟨x2, s2, t2⟩ := sign2_ex o 20 (by decide)
  obtain ⟨x3, s3, t3⟩ := sign2_ex o 30 (by decide)
  obtain ⟨r9, h9, e9⟩ := pick_ex o 40 m5
  obtain ⟨q1, g1, i1⟩ := pick_ex o 41 m6
  obtain ⟨q2, g2, i2⟩ := pick_ex o 42 3
  obtain ⟨wd, ad, bd⟩ : ∃ m : Nat, atI [D.int 0, .int (1 + (r9 : Int)), .int (3 + (q1 : Int))] (q2 : Int) = some (.int m) ∧ m ≤ 40 := by
    rcases (show q2 = 0 ∨ q2 = 1 ∨ q2 = 2 by omega) with rfl | rfl | rfl
    · exact ⟨0, rfl, by decide⟩
    · exact ⟨1 + r9, rfl, by omega⟩
    · exact ⟨3 + q1, rfl, by omega⟩
  obtain ⟨q3, g3, i3⟩ := pick_ex o 43 4
  obtain ⟨sd, asd, bsd⟩ : ∃ s : List Nat, atI [D.str sdR, .str sdL, .str sdM, .str sdI] (q3 : Int) = some (.str s) ∧ (s = sdL ∨ s = sdR ∨ s = sdM ∨ s = sdI) := by
    rcases (show q3 = 0 ∨ q3 = 1 ∨ q3 = 2 ∨ q3 = 3 by omega) with rfl | rfl | rfl | rfl
    · exact ⟨sdR, rfl, .inr (.inl rfl)⟩
    · exact ⟨sdL, rfl, .inl rfl⟩
    · exact ⟨sdM, rfl, .inr (.inr (.inl rfl))⟩
    · exact ⟨sdI, rfl, .inr (.inr (.inr rfl))⟩
  obtain ⟨q4, g4, i4⟩ := pick_ex o 44 3
  refine ⟨⟨1 + r1, r2, b, sg, sz, x1, x2, wy, wd, x3, sd, decide (q4 = 0)⟩, ⟨by show 1 ≤ 1 + r1; omega, by show 1 + r1 ≤ 12; omega, by show r2 ≤ 6; omega, bb, cb, bs, bz, t1, t2, bd, t3, bsd, bw⟩, ?_⟩
  simp only [syMinus, syPlus, syBlank, syBrack, syBehind] at as
  simp only [sdL, sdR, sdM, sdI] at asd
  simp at e1 e2 e3 e4 e5 e6 e7 e8 e9 i1 i2 i3 i4 s1 s2 s3
  have k : ∀ n, n ≤ 13 → n ≤ lim := fun n h => le_lim (by omega)
  have t0 : ∀ x y z : D, atI [x, y, z] 0 = some x := fun _ _ _ => rfl
  have t1 : ∀ x y z : D, atI [x, y, z] 1 = some y := fun _ _ _ => rfl
  have t2 : ∀ x y z : D, atI [x, y, z] 2 = some z := fun _ _ _ => rfl
  have dq : ((q4 : Int) == 0) = decide (q4 = 0) := by
    rw [Bool.eq_iff_iff]
    simp
  simp (disch := first | omega | simp) [_law_number_spec, _law_number_spec_b, k, t0, t1, t2, dq, NS.D, a1, a2, a3, a4, a5, a6, e1, e2, e3, e4, ab, e5, as, e6, e7, az, e8, aw, s1, s2, s3, e9, i1, i2, ad, i3, asd, i4]
theorem t13_24 (x1 x2 x3 x4 x5 x6 x7 x8 x9 x10 x11 x12 x13 : D) : dCut (.seq .tup [x1, x2, x3, x4, x5, x6, x7, x8, x9, x10, x11, x12, x13]) (some 2) (some 4) = .ok (.seq .tup [x3, x4], .cl) := if_neg (t := (Res.bad : Res (D × Tg))) (show ¬ (sIx 13 0 (some 2) = 0 ∧ sIx 13 13 (some 4) = 13) by decide)
theorem t13_58 (x1 x2 x3 x4 x5 x6 x7 x8 x9 x10 x11 x12 x13 : D) : dCut (.seq .tup [x1, x2, x3, x4, x5, x6, x7, x8, x9, x10, x11, x12, x13]) (some 5) (some 8) = .ok (.seq .tup [x6, x7, x8], .cl) := if_neg (t := (Res.bad : Res (D × Tg))) (show ¬ (sIx 13 0 (some 5) = 0 ∧ sIx 13 13 (some 8) = 13) by decide)
theorem t13_18 (x1 x2 x3 x4 x5 x6 x7 x8 x9 x10 x11 x12 x13 : D) : dCut (.seq .tup [x1, x2, x3, x4, x5, x6, x7, x8, x9, x10, x11, x12, x13]) (some 1) (some 8) = .ok (.seq .tup [x2, x3, x4, x5, x6, x7, x8], .cl) := if_neg (t := (Res.bad : Res (D × Tg))) (show ¬ (sIx 13 0 (some 1) = 0 ∧ sIx 13 13 (some 8) = 13) by decide)
theorem t13_8 (x1 x2 x3 x4 x5 x6 x7 x8 x9 x10 x11 x12 x13 : D) : dCut (.seq .tup [x1, x2, x3, x4, x5, x6, x7, x8, x9, x10, x11, x12, x13]) (some 8) none = .ok (.seq .tup [x9, x10, x11, x12, x13], .cl) := if_neg (t := (Res.bad : Res (D × Tg))) (show ¬ (sIx 13 0 (some 8) = 0 ∧ sIx 13 13 none = 13) by decide)
theorem t13_a4 (x1 x2 x3 x4 x5 x6 x7 x8 x9 x10 x11 x12 x13 : D) : atI [x1, x2, x3, x4, x5, x6, x7, x8, x9, x10, x11, x12, x13] 4 = some x5 := rfl
theorem t13_a3 (x1 x2 x3 x4 x5 x6 x7 x8 x9 x10 x11 x12 x13 : D) : atI [x1, x2, x3, x4, x5, x6, x7, x8, x9, x10, x11, x12, x13] 3 = some x4 := rfl
theorem t13_a2 (x1 x2 x3 x4 x5 x6 x7 x8 x9 x10 x11 x12 x13 : D) : atI [x1, x2, x3, x4, x5, x6, x7, x8, x9, x10, x11, x12, x13] 2 = some x3 := rfl
theorem t13_a1 (x1 x2 x3 x4 x5 x6 x7 x8 x9 x10 x11 x12 x13 : D) : atI [x1, x2, x3, x4, x5, x6, x7, x8, x9, x10, x11, x12, x13] 1 = some x2 := rfl
theorem t13_m1 (x1 x2 x3 x4 x5 x6 x7 x8 x9 x10 x11 x12 x13 : D) : atI [x1, x2, x3, x4, x5, x6, x7, x8, x9, x10, x11, x12, x13] (-1) = some x13 := rfl
theorem t13_m2 (x1 x2 x3 x4 x5 x6 x7 x8 x9 x10 x11 x12 x13 : D) : atI [x1, x2, x3, x4, x5, x6, x7, x8, x9, x10, x11, x12, x13] (-2) = some x12 := rfl
theorem t13_m3 (x1 x2 x3 x4 x5 x6 x7 x8 x9 x10 x11 x12 x13 : D) : atI [x1, x2, x3, x4, x5, x6, x7, x8, x9, x10, x11, x12, x13] (-3) = some x11 := rfl
theorem t13_m4 (x1 x2 x3 x4 x5 x6 x7 x8 x9 x10 x11 x12 x13 : D) : atI [x1, x2, x3, x4, x5, x6, x7, x8, x9, x10, x11, x12, x13] (-4) = some x10 := rfl
end Law

end
end

section
set_option linter.all false
set_option maxRecDepth 100000
set_option maxHeartbeats 1000000
noncomputable section
namespace M
open Dm
def Form_init_b : IM :=
    (imFld "width" (mV 1)
    (imFld "fill" (mV 2)
    (imFld "side" (mV 3)
    (imFld "strict" (mV 4)
    imNil))))
def Form_init : IF := mInit 4 Form_init_b
def NumberForm_init_b : IM :=
    (imBase M.Form_init (amCons (mV 9) (amCons (mV 10) (amCons (mV 11) (amCons (mV 12) amNil))))
    (imFld "figures" (mV 1)
    (imFld "places" (mV 2)
    (imFld "base" (mV 3)
    (imFld "sign" (mV 4)
    (imFld "size" (mV 5)
    (imFld "mark" (mV 6)
    (imFld "point" (mV 7)
    (imFld "way" (mV 8)
    imNil)))))))))
def NumberForm_init : IF := mInit 12 NumberForm_init_b
def is_fraction_b : SM :=
    (smSeq (smIf (tmOr (tmNot (mT (mIs "tuple" (mV 0)))) (mTB (mCmp cNe (mBlt bLen (amCons (mV 0) amNil)) (mC (.int 2))))) (smRet (mC (.bl false))) smSkip)
    (smSeq (smIf (tmOr (tmNot (mT (mCall M.is_whole (amCons (mIx (mV 0) (mC (.int 0))) amNil)))) (tmOr (tmNot (mT (mCall M.is_whole (amCons (mIx (mV 0) (mC (.int 1))) amNil)))) (mTB (mCmp cLt (mIx (mV 0) (mC (.int 1))) (mC (.int 1)))))) (smRet (mC (.bl false))) smSkip)
    (smRet (mCmp cEq (mCall M.divisor_of (amCons (mIx (mV 0) (mC (.int 0))) (amCons (mIx (mV 0) (mC (.int 1))) amNil))) (mC (.int 1))))))
def is_fraction : FM := mFn 1 0 is_fraction_b
end M
namespace Law
open Dm M
theorem low_copr {a b : Int} (hb : 0 < b) : Nat.gcd (lowT a b).natAbs (lowB a b).natAbs = 1 := by
  obtain ⟨e1, e2⟩ := low_dvd a b
  have hg := gcd_b (a := a) hb
  have h1 : a.natAbs = (lowT a b).natAbs * Nat.gcd a.natAbs b.natAbs := by
    have := congrArg Int.natAbs e1
    rw [Int.natAbs_mul, Int.natAbs_natCast] at this
    exact this
  have h2 : b.natAbs = (lowB a b).natAbs * Nat.gcd a.natAbs b.natAbs := by
    have := congrArg Int.natAbs e2
    rw [Int.natAbs_mul, Int.natAbs_natCast] at this
    exact this
  have h3 : Nat.gcd a.natAbs b.natAbs = Nat.gcd (lowT a b).natAbs (lowB a b).natAbs * Nat.gcd a.natAbs b.natAbs := by
    have := Nat.gcd_mul_right (lowT a b).natAbs (Nat.gcd a.natAbs b.natAbs) (lowB a b).natAbs
    rw [← h1, ← h2] at this
    exact this
  have h4 : 1 * Nat.gcd a.natAbs b.natAbs = Nat.gcd (lowT a b).natAbs (lowB a b).natAbs * Nat.gcd a.natAbs b.natAbs := by
    rw [Nat.one_mul]
    exact h3
  exact (Nat.eq_of_mul_eq_mul_right hg.1 h4).symm
theorem whole_int (i : Int) : M.is_whole [.int i] = .ok (.bl true, false) := by simp [is_whole, is_whole_b]
theorem isfr_two (a b : Int) (hb : b.natAbs < 2 ^ 4000) : M.is_fraction [.seq .tup [.int a, .int b]] = .ok (.bl (decide (1 ≤ b) && (Nat.gcd a.natAbs b.natAbs == 1)), false) := by
  have c := divisor_eq a b hb
  have a0 : atI [D.int a, .int b] 0 = some (.int a) := rfl
  have a1 : atI [D.int a, .int b] 1 = some (.int b) := rfl
  have k2 : 2 ≤ lim := le_lim (by decide)
  by_cases h : b < 1
  · have h' : ¬ 1 ≤ b := by omega
    simp [is_fraction, is_fraction_b, k2, a0, a1, whole_int, h, h']
  · have h' : 1 ≤ b := by omega
    obtain ⟨g, eg⟩ : ∃ g, Nat.gcd a.natAbs b.natAbs = g := ⟨_, rfl⟩
    rw [eg] at c ⊢
    simp [is_fraction, is_fraction_b, k2, a0, a1, whole_int, h, h', c]
    rw [Bool.eq_iff_iff]
    simp
    omega
def NS.ns : List String := ["width", "fill", "side", "strict", "figures", "places", "base", "sign", "size", "mark", "point", "way"]
def NS.vs (S : NS) : List Dm.D := [.int S.wd, .str [S.fl], .str S.sd, .bl S.st, .int S.f, .int S.p, .int S.b, .str S.sg, .int S.sz, .str [S.mark], .str [S.pt], .str S.wy]
/-- the form as an object -/
def NS.O (S : NS) : Dm.D := .obj "NumberForm" NS.ns S.vs
theorem fg_width (S : NS) : fGet NS.ns S.vs "width" = some (.int S.wd) := by simp [NS.ns, NS.vs, fGet]
theorem fg_fill (S : NS) : fGet NS.ns S.vs "fill" = some (.str [S.fl]) := by simp [NS.ns, NS.vs, fGet]
theorem fg_side (S : NS) : fGet NS.ns S.vs "side" = some (.str S.sd) := by simp [NS.ns, NS.vs, fGet]
theorem fg_strict (S : NS) : fGet NS.ns S.vs "strict" = some (.bl S.st) := by simp [NS.ns, NS.vs, fGet]
theorem fg_figures (S : NS) : fGet NS.ns S.vs "figures" = some (.int S.f) := by simp [NS.ns, NS.vs, fGet]
theorem fg_places (S : NS) : fGet NS.ns S.vs "places" = some (.int S.p) := by simp [NS.ns, NS.vs, fGet]
theorem fg_base (S : NS) : fGet NS.ns S.vs "base" = some (.int S.b) := by simp [NS.ns, NS.vs, fGet]
theorem fg_sign (S : NS) : fGet NS.ns S.vs "sign" = some (.str S.sg) := by simp [NS.ns, NS.vs, fGet]
theorem fg_size (S : NS) : fGet NS.ns S.vs "size" = some (.int S.sz) := by simp [NS.ns, NS.vs, fGet]
theorem fg_mark (S : NS) : fGet NS.ns S.vs "mark" = some (.str [S.mark]) := by simp [NS.ns, NS.vs, fGet]
theorem fg_point (S : NS) : fGet NS.ns S.vs "point" = some (.str [S.pt]) := by simp [NS.ns, NS.vs, fGet]
theorem fg_way (S : NS) : fGet NS.ns S.vs "way" = some (.str S.wy) := by simp [NS.ns, NS.vs, fGet]
theorem fg_no (S : NS) (m : String) (h : m ∉ NS.ns) : fGet NS.ns S.vs m = none := by
  simp [NS.ns] at h
  obtain ⟨h1, h2, h3, h4, h5, h6, h7, h8, h9, h10, h11, h12⟩ := h
  simp [NS.ns, NS.vs, fGet, Ne.symm h1, Ne.symm h2, Ne.symm h3, Ne.symm h4, Ne.symm h5, Ne.symm h6, Ne.symm h7, Ne.symm h8, Ne.symm h9, Ne.symm h10, Ne.symm h11, Ne.symm h12]
theorem ninit_eq (S : NS) : M.NumberForm_init [.int S.f, .int S.p, .int S.b, .str S.sg, .int S.sz, .str [S.mark], .str [S.pt], .str S.wy, .int S.wd, .str [S.fl], .str S.sd, .bl S.st] [] [] = .ok (NS.ns, S.vs) := by
  simp [NumberForm_init, NumberForm_init_b, Form_init, Form_init_b, mInit, imBase, imFld, imNil, noEx, setF, NS.ns, NS.vs]
end Law

end
end

section
set_option linter.all false
set_option maxRecDepth 100000
set_option maxHeartbeats 1000000
noncomputable section
namespace M
open Dm
def _law_word_spec_b : SM :=
    (smSeq (smSet 3 (mCall M._law_pick (amCons (mV 0) (amCons (mC (.int 51)) (amCons (mC (.int 94)) amNil)))))
    (smSeq (smSet 4 (mB oAdd (mC (.int 1)) (mCall M._law_pick (amCons (mV 0) (amCons (mC (.int 52)) (amCons (mC (.int 9)) amNil))))))
    (smSeq (smSet 5 (mCut (mStep (mCall M._law_signs amNil) (mV 3) (mV 4)) mNoP (mPart (mB oAdd (mC (.int 1)) (mCall M._law_pick (amCons (mV 0) (amCons (mC (.int 53)) (amCons (mIx (mLst (amCons (mC (.int 94)) (amCons (mC (.int 3)) amNil))) (mV 2)) amNil))))))))
    (smSeq (smSet 6 (mCall M._law_pick (amCons (mV 1) (amCons (mC (.int 54)) (amCons (mIx (mLst (amCons (mC (.int 25)) (amCons (mC (.int 3)) amNil))) (mV 2)) amNil)))))
    (smSeq (smSet 7 (mBlt bMin (amCons (mC (.int 24)) (amCons (mB oAdd (mV 6) (mCall M._law_pick (amCons (mV 1) (amCons (mC (.int 55)) (amCons (mIx (mLst (amCons (mC (.int 25)) (amCons (mC (.int 3)) amNil))) (mV 2)) amNil))))) amNil))))
    (smSeq (smSet 8 (mIx (mLst (amCons (mIx (mV 5) (mC (.int 0))) (amCons (mCall M._law_sign (amCons (mV 1) (amCons (mC (.int 56)) amNil))) (amCons (mIx (mV 5) (mNeg (mC (.int 1)))) amNil)))) (mCall M._law_pick (amCons (mV 1) (amCons (mC (.int 59)) (amCons (mC (.int 3)) amNil))))))
    (smSeq (smSet 9 (mIx (mLst (amCons (mC (.int 0)) (amCons (mB oAdd (mC (.int 1)) (mCall M._law_pick (amCons (mV 1) (amCons (mC (.int 60)) (amCons (mIx (mLst (amCons (mC (.int 40)) (amCons (mC (.int 5)) amNil))) (mV 2)) amNil))))) (amCons (mV 7) amNil)))) (mCall M._law_pick (amCons (mV 1) (amCons (mC (.int 61)) (amCons (mC (.int 3)) amNil))))))
    (smSeq (smSet 10 (mIx (mLst (amCons (mC (.str [108, 101, 102, 116])) (amCons (mC (.str [114, 105, 103, 104, 116])) (amCons (mC (.str [109, 105, 100, 100, 108, 101])) amNil)))) (mCall M._law_pick (amCons (mV 1) (amCons (mC (.int 62)) (amCons (mC (.int 3)) amNil))))))
    (smRet (mTup (amCons (mC (.str [119, 111, 114, 100])) (amCons (mV 5) (amCons (mV 6) (amCons (mV 7) (amCons (mV 9) (amCons (mV 8) (amCons (mV 10) (amCons (mCmp cEq (mCall M._law_pick (amCons (mV 1) (amCons (mC (.int 63)) (amCons (mC (.int 3)) amNil)))) (mC (.int 0))) amNil))))))))))))))))))
def _law_word_spec : FM := mFn 3 8 _law_word_spec_b
end M
namespace Law
open Dm M
/-- a form of words, by the law's words -/
structure WS where
  sg : List Nat
  lo : Nat
  hi : Nat
  wd : Nat
  fl : Nat
  sd : List Nat
  st : Bool
def WS.D (S : WS) : Dm.D := .seq .tup [.str [119, 111, 114, 100], .str S.sg, .int S.lo, .int S.hi, .int S.wd, .str [S.fl], .str S.sd, .bl S.st]
structure WS.Ok (S : WS) : Prop where
  ne : S.sg ≠ []
  len : S.sg.length ≤ 94
  sg : ∀ y ∈ S.sg, 32 ≤ y ∧ y < 127
  lh : S.lo ≤ S.hi
  hi : S.hi ≤ 24
  wd : S.wd ≤ 40
  fl : 32 ≤ S.fl ∧ S.fl < 127
  sd : S.sd = sdL ∨ S.sd = sdR ∨ S.sd = sdM
theorem stepL_mem (s : List Nat) (a k : Nat) : ∀ y ∈ stepL s a k, y ∈ s := fun y hy => by
  unfold stepL at hy
  obtain ⟨j, _, h⟩ := List.mem_filterMap.mp hy
  exact List.mem_of_getElem? h
theorem stepL_len (s : List Nat) (a k : Nat) (hk : 0 < k) : (stepL s a k).length ≤ s.length := by
  unfold stepL
  refine Nat.le_trans (List.length_filterMap_le _ _) ?_
  rw [List.length_range]
  by_cases h : s.length - a = 0
  · rw [h, Nat.zero_add, Nat.div_eq_of_lt (by omega)]
    omega
  · have : (s.length - a + k - 1) / k ≤ s.length - a := by
      rw [Nat.div_le_iff_le_mul_add_pred hk]
      have := Nat.mul_le_mul_right (s.length - a) (show 1 ≤ k from hk)
      rw [Nat.one_mul] at this
      omega
    omega
theorem stepL_ne (s : List Nat) (a k : Nat) (hk : 0 < k) (ha : a < s.length) : stepL s a k ≠ [] := by
  intro h
  have hm : s[a] ∈ stepL s a k := by
    unfold stepL
    refine List.mem_filterMap.mpr ⟨0, List.mem_range.mpr ?_, by simp [List.getElem?_eq_getElem ha]⟩
    exact Nat.div_pos (by omega) hk
  rw [h] at hm
  cases hm
theorem wspec_ex (c o : Int) (sm : Nat) (h : sm ≤ 1) : ∃ S : WS, S.Ok ∧ M._law_word_spec [.int c, .int o, .int sm] = .ok (S.D, false) := by
  obtain ⟨m1, a1, b1, c1⟩ : ∃ m : Nat, atI [D.int 94, .int 3] (sm : Int) = some (.int m) ∧ 1 ≤ m ∧ m ≤ 94 := by
    rcases (show sm = 0 ∨ sm = 1 by omega) with rfl | rfl
    · exact ⟨94, rfl, by decide, by decide⟩
    · exact ⟨3, rfl, by decide, by decide⟩
  obtain ⟨m2, a2, b2, c2⟩ : ∃ m : Nat, atI [D.int 25, .int 3] (sm : Int) = some (.int m) ∧ 1 ≤ m ∧ m ≤ 25 := by
    rcases (show sm = 0 ∨ sm = 1 by omega) with rfl | rfl
    · exact ⟨25, rfl, by decide, by decide⟩
    · exact ⟨3, rfl, by decide, by decide⟩
  obtain ⟨m3, a3, b3, c3⟩ : ∃ m : Nat, atI [D.int 40, .int 5] (sm : Int) = some (.int m) ∧ 1 ≤ m ∧ m ≤ 40 := by
    rcases (show sm = 0 ∨ sm = 1 by omega) with rfl | rfl
    · exact ⟨40, rfl, by decide, by decide⟩
    · exact ⟨5, rfl, by decide, by decide⟩
  obtain ⟨r1, h1, e1⟩ := pick_ex c 51 94
  obtain ⟨r2, h2, e2⟩ := pick_ex c 52 9
  obtain ⟨r3, h3, e3⟩ := pick_ex c 53 m1
  obtain ⟨r4, h4, e4⟩ := pick_ex o 54 m2
  obtain ⟨r5, h5, e5⟩ := pick_ex o 55 m2
  obtain ⟨x, s1, t1⟩ := sign2_ex o 56 (by decide)
  obtain ⟨r6, h6, e6⟩ := pick_ex o 59 3
  obtain ⟨r7, h7, e7⟩ := pick_ex o 60 m3
  obtain ⟨r8, h8, e8⟩ := pick_ex o 61 3
  obtain ⟨r9, h9, e9⟩ := pick_ex o 62 3
  obtain ⟨q0, g0, i0⟩ := pick_ex o 63 3
  have sl := sgL_len
  have k94 : sgL.length ≤ lim := by rw [sl]; exact le_lim (by decide)
  obtain ⟨L, hL⟩ : ∃ L, L = stepL sgL r1 (1 + r2) := ⟨_, rfl⟩
  have Lne := stepL_ne sgL r1 (1 + r2) (by omega) (by omega)
  have Lln := stepL_len sgL r1 (1 + r2) (by omega)
  have Lmm := stepL_mem sgL r1 (1 + r2)
  rw [← hL] at Lne Lln Lmm
  obtain ⟨T, hT⟩ : ∃ T, T = L.take (1 + r3) := ⟨_, rfl⟩
  have hcut : cutL L none (some (1 + (r3 : Int))) = T := by
    rw [hT, show (1 : Int) + (r3 : Int) = ((1 + r3 : Nat) : Int) by omega]
    exact cutL_to _ _
  have Tne : T ≠ [] := by
    intro z
    rw [hT] at z
    have := congrArg List.length z
    rw [List.length_take, List.length_nil] at this
    have := List.length_pos_iff.mpr Lne
    omega
  have T0 := List.length_pos_iff.mpr Tne
  have Tb : ∀ y ∈ T, 32 ≤ y ∧ y < 127 := fun y hy => sgL_b y (Lmm y (by rw [hT] at hy; exact List.mem_of_mem_take hy))
  have Tl : T.length ≤ 94 := by rw [hT, List.length_take]; omega
  obtain ⟨f0, hf0, mf0⟩ : ∃ y, atI T 0 = some y ∧ y ∈ T := ⟨T[0], atI_nat (i := 0) T0, List.getElem_mem T0⟩
  obtain ⟨f1, hf1, mf1⟩ : ∃ y, atI T (-1) = some y ∧ y ∈ T := by
    have hlt : T.length - 1 < T.length := by omega
    refine ⟨T[T.length - 1], ?_, List.getElem_mem hlt⟩
    unfold atI ixN
    rw [if_neg (by decide), if_pos (by omega)]
    show T[((-1 : Int) + (T.length : Int)).toNat]? = _
    rw [show ((-1 : Int) + (T.length : Int)).toNat = T.length - 1 by omega, List.getElem?_eq_getElem hlt]
  obtain ⟨fl, af, bf⟩ : ∃ y : Nat, atI [D.str [f0], .str [x], .str [f1]] (r6 : Int) = some (.str [y]) ∧ 32 ≤ y ∧ y < 127 := by
    rcases (show r6 = 0 ∨ r6 = 1 ∨ r6 = 2 by omega) with rfl | rfl | rfl
    · exact ⟨f0, rfl, Tb f0 mf0⟩
    · exact ⟨x, rfl, t1⟩
    · exact ⟨f1, rfl, Tb f1 mf1⟩
  obtain ⟨hi, ahi, bhi⟩ : ∃ m : Nat, bMin [.int 24, .int ((r4 : Int) + (r5 : Int))] = .ok (.int m) ∧ m = min 24 (r4 + r5) := by
    refine ⟨min 24 (r4 + r5), ?_, rfl⟩
    rw [bMin_i]
    congr 2
    split <;> omega
  obtain ⟨wd, aw, bw⟩ : ∃ m : Nat, atI [D.int 0, .int (1 + (r7 : Int)), .int hi] (r8 : Int) = some (.int m) ∧ m ≤ 40 := by
    rcases (show r8 = 0 ∨ r8 = 1 ∨ r8 = 2 by omega) with rfl | rfl | rfl
    · exact ⟨0, rfl, by decide⟩
    · exact ⟨1 + r7, rfl, by omega⟩
    · exact ⟨hi, rfl, by omega⟩
  obtain ⟨sd, asd, bsd⟩ : ∃ s : List Nat, atI [D.str sdL, .str sdR, .str sdM] (r9 : Int) = some (.str s) ∧ (s = sdL ∨ s = sdR ∨ s = sdM) := by
    rcases (show r9 = 0 ∨ r9 = 1 ∨ r9 = 2 by omega) with rfl | rfl | rfl
    · exact ⟨sdL, rfl, .inl rfl⟩
    · exact ⟨sdR, rfl, .inr (.inl rfl)⟩
    · exact ⟨sdM, rfl, .inr (.inr rfl)⟩
  refine ⟨⟨T, r4, hi, wd, fl, sd, decide (q0 = 0)⟩, ⟨Tne, Tl, Tb, by show r4 ≤ hi; omega, by show hi ≤ 24; omega, bw, bf, bsd⟩, ?_⟩
  simp only [sdL, sdR, sdM] at asd
  simp at e1 e2 e3 e4 e5 e6 e7 e8 e9 i0 s1
  have k : ∀ n, n ≤ 94 → n ≤ lim := fun n h => le_lim (by omega)
  have kT : T.length ≤ lim := k _ Tl
  have kL : L.length ≤ lim := le_lim (by omega)
  have hst : stepL sgL (r1 : Int).toNat (1 + (r2 : Int)).toNat = L := by
    rw [hL]
    congr 1
  have hst0 : (0 : Int) < 1 + (r2 : Int) := by omega
  have dq : ((q0 : Int) == 0) = decide (q0 = 0) := by
    rw [Bool.eq_iff_iff]
    simp
  simp at hst
  simp (disch := first | omega | simp) [-bMin_i, _law_word_spec, _law_word_spec_b, k, WS.D, a1, a2, a3, e1, e2, e3, e4, e5, e6, e7, e8, e9, i0, s1, signs_eq, k94, hst, hst0, kL, hcut, kT, hf0, hf1, af, ahi, aw, asd, dq]
end Law

end
end

section
set_option linter.all false
set_option maxRecDepth 100000
set_option maxHeartbeats 1000000
noncomputable section
namespace M
open Dm
def WordForm_init_b : IM :=
    (imBase M.Form_init (amCons (mV 4) (amCons (mV 5) (amCons (mV 6) (amCons (mV 7) amNil))))
    (imFld "signs" (mV 1)
    (imFld "least" (mV 2)
    (imFld "most" (mV 3)
    imNil))))
def WordForm_init : IF := mInit 7 WordForm_init_b
def WordForm_is_word_b : SM :=
    (smSeq (smIf (tmOr (tmNot (mT (mIs "str" (mV 1)))) (tmNot (mTB (mChain cLe cLe (mFld ["WordForm"] "least" (mV 0)) (mBlt bLen (amCons (mV 1) amNil)) (mFld ["WordForm"] "most" (mV 0)))))) (smRet (mC (.bl false))) smSkip)
    (smSeq (smFor (put1 2) (wmA (mV 1)) (smIf (mTB (mCmp cNotIn (mV 2) (mFld ["WordForm"] "signs" (mV 0)))) (smRet (mC (.bl false))) smSkip))
    (smRet (mC (.bl true)))))
def WordForm_is_word : FM := mFn 2 1 WordForm_is_word_b
end M
namespace Law
open Dm M
def WS.ns : List String := ["width", "fill", "side", "strict", "signs", "least", "most"]
def WS.vs (S : WS) : List Dm.D := [.int S.wd, .str [S.fl], .str S.sd, .bl S.st, .str S.sg, .int S.lo, .int S.hi]
/-- the form as an object -/
def WS.O (S : WS) : Dm.D := .obj "WordForm" WS.ns S.vs
theorem wg_width (S : WS) : fGet WS.ns S.vs "width" = some (.int S.wd) := by simp [WS.ns, WS.vs, fGet]
theorem wg_fill (S : WS) : fGet WS.ns S.vs "fill" = some (.str [S.fl]) := by simp [WS.ns, WS.vs, fGet]
theorem wg_side (S : WS) : fGet WS.ns S.vs "side" = some (.str S.sd) := by simp [WS.ns, WS.vs, fGet]
theorem wg_strict (S : WS) : fGet WS.ns S.vs "strict" = some (.bl S.st) := by simp [WS.ns, WS.vs, fGet]
theorem wg_signs (S : WS) : fGet WS.ns S.vs "signs" = some (.str S.sg) := by simp [WS.ns, WS.vs, fGet]
theorem wg_least (S : WS) : fGet WS.ns S.vs "least" = some (.int S.lo) := by simp [WS.ns, WS.vs, fGet]
theorem wg_most (S : WS) : fGet WS.ns S.vs "most" = some (.int S.hi) := by simp [WS.ns, WS.vs, fGet]
theorem wg_no (S : WS) (m : String) (h : m ∉ WS.ns) : fGet WS.ns S.vs m = none := by
  simp [WS.ns] at h
  obtain ⟨h1, h2, h3, h4, h5, h6, h7⟩ := h
  simp [WS.ns, WS.vs, fGet, Ne.symm h1, Ne.symm h2, Ne.symm h3, Ne.symm h4, Ne.symm h5, Ne.symm h6, Ne.symm h7]
theorem winit_eq (S : WS) : M.WordForm_init [.str S.sg, .int S.lo, .int S.hi, .int S.wd, .str [S.fl], .str S.sd, .bl S.st] [] [] = .ok (WS.ns, S.vs) := by
  simp [WordForm_init, WordForm_init_b, Form_init, Form_init_b, mInit, imBase, imFld, imNil, noEx, setF, WS.ns, WS.vs]
/-- a word of the form -/
def WS.is (S : WS) (t : List Nat) : Bool := decide (S.lo ≤ t.length) && decide (t.length ≤ S.hi) && t.all fun y => S.sg.contains y
theorem isword_eq (S : WS) (t : List Nat) (ht : t.length ≤ 100000) : M.WordForm_is_word [S.O, .str t] = .ok (.bl (S.is t), false) := by
  have k : t.length ≤ lim := le_lim (by omega)
  unfold WS.is WS.O
  by_cases h1 : S.lo ≤ t.length
  · by_cases h2 : t.length ≤ S.hi
    · rw [decide_eq_true h1, decide_eq_true h2, Bool.true_and, Bool.true_and]
      have h1' : (S.lo : Int) ≤ (t.length : Int) := by omega
      have h2' : (t.length : Int) ≤ (S.hi : Int) := by omega
      simp [WordForm_is_word, WordForm_is_word_b, D.tn, wg_least, wg_most, k, h1', h2', h1, h2]
      refine q_or (fun r => r = .ok (.bl (t.all fun y => decide (y ∈ S.sg)), false)) (fun i ρ => (∀ j, (hj : j < t.length) → j < i → t[j] ∈ S.sg) ∧ ∃ a, ρ = [.fz (.obj "WordForm" WS.ns S.vs), .fz (.str t), a]) (fun o => o = .rt (.bl false) false ∧ (t.all fun y => decide (y ∈ S.sg)) = false) ⟨fun j _ h0 => absurd h0 (by omega), .no, rfl⟩ ?_ ?_ ?_
      · rintro i d ρ hd ⟨hp, a, rfl⟩
        rw [List.getElem?_map] at hd
        obtain ⟨y, hy, rfl⟩ := Option.map_eq_some_iff.mp hd
        obtain ⟨hi, rfl⟩ := List.getElem?_eq_some_iff.mp hy
        by_cases hm : t[i] ∈ S.sg
        · left
          simp [put1, wg_signs, hm]
          intro j hj hji
          by_cases e : j = i
          · subst e; exact hm
          · exact hp j hj (by omega)
        · right
          refine ⟨.rt (.bl false) false, by simp [put1, wg_signs, hm], fun _ => rfl, rfl, ?_⟩
          rw [List.all_eq_false]
          exact ⟨t[i], List.getElem_mem hi, by simpa using hm⟩
      · rintro ρ ⟨hp, a, rfl⟩
        rw [List.length_map] at hp
        have : (t.all fun y => decide (y ∈ S.sg)) = true := by
          rw [List.all_eq_true]
          intro y hy
          obtain ⟨j, hj, e⟩ := List.mem_iff_getElem.mp hy
          rw [← e]
          simpa using hp j hj hj
        rw [this]
        simp
      · rintro o ⟨rfl, h⟩
        rw [h]
        simp
    · have h1' : (S.lo : Int) ≤ (t.length : Int) := by omega
      have h2' : ¬ (t.length : Int) ≤ (S.hi : Int) := by omega
      simp [WordForm_is_word, WordForm_is_word_b, D.tn, wg_least, wg_most, k, h1', h2', h1, h2]
  · have h1' : ¬ (S.lo : Int) ≤ (t.length : Int) := by omega
    simp [WordForm_is_word, WordForm_is_word_b, D.tn, wg_least, wg_most, k, h1', h1]
end Law

end
end

section
set_option linter.all false
set_option maxRecDepth 100000
namespace M
noncomputable section
open Dm
def ChoiceForm_core_b : SM :=
    (smSeq (smIf (tmOr (tmNot (mT (mIs "str" (mV 1)))) (mTB (mCmp cNotIn (mV 1) (mFld ["ChoiceForm"] "names" (mV 0))))) (smRaise "NoValue") smSkip)
    (smRet (mV 1)))
def ChoiceForm_core : FM := mFn 2 0 ChoiceForm_core_b
def figures_of_b : SM :=
    (smSeq (smSet 2 (mIx (mC (.str [48, 49, 50, 51, 52, 53, 54, 55, 56, 57, 97, 98, 99, 100, 101, 102])) (mB oMod (mV 0) (mV 1))))
    (smSeq (smWhile (mTB (mCmp cGe (mV 0) (mV 1))) (smSeq (smSet 0 (mB oFdiv (mV 0) (mV 1)))
    (smSet 2 (mB oAdd (mIx (mC (.str [48, 49, 50, 51, 52, 53, 54, 55, 56, 57, 97, 98, 99, 100, 101, 102])) (mB oMod (mV 0) (mV 1))) (mV 2)))) fuel)
    (smRet (mV 2))))
def figures_of : FM := mFn 2 1 figures_of_b
def marks_in_b : SM :=
    (smSeq (smIf (mTB (mCmp cEq (mV 1) (mC (.int 0)))) (smRet (mC (.int 0))) smSkip)
    (smRet (mB oFdiv (mB oSub (mV 0) (mC (.int 1))) (mV 1))))
def marks_in : FM := mFn 2 0 marks_in_b
def too_long_b : SM :=
    (smRet (mAnd (mFld ["NumberForm", "WordForm", "ChoiceForm"] "strict" (mV 0)) (mCmp cGt (mV 1) (mFld ["NumberForm", "WordForm", "ChoiceForm"] "width" (mV 0)))))
def too_long : FM := mFn 2 0 too_long_b
def read_figures_b : SM :=
    (smSeq (smIf (tmOr (tmNot (mTB (mChain cLe cLe (mC (.int 1)) (mBlt bLen (amCons (mV 0) amNil)) (mC (.int 60))))) (tmAnd (mTB (mCmp cGt (mBlt bLen (amCons (mV 0) amNil)) (mC (.int 1)))) (mTB (mCmp cEq (mIx (mV 0) (mC (.int 0))) (mC (.str [48])))))) (smRaise "NoRow") smSkip)
    (smSeq (smFor (put1 1) (wmA (mV 0)) (smIf (mTB (mCmp cNotIn (mV 1) (mC (.str [48, 49, 50, 51, 52, 53, 54, 55, 56, 57])))) (smRaise "NoRow") smSkip))
    (smRet (mBlt bIntS (amCons (mV 0) amNil)))))
def read_figures : FM := mFn 1 1 read_figures_b
def read_signs_b : SM :=
    (smSeq (smIf (tmNot (mT (mS1 fStarts (mV 0) (mC (.str [61]))))) (smRaise "NoRow") smSkip)
    (smRet (mS0 (fRepl 95 32) (mCut (mV 0) (mPart (mC (.int 1))) mNoP))))
def read_signs : FM := mFn 1 0 read_signs_b
def show_edge_b : SM :=
    (smRet (mB oAdd (mC (.str [61])) (mS0 (fRepl 32 95) (mV 0))))
def show_edge : FM := mFn 1 0 show_edge_b
def WordForm_core_b : SM :=
    (smSeq (smIf (tmNot (mT (mMeth [("WordForm", M.WordForm_is_word)] "is_word" (mV 0) (amCons (mV 1) amNil)))) (smRaise "NoValue") smSkip)
    (smRet (mV 1)))
def WordForm_core : FM := mFn 2 0 WordForm_core_b
def ChoiceForm_init_b : IM :=
    (imBase M.Form_init (amCons (mV 2) (amCons (mV 3) (amCons (mV 4) (amCons (mV 5) amNil))))
    (imFld "names" (mList (amCons (mV 1) amNil))
    imNil))
def ChoiceForm_init : IF := mInit 5 ChoiceForm_init_b
def ChoiceForm_initB : IF := mInitB 5 ChoiceForm_init_b
def grouped_b : SM :=
    (smSeq (smSet 3 (mB oSub (mBlt bLen (amCons (mV 0) amNil)) (mB oMul (mV 1) (mCall M.marks_in (amCons (mBlt bLen (amCons (mV 0) amNil)) (amCons (mV 1) amNil))))))
    (smSeq (smSet 4 (mCut (mV 0) mNoP (mPart (mV 3))))
    (smSeq (smFor (put1 5) (wmR1 (mCall M.marks_in (amCons (mBlt bLen (amCons (mV 0) amNil)) (amCons (mV 1) amNil)))) (smSeq (smSet 6 (mB oAdd (mV 3) (mB oMul (mV 1) (mV 5))))
    (smSet 4 (mB oAdd (mB oAdd (mV 4) (mV 2)) (mCut (mV 0) (mPart (mV 6)) (mPart (mB oAdd (mV 6) (mV 1))))))))
    (smRet (mV 4)))))
def grouped : FM := mFn 3 4 grouped_b
def need_room_b : SM :=
    (smSeq (smIf (mT (mCall M.too_long (amCons (mV 0) (amCons (mBlt bLen (amCons (mV 1) amNil)) amNil)))) (smRaise "TooWide") smSkip)
    (smRet (mV 1)))
def need_room : FM := mFn 2 0 need_room_b
def show_value_b : SM :=
    (smSeq (smIf (mT (mIsO ["NumberForm", "WordForm", "ChoiceForm"] ["NumberForm"] (mV 0))) (smSeq (smIf (mTB (mCmp cEq (mIx (mV 1) (mC (.int 1))) (mC (.int 1)))) (smRet (mBlt bStr (amCons (mIx (mV 1) (mC (.int 0))) amNil))) smSkip)
    (smRet (mB oAdd (mB oAdd (mBlt bStr (amCons (mIx (mV 1) (mC (.int 0))) amNil)) (mC (.str [47]))) (mBlt bStr (amCons (mIx (mV 1) (mC (.int 1))) amNil))))) smSkip)
    (smSeq (smIf (mT (mIsO ["NumberForm", "WordForm", "ChoiceForm"] ["WordForm"] (mV 0))) (smRet (mCall M.show_edge (amCons (mV 1) amNil))) smSkip)
    (smRet (mV 1))))
def show_value : FM := mFn 2 0 show_value_b
def read_edge_b : SM :=
    (smSeq (smSet 1 (mCall M.read_signs (amCons (mV 0) amNil)))
    (smSeq (smIf (mTB (mCmp cGt (mBlt bLen (amCons (mV 1) amNil)) (mC (.int 8)))) (smRaise "NoRow") smSkip)
    (smRet (mV 1))))
def read_edge : FM := mFn 1 1 read_edge_b
def _law_size_b : SM :=
    (smSeq (smSet 3 (mCall M._law_pick (amCons (mV 0) (amCons (mV 1) (amCons (mC (.int 4)) amNil)))))
    (smSeq (smIf (mTB (mCmp cEq (mV 3) (mC (.int 0)))) (smRet (mCall M._law_pick (amCons (mV 0) (amCons (mB oAdd (mV 1) (mC (.int 1))) (amCons (mC (.int 12)) amNil))))) smSkip)
    (smSeq (smIf (mTB (mCmp cEq (mV 3) (mC (.int 1)))) (smRet (mB oSub (mB oSub (mB oPow (mC (.int 10)) (mC (.int 60))) (mC (.int 1))) (mCall M._law_pick (amCons (mV 0) (amCons (mB oAdd (mV 1) (mC (.int 1))) (amCons (mC (.int 3)) amNil)))))) smSkip)
    (smRet (mCall M._law_great (amCons (mV 0) (amCons (mV 2) (amCons (mIx (mLst (amCons (mB oPow (mC (.int 10)) (mC (.int 9))) (amCons (mB oPow (mC (.int 10)) (mC (.int 60))) amNil))) (mB oSub (mV 3) (mC (.int 2)))) amNil))))))))
def _law_size : FM := mFn 3 1 _law_size_b
def _law_plain_text_b : SM :=
    (smSeq (smSet 3 (mC (.str [32, 33, 44, 45, 46, 47, 48, 57, 58, 61, 65, 90, 97, 98, 122, 126, 39, 40, 43])))
    (smSeq (smSet 4 (mCall M._law_pick (amCons (mV 0) (amCons (mB oAdd (mV 1) (mC (.int 30))) (amCons (mB oAdd (mV 2) (mC (.int 1))) amNil)))))
    (smRet (mS1 fJoin (mC (.str [])) (mComp (put1 5) [5] (wmR1 (mV 4)) tmYes (mIx (mV 3) (mCall M._law_pick (amCons (mV 0) (amCons (mB oAdd (mV 1) (mV 5)) (amCons (mC (.int 19)) amNil))))))))))
def _law_plain_text : FM := mFn 3 3 _law_plain_text_b
def _law_no_number_b : SM :=
    (smSeq (smSet 1 (mLst (amCons (mC (.str [])) (amCons (mC (.str [45])) (amCons (mC (.str [45, 48])) (amCons (mC (.str [48, 49])) (amCons (mC (.str [49, 47])) (amCons (mC (.str [47, 50])) (amCons (mC (.str [50, 47, 52])) (amCons (mC (.str [51, 47, 49])) (amCons (mC (.str [49, 47, 48])) (amCons (mC (.str [43, 49])) (amCons (mC (.str [49, 46, 48])) (amCons (mC (.str [45, 45, 49])) (amCons (mC (.str [49, 47, 45, 50])) (amCons (mC (.str [49, 47, 48, 50])) (amCons (mC (.str [32, 49])) (amCons (mC (.str [120])) (amCons (mC (.str [49, 32])) amNil)))))))))))))))))))
    (smSeq (smSet 1 (mB oAdd (mV 1) (mLst (amCons (mB oAdd (mC (.str [49])) (mB oMul (mC (.str [48])) (mC (.int 60)))) (amCons (mB oAdd (mC (.str [49, 47, 49])) (mB oMul (mC (.str [48])) (mC (.int 60)))) (amCons (mC (.str [48, 47, 50])) (amCons (mC (.str [45, 48, 47, 49])) (amCons (mC (.str [48, 47, 49])) (amCons (mC (.str [49, 47, 50, 47, 51])) amNil)))))))))
    (smSeq (smSet 1 (mB oAdd (mV 1) (mLst (amCons (mC (.str [61, 49])) (amCons (mC (.str [49, 101, 51])) (amCons (mC (.str [49, 95, 48])) (amCons (mC (.str [97])) (amCons (mC (.str [45, 49, 47, 49])) (amCons (mC (.str [48, 48])) amNil)))))))))
    (smRet (mIx (mV 1) (mCall M._law_pick (amCons (mV 0) (amCons (mC (.int 20)) (amCons (mBlt bLen (amCons (mV 1) amNil)) amNil)))))))))
def _law_no_number : FM := mFn 1 1 _law_no_number_b
def NumberForm_steps_of_b : SM :=
    (smSeq (smIf (tmNot (mT (mCall M.is_fraction (amCons (mV 1) amNil)))) (smRaise "NoValue") smSkip)
    (smSeq (smSet 2 (mCall M.gridded (amCons (mV 1) (amCons (mFld ["NumberForm"] "base" (mV 0)) (amCons (mFld ["NumberForm"] "places" (mV 0)) (amCons (mFld ["NumberForm"] "way" (mV 0)) amNil))))))
    (smSeq (smIf (mTB (mCmp cGe (mBlt bAbs (amCons (mV 2) amNil)) (mCall M.power_of (amCons (mFld ["NumberForm"] "base" (mV 0)) (amCons (mB oAdd (mFld ["NumberForm"] "figures" (mV 0)) (mFld ["NumberForm"] "places" (mV 0))) amNil))))) (smRaise "TooGreat") smSkip)
    (smRet (mV 2)))))
def NumberForm_steps_of : FM := mFn 2 1 NumberForm_steps_of_b
def body_of_b : SM :=
    (smSeq (smUnp [6, 7] (mBlt bDivmod (amCons (mV 0) (amCons (mCall M.power_of (amCons (mV 1) (amCons (mV 2) amNil))) amNil))))
    (smSeq (smSet 8 (mCall M.grouped (amCons (mCall M.figures_of (amCons (mV 6) (amCons (mV 1) amNil))) (amCons (mV 4) (amCons (mV 5) amNil)))))
    (smSeq (smIf (mTB (mCmp cEq (mV 2) (mC (.int 0)))) (smRet (mV 8)) smSkip)
    (smSeq (smSet 9 (mCall M.figures_of (amCons (mV 7) (amCons (mV 1) amNil))))
    (smRet (mB oAdd (mB oAdd (mB oAdd (mV 8) (mV 3)) (mB oMul (mC (.str [48])) (mB oSub (mV 2) (mBlt bLen (amCons (mV 9) amNil))))) (mV 9)))))))
def body_of : FM := mFn 6 4 body_of_b
def put_core_b : SM :=
    (smRet (mCall M.padded (amCons (mCall M.need_room (amCons (mV 0) (amCons (mV 1) amNil))) (amCons (mFld ["NumberForm", "WordForm", "ChoiceForm"] "width" (mV 0)) (amCons (mFld ["NumberForm", "WordForm", "ChoiceForm"] "fill" (mV 0)) (amCons (mFld ["NumberForm", "WordForm", "ChoiceForm"] "side" (mV 0)) amNil))))))
def put_core : FM := mFn 2 0 put_core_b
def read_fraction_b : SM :=
    (smSeq (smSet 1 (mV 0))
    (smSeq (smIf (mT (mS1 fStarts (mV 0) (mC (.str [45])))) (smSet 1 (mCut (mV 0) (mPart (mC (.int 1))) mNoP)) smSkip)
    (smSeq (smUnp [2, 3, 4] (mS1 fPart (mV 1) (mC (.str [47]))))
    (smSeq (smSet 5 (mCall M.read_figures (amCons (mV 2) amNil)))
    (smSeq (smSet 6 (mC (.int 1)))
    (smSeq (smIf (mTB (mCmp cNe (mV 3) (mC (.str [])))) (smSet 6 (mCall M.read_figures (amCons (mV 4) amNil))) smSkip)
    (smSeq (smIf (tmOr (tmNot (mT (mCall M.is_fraction (amCons (mTup (amCons (mV 5) (amCons (mV 6) amNil))) amNil)))) (tmAnd (mTB (mCmp cNe (mV 3) (mC (.str [])))) (mTB (mCmp cEq (mV 6) (mC (.int 1)))))) (smRaise "NoRow") smSkip)
    (smSeq (smIf (mTB (mCmp cEq (mV 1) (mV 0))) (smRet (mTup (amCons (mV 5) (amCons (mV 6) amNil)))) smSkip)
    (smSeq (smIf (mTB (mCmp cEq (mV 5) (mC (.int 0)))) (smRaise "NoRow") smSkip)
    (smRet (mTup (amCons (mNeg (mV 5)) (amCons (mV 6) amNil)))))))))))))
def read_fraction : FM := mFn 1 6 read_fraction_b
def NumberForm_lead_and_rest_b : SM :=
    (smSeq (smUnp [2, 3] (mCall M.ends_of (amCons (mFld ["NumberForm"] "sign" (mV 0)) (amCons (mCmp cLt (mV 1) (mC (.int 0))) amNil))))
    (smSeq (smSet 4 (mCall M.body_of (amCons (mBlt bAbs (amCons (mV 1) amNil)) (amCons (mFld ["NumberForm"] "base" (mV 0)) (amCons (mFld ["NumberForm"] "places" (mV 0)) (amCons (mFld ["NumberForm"] "point" (mV 0)) (amCons (mFld ["NumberForm"] "size" (mV 0)) (amCons (mFld ["NumberForm"] "mark" (mV 0)) amNil))))))))
    (smRet (mTup (amCons (mV 2) (amCons (mB oAdd (mV 4) (mV 3)) amNil))))))
def NumberForm_lead_and_rest : FM := mFn 2 3 NumberForm_lead_and_rest_b
def WordForm_put_b : SM :=
    (smRet (mCall M.put_core (amCons (mV 0) (amCons (mMeth [("WordForm", M.WordForm_core)] "core" (mV 0) (amCons (mV 1) amNil)) amNil))))
def WordForm_put : FM := mFn 2 0 WordForm_put_b
def ChoiceForm_put_b : SM :=
    (smRet (mCall M.put_core (amCons (mV 0) (amCons (mMeth [("ChoiceForm", M.ChoiceForm_core)] "core" (mV 0) (amCons (mV 1) amNil)) amNil))))
def ChoiceForm_put : FM := mFn 2 0 ChoiceForm_put_b
def read_value_b : SM :=
    (smSeq (smIf (mT (mIsO ["NumberForm", "WordForm", "ChoiceForm"] ["NumberForm"] (mV 0))) (smRet (mCall M.read_fraction (amCons (mV 1) amNil))) smSkip)
    (smSeq (smIf (mT (mIsO ["NumberForm", "WordForm", "ChoiceForm"] ["WordForm"] (mV 0))) (smRet (mCall M.read_signs (amCons (mV 1) amNil))) smSkip)
    (smSeq (smIf (mTB (mCmp cEq (mV 1) (mC (.str [])))) (smRaise "NoRow") smSkip)
    (smRet (mV 1)))))
def read_value : FM := mFn 2 0 read_value_b
def NumberForm_core_b : SM :=
    (smSeq (smUnp [2, 3] (mMeth [("NumberForm", M.NumberForm_lead_and_rest)] "lead_and_rest" (mV 0) (amCons (mMeth [("NumberForm", M.NumberForm_steps_of)] "steps_of" (mV 0) (amCons (mV 1) amNil)) amNil)))
    (smRet (mB oAdd (mV 2) (mV 3))))
def NumberForm_core : FM := mFn 2 2 NumberForm_core_b
def NumberForm_put_b : SM :=
    (smSeq (smUnp [2, 3] (mMeth [("NumberForm", M.NumberForm_lead_and_rest)] "lead_and_rest" (mV 0) (amCons (mMeth [("NumberForm", M.NumberForm_steps_of)] "steps_of" (mV 0) (amCons (mV 1) amNil)) amNil)))
    (smSeq (smSet 4 (mCall M.need_room (amCons (mV 0) (amCons (mB oAdd (mV 2) (mV 3)) amNil))))
    (smSeq (smIf (mTB (mCmp cEq (mFld ["NumberForm"] "side" (mV 0)) (mC (.str [105, 110, 115, 105, 100, 101])))) (smRet (mCall M.padded_inside (amCons (mV 2) (amCons (mV 3) (amCons (mFld ["NumberForm"] "width" (mV 0)) (amCons (mFld ["NumberForm"] "fill" (mV 0)) amNil)))))) smSkip)
    (smRet (mCall M.padded (amCons (mV 4) (amCons (mFld ["NumberForm"] "width" (mV 0)) (amCons (mFld ["NumberForm"] "fill" (mV 0)) (amCons (mFld ["NumberForm"] "side" (mV 0)) amNil)))))))))
def NumberForm_put : FM := mFn 2 3 NumberForm_put_b
def _law_refused_b : SM :=
    (smSeq (smTry ["NoRow"] ["NoRow"] 1 (smIf (mTB (mCmp cIsN (mIx (mV 0) (mC (.int 0))) (mC .non))) (smExpr (mCall M.read_edge (amCons (mIx (mV 0) (mC (.int 1))) amNil))) (smExpr (mCall M.read_value (amCons (mIx (mV 0) (mC (.int 0))) (amCons (mIx (mV 0) (mC (.int 1))) amNil))))) (smSeq (smIf (mT (mExIs 1 [("NoRow", false)])) (smRet (mC (.bl false))) smSkip)
    (smRet (mAnd (mExIs 1 [("NoRow", true)]) (mExIs 1 [("NoRow", true)])))))
    (smRet (mC (.bl false))))
def _law_refused : FM := mFn 1 1 _law_refused_b
def _law_number_right_b : SM :=
    (smSeq (smSet 2 (mMake "NumberForm" (iDef M.NumberForm_init [.int 10, .str [109, 105, 110, 117, 115], .int 0, .str [44], .str [46], .str [110, 101, 97, 114], .int 0, .str [32], .str [114, 105, 103, 104, 116], .bl false]) (amCons (mC (.int 1)) (amCons (mC (.int 0)) amNil))))
    (smFrz 2 (smSeq (smUnp [3, 4] (mCall M._law_lowest (amCons (mCall M._law_size (amCons (mV 0) (amCons (mC (.int 2)) (amCons (mC (.int 0)) amNil)))) (amCons (mB oAdd (mC (.int 1)) (mCall M._law_size (amCons (mV 1) (amCons (mC (.int 4)) (amCons (mC (.int 1)) amNil))))) amNil))))
    (smSeq (smIf (mTB (mCmp cEq (mV 4) (mB oPow (mC (.int 10)) (mC (.int 60))))) (smSet 4 (mC (.int 1))) smSkip)
    (smSeq (smSet 3 (mIx (mLst (amCons (mV 3) (amCons (mNeg (mV 3)) amNil))) (mCall M._law_pick (amCons (mV 0) (amCons (mC (.int 6)) (amCons (mC (.int 2)) amNil))))))
    (smSeq (smSet 5 (mBlt bStr (amCons (mV 3) amNil)))
    (smSeq (smIf (mTB (mCmp cGt (mV 4) (mC (.int 1)))) (smSet 5 (mB oAdd (mB oAdd (mV 5) (mC (.str [47]))) (mBlt bStr (amCons (mV 4) amNil)))) smSkip)
    (smSeq (smSet 6 (mCall M.read_value (amCons (mV 2) (amCons (mV 5) amNil))))
    (smSeq (smIf (tmOr (tmNot (mT (mIs "tuple" (mV 6)))) (mTB (mCmp cNe (mV 6) (mTup (amCons (mV 3) (amCons (mV 4) amNil)))))) (smRet (mC (.bl false))) smSkip)
    (smSeq (smIf (tmOr (tmNot (mT (mCall M._law_whole (amCons (mIx (mV 6) (mC (.int 0))) amNil)))) (tmNot (mT (mCall M._law_whole (amCons (mIx (mV 6) (mC (.int 1))) amNil))))) (smRet (mC (.bl false))) smSkip)
    (smRet (mAnd (mCmp cEq (mCall M.show_value (amCons (mV 2) (amCons (mTup (amCons (mV 3) (amCons (mV 4) amNil))) amNil))) (mV 5)) (mCall M._law_refused (amCons (mTup (amCons (mV 2) (amCons (mCall M._law_no_number (amCons (mV 0) amNil)) amNil))) amNil))))))))))))))
def _law_number_right : FM := mFn 2 5 _law_number_right_b
def _law_text_right_b : SM :=
    (smSeq (smSet 2 (mCall M._law_plain_text (amCons (mV 0) (amCons (mC (.int 40)) (amCons (mC (.int 8)) amNil)))))
    (smSeq (smSet 3 (mCall M._law_plain_text (amCons (mV 1) (amCons (mC (.int 80)) (amCons (mC (.int 24)) amNil)))))
    (smSeq (smSet 4 (mMake "WordForm" (iDef M.WordForm_init [.int 0, .str [32], .str [108, 101, 102, 116], .bl false]) (amCons (mC (.str [97, 98])) (amCons (mC (.int 0)) (amCons (mC (.int 2)) amNil)))))
    (smFrz 4 (smSeq (smIf (tmOr (mTB (mCmp cNe (mCall M.show_edge (amCons (mV 2) amNil)) (mB oAdd (mC (.str [61])) (mS0 (fRepl 32 95) (mV 2))))) (mTB (mCmp cNe (mCall M.read_edge (amCons (mB oAdd (mC (.str [61])) (mS0 (fRepl 32 95) (mV 2))) amNil)) (mV 2)))) (smRet (mC (.bl false))) smSkip)
    (smSeq (smSet 5 (mB oAdd (mC (.str [61])) (mS0 (fRepl 32 95) (mV 3))))
    (smSeq (smIf (tmOr (mTB (mCmp cNe (mCall M.show_value (amCons (mV 4) (amCons (mV 3) amNil))) (mV 5))) (mTB (mCmp cNe (mCall M.read_value (amCons (mV 4) (amCons (mV 5) amNil))) (mV 3)))) (smRet (mC (.bl false))) smSkip)
    (smSeq (smSet 6 (mB oAdd (mC (.str [61])) (mCut (mB oAdd (mS0 (fRepl 32 95) (mV 3)) (mC (.str [97, 98, 99, 100, 101, 102, 103, 104, 105]))) mNoP (mPart (mB oAdd (mC (.int 9)) (mCall M._law_pick (amCons (mV 0) (amCons (mC (.int 7)) (amCons (mC (.int 8)) amNil)))))))))
    (smSeq (smSet 7 (mIx (mLst (amCons (mC (.str [])) (amCons (mC (.str [97, 61])) (amCons (mC (.str [97, 98])) (amCons (mC (.str [95])) (amCons (mC (.str [45, 61])) (amCons (mC (.str [45])) amNil))))))) (mCall M._law_pick (amCons (mV 1) (amCons (mC (.int 8)) (amCons (mC (.int 6)) amNil))))))
    (smRet (mAnd (mCall M._law_refused (amCons (mTup (amCons (mC .non) (amCons (mV 6) amNil))) amNil)) (mAnd (mCall M._law_refused (amCons (mTup (amCons (mC .non) (amCons (mV 7) amNil))) amNil)) (mCall M._law_refused (amCons (mTup (amCons (mV 4) (amCons (mV 7) amNil))) amNil))))))))))))))
def _law_text_right : FM := mFn 2 6 _law_text_right_b
def _law_name_right_b : SM :=
    (smSeq (smSet 1 (mMake "ChoiceForm" (iDef M.ChoiceForm_init [.int 0, .str [32], .str [108, 101, 102, 116], .bl false]) (amCons (mLst (amCons (mC (.str [97])) amNil)) amNil)))
    (smFrz 1 (smSeq (smSet 2 (mB oAdd (mS0 (fRepl 32 95) (mCall M._law_plain_text (amCons (mV 0) (amCons (mC (.int 120)) (amCons (mC (.int 8)) amNil))))) (mC (.str [120]))))
    (smRet (mAnd (mCmp cEq (mCall M.read_value (amCons (mV 1) (amCons (mV 2) amNil))) (mV 2)) (mAnd (mCmp cEq (mCall M.show_value (amCons (mV 1) (amCons (mV 2) amNil))) (mV 2)) (mCall M._law_refused (amCons (mTup (amCons (mV 1) (amCons (mC (.str [])) amNil))) amNil))))))))
def _law_name_right : FM := mFn 1 2 _law_name_right_b
def law_b : SM :=
    (smSeq (smFor (put1 1) (wmR1 (mBlt bMax (amCons (mC (.int 1)) (amCons (mBlt bMin (amCons (mC (.int 10)) (amCons (mB oFdiv (mBlt bLen (amCons (mV 0) amNil)) (mC (.int 2))) amNil))) amNil)))) (smSeq (smSet 2 (mCall M._law_cell_at (amCons (mV 0) (amCons (mB oMul (mC (.int 2)) (mV 1)) amNil))))
    (smSeq (smSet 3 (mCall M._law_cell_at (amCons (mV 0) (amCons (mB oAdd (mB oMul (mC (.int 2)) (mV 1)) (mC (.int 1))) amNil))))
    (smIf (tmOr (tmNot (mT (mCall M._law_number_right (amCons (mV 2) (amCons (mV 3) amNil))))) (tmOr (tmNot (mT (mCall M._law_text_right (amCons (mV 3) (amCons (mV 2) amNil))))) (tmNot (mT (mCall M._law_name_right (amCons (mV 2) amNil)))))) (smRet (mC (.bl false))) smSkip))))
    (smRet (mC (.bl true))))
def law : FM := mFn 1 3 law_b
end
end M
end

section
set_option linter.all false
set_option maxRecDepth 100000
set_option maxHeartbeats 1000000
noncomputable section
-- intS: read_figures
-- frz: _law_number_right:_law_form _law_text_right:_law_form _law_name_right:_law_form
-- not: lforms fv allspec afill allput npart nfig lpow cobj cspec bodies figs ungr figs2 digs groups joins
namespace Law
open Dm M
/-! ### numbers told -/
def dec (n : Nat) : List Nat := (Nat.toDigits 10 n).map Char.toNat
theorem decI_nat (n : Nat) : decI (n : Int) = dec n := by
  unfold decI dec
  show (Nat.repr n).toList.map Char.toNat = _
  rw [Nat.toList_repr]
theorem decI_neg (n : Nat) (h : 0 < n) : decI (-(n : Int)) = 45 :: dec n := by
  obtain ⟨m, rfl⟩ : ∃ m, n = m + 1 := ⟨n - 1, by omega⟩
  unfold decI dec
  show ("-" ++ Nat.repr (m + 1)).toList.map Char.toNat = _
  rw [String.toList_append, Nat.toList_repr]
  rfl
theorem dchar : ∀ d : Nat, d < 10 → (Nat.digitChar d).toNat = 48 + d := by decide
theorem dec_small {n : Nat} (h : n < 10) : dec n = [48 + n] := by
  unfold dec
  rw [Nat.toDigits_of_lt_base h, List.map_singleton, dchar n h]
theorem dec_big {n : Nat} (h : 10 ≤ n) : dec n = dec (n / 10) ++ [48 + n % 10] := by
  unfold dec
  rw [Nat.toDigits_of_base_le (by decide) h, List.map_append, List.map_singleton, dchar (n % 10) (Nat.mod_lt _ (by decide))]
theorem dec_len {n k : Nat} (hk : 0 < k) (h : n < 10 ^ k) : (dec n).length ≤ k := by
  unfold dec
  rw [List.length_map]
  exact (Nat.length_toDigits_le_iff (by decide) hk).mpr h
theorem dec_all (n : Nat) : (∀ c ∈ dec n, 48 ≤ c ∧ c ≤ 57) ∧ decV (dec n) = n ∧ dec n ≠ [] ∧ (0 < n → (dec n).head? ≠ some 48) := by
  induction n using Nat.strongRecOn with
  | _ n ih =>
    by_cases h : n < 10
    · rw [dec_small h]
      refine ⟨?_, ?_, by simp, ?_⟩
      · intro c hc
        rw [List.mem_singleton] at hc
        omega
      · show 0 * 10 + (48 + n - 48) = n
        omega
      · intro h0 z
        simp at z
        omega
    · obtain ⟨i1, i2, i3, i4⟩ := ih (n / 10) (by omega)
      rw [dec_big (by omega)]
      refine ⟨?_, ?_, by simp, ?_⟩
      · intro c hc
        rcases List.mem_append.mp hc with hc | hc
        · exact i1 c hc
        · rw [List.mem_singleton] at hc
          omega
      · unfold decV at i2 ⊢
        rw [List.foldl_append, i2]
        show n / 10 * 10 + (48 + n % 10 - 48) = n
        omega
      · intro _
        obtain ⟨c, cs, e⟩ := List.exists_cons_of_ne_nil i3
        have := i4 (by omega)
        rw [e] at this ⊢
        exact this
/-- what read_figures takes -/
def numOk (s : List Nat) : Bool := decide (1 ≤ s.length) && decide (s.length ≤ 60) && !(decide (1 < s.length) && (s.head? == some 48)) && s.all isDig
theorem numOk_dec {n : Nat} (h : n < 10 ^ 60) : numOk (dec n) = true := by
  obtain ⟨i1, i2, i3, i4⟩ := dec_all n
  have hl := dec_len (k := 60) (by decide) h
  have h1 : 1 ≤ (dec n).length := by
    cases e : dec n with
    | nil => exact absurd e i3
    | cons c cs => simp
  unfold numOk
  rw [decide_eq_true h1, decide_eq_true hl, Bool.true_and, Bool.true_and, Bool.and_eq_true, Bool.not_eq_true', Bool.and_eq_false_iff]
  refine ⟨?_, ?_⟩
  · by_cases h0 : n < 10
    · left
      rw [dec_small h0]
      rfl
    · right
      have := i4 (by omega)
      simpa using this
  · rw [List.all_eq_true]
    intro c hc
    have := i1 c hc
    simp [isDig, this.1, this.2]
def figs10 : List Nat := [48, 49, 50, 51, 52, 53, 54, 55, 56, 57]
theorem dig_in (c : Nat) : c ∈ figs10 ↔ isDig c = true := by
  simp [figs10, isDig]
  omega
theorem bIntS_s (s : List Nat) : bIntS [.str s] = if !s.isEmpty && decide (s.length ≤ 640) && s.all isDig then .ok (.int (decV s)) else .bad := rfl
theorem rf_loop (s : List Nat) (h0 : s ≠ []) (h640 : s.length ≤ 640) : ((turns (put1 1)
            (smIf (mTB (mCmp cNotIn (mV 1) (mC (D.str [48, 49, 50, 51, 52, 53, 54, 55, 56, 57])))) (smRaise "NoRow")
              smSkip)
            (List.map (fun c => D.str [c]) s) [Sl.fz (D.str s), Sl.no]).bind
        fun o => o.go (smRet (mBlt bIntS (amCons (mV 0) amNil)))).fin =
    if ∀ (x : Nat), x ∈ s → isDig x = true then Res.ok (D.int ↑(decV s), false) else Res.ex "NoRow" := by
  refine q_or (fun r => r = if ∀ (x : Nat), x ∈ s → isDig x = true then Res.ok (D.int ↑(decV s), false) else Res.ex "NoRow")
    (fun i ρ => (∀ j, (hj : j < s.length) → j < i → isDig s[j] = true) ∧ ∃ a, ρ = [.fz (.str s), a]) (fun o => (∃ ρ, o = .ex "NoRow" ρ) ∧ ¬ ∀ (x : Nat), x ∈ s → isDig x = true) ⟨fun j _ h0 => absurd h0 (by omega), .no, rfl⟩ ?_ ?_ ?_
  · rintro i d ρ hd ⟨hp, a, rfl⟩
    rw [List.getElem?_map] at hd
    obtain ⟨y, hy, rfl⟩ := Option.map_eq_some_iff.mp hd
    obtain ⟨hi, rfl⟩ := List.getElem?_eq_some_iff.mp hy
    by_cases hm : isDig s[i] = true
    · have hm' := (dig_in s[i]).mpr hm
      unfold figs10 at hm'
      left
      simp only [List.mem_cons, List.not_mem_nil, or_false] at hm'
      simp [put1, hm']
      intro j hj hji
      by_cases e : j = i
      · subst e; exact hm
      · exact hp j hj (by omega)
    · have hm' : ¬ s[i] ∈ figs10 := fun z => hm ((dig_in s[i]).mp z)
      unfold figs10 at hm'
      right
      simp only [List.mem_cons, List.not_mem_nil, or_false] at hm'
      refine ⟨.ex "NoRow" [.fz (.str s), .fz (.str [s[i]])], by simp [put1, hm'], fun _ => rfl, ⟨_, rfl⟩, fun z => hm (z _ (List.getElem_mem hi))⟩
  · rintro ρ ⟨hp, a, rfl⟩
    rw [List.length_map] at hp
    have ha : ∀ (x : Nat), x ∈ s → isDig x = true := by
      intro y hy
      obtain ⟨j, hj, e⟩ := List.mem_iff_getElem.mp hy
      rw [← e]
      exact hp j hj hj
    have hb : s.all isDig = true := List.all_eq_true.mpr ha
    have he : s.isEmpty = false := List.isEmpty_eq_false_iff.mpr h0
    rw [if_pos ha]
    simp [bIntS_s, hb, he, h640]
  · rintro o ⟨⟨ρ, rfl⟩, h⟩
    rw [if_neg h]
    rfl
theorem rf_eq (s : List Nat) (hl : s.length ≤ 100000) : M.read_figures [.str s] = if numOk s then .ok (.int (decV s), false) else .ex "NoRow" := by
  have k : s.length ≤ lim := le_lim (by omega)
  unfold numOk
  cases s with
  | nil => simp [read_figures, read_figures_b]
  | cons c cs =>
    have a0 : atI (c :: cs) 0 = some c := atI_nat (xs := c :: cs) (i := 0) (by simp)
    obtain ⟨s, hs⟩ : ∃ s, s = c :: cs := ⟨_, rfl⟩
    have h1 : 1 ≤ s.length := by rw [hs]; simp
    have h1' : (1 : Int) ≤ (s.length : Int) := by omega
    have hh : s.head? = some c := by rw [hs]; rfl
    rw [← hs] at a0 k hl ⊢
    by_cases h2 : s.length ≤ 60
    · have h2' : (s.length : Int) ≤ 60 := by omega
      have h640 : s.length ≤ 640 := by omega
      by_cases h3 : 1 < s.length ∧ c = 48
      · have h3' : (1 : Int) < (s.length : Int) := by omega
        obtain ⟨h3, rfl⟩ := h3
        simp [read_figures, read_figures_b, k, h1', h2', h1, h2, a0, h3, h3', hh]
      · have hb : ((decide (1 < s.length)) && (s.head? == some 48)) = false := by
          rw [hh, Bool.and_eq_false_iff]
          by_cases h4 : 1 < s.length
          · right
            simp
            intro z
            exact h3 ⟨h4, z⟩
          · left
            simpa using h4
        rw [hb, decide_eq_true h1, decide_eq_true h2]
        have key : M.read_figures [.str s] = if s.all isDig then .ok (.int (decV s), false) else .ex "NoRow" := by
          have h4 : (1 < s.length ∧ c ≠ 48) ∨ ¬ 1 < s.length := by
            by_cases h4 : 1 < s.length
            · exact .inl ⟨h4, fun z => h3 ⟨h4, z⟩⟩
            · exact .inr h4
          have g1 : ((1 : Int) < (s.length : Int)) ↔ 1 < s.length := by omega
          rcases h4 with ⟨h4, h5⟩ | h4
          · simp [read_figures, read_figures_b, k, h1', h2', a0, g1, h4, h5]
            exact rf_loop s (by rw [hs]; simp) h640
          · simp [read_figures, read_figures_b, k, h1', h2', a0, g1, h4]
            exact rf_loop s (by rw [hs]; simp) h640
        rw [key]
        rfl
    · have h2' : ¬ (s.length : Int) ≤ 60 := by omega
      simp [read_figures, read_figures_b, k, h1', h2', h1, h2]
theorem decV_lt : ∀ (s : List Nat) (a : Nat), (∀ c ∈ s, isDig c = true) → s.foldl (fun acc c => acc * 10 + (c - 48)) a < (a + 1) * 10 ^ s.length
  | [], a, _ => by simp
  | c :: s, a, h => by
    have hc := h c (List.mem_cons_self ..)
    have ih := decV_lt s (a * 10 + (c - 48)) fun d hd => h d (List.mem_cons_of_mem _ hd)
    simp [isDig] at hc
    have h1 : (a * 10 + (c - 48) + 1) * 10 ^ s.length ≤ (a + 1) * 10 * 10 ^ s.length := Nat.mul_le_mul_right _ (by omega)
    rw [List.length_cons, Nat.pow_succ, Nat.mul_comm (10 ^ s.length) 10, ← Nat.mul_assoc]
    exact Nat.lt_of_lt_of_le ih h1
theorem numOk_lt {s : List Nat} (h : numOk s = true) : decV s < 10 ^ 60 := by
  simp only [numOk, Bool.and_eq_true, decide_eq_true_eq, List.all_eq_true] at h
  obtain ⟨⟨⟨h1, h2⟩, h3⟩, h4⟩ := h
  have := decV_lt s 0 h4
  rw [Nat.zero_add, Nat.one_mul] at this
  exact Nat.lt_of_lt_of_le this (Nat.pow_le_pow_right (by decide) h2)
theorem p60 : (10 : Nat) ^ 60 < 2 ^ 4000 := Nat.lt_of_lt_of_le (by decide +kernel : (10 : Nat) ^ 60 < 2 ^ 200) (Nat.pow_le_pow_right (by decide) (by decide))
/-- a fraction without a sign -/
def rfc (r : List Nat) : Option (Nat × Nat) := match r.findIdx? (· == 47) with
  | none => if numOk r then some (decV r, 1) else none
  | some i => if numOk (r.take i) && numOk (r.drop (i + 1)) && (decide (1 ≤ decV (r.drop (i + 1))) && (Nat.gcd (decV (r.take i)) (decV (r.drop (i + 1))) == 1)) && !(decV (r.drop (i + 1)) == 1) then some (decV (r.take i), decV (r.drop (i + 1))) else none
theorem fPart_47 (s : List Nat) : fPart s (.str [47]) = if s.length ≤ lim then (match s.findIdx? (· == 47) with
    | some i => .ok (.seq .tup [.str (s.take i), .str [47], .str (s.drop (i + 1))], .cl)
    | none => .ok (.seq .tup [.str s, .str [], .str []], .cl)) else .bad := rfl
theorem isfr_nat (a b : Nat) (hb : b < 10 ^ 60) : M.is_fraction [.seq .tup [.int a, .int b]] = .ok (.bl (decide (1 ≤ b) && (Nat.gcd a b == 1)), false) := by
  have := isfr_two a b (by rw [Int.natAbs_natCast]; exact Nat.lt_trans hb p60)
  rw [this, Int.natAbs_natCast, Int.natAbs_natCast]
  have e : decide ((1 : Int) ≤ (b : Int)) = decide (1 ≤ b) := by
    congr 1
    exact propext (by omega)
  rw [e]
def numD (p : Nat × Nat) : D := .seq .tup [.int p.1, .int p.2]
def rfD : Option (Nat × Nat) → Res (D × Bool)
  | some p => .ok (numD p, false)
  | none => .ex "NoRow"
theorem rfrac_eq (w : List Nat) (hl : w.length ≤ 1000) (hw : (w.take 1 == [45]) = false) : M.read_fraction [.str w] = rfD (rfc w) := by
  have k : w.length ≤ lim := le_lim (by omega)
  have k3 : 3 ≤ lim := le_lim (by decide)
  have k2 : 2 ≤ lim := le_lim (by decide)
  have fs : fStarts w (.str [45]) = .ok (.bl false, .cl) := by
    show sOk (.bl (w.take 1 == [45])) = _
    rw [hw]
    rfl
  unfold rfc
  cases e : w.findIdx? (· == 47) with
  | none =>
    have r1 := rf_eq w (by omega)
    cases n1 : numOk w with
    | false =>
      rw [n1] at r1
      simp [read_fraction, read_fraction_b, fs, putAll, fPart_47, k, e, r1, n1, rfD]
    | true =>
      rw [n1] at r1
      have f1 := isfr_nat (decV w) 1 (by decide)
      rw [Nat.gcd_one_right] at f1
      have f1' : M.is_fraction [.seq .tup [.int (decV w), .int 1]] = .ok (.bl true, false) := f1
      simp [read_fraction, read_fraction_b, fs, putAll, fPart_47, k, k2, e, r1, n1, rfD, f1', numD]
  | some i =>
    have r1 := rf_eq (w.take i) (by rw [List.length_take]; omega)
    have r2 := rf_eq (w.drop (i + 1)) (by rw [List.length_drop]; omega)
    obtain ⟨u, hu⟩ : ∃ u, u = w.take i := ⟨_, rfl⟩
    obtain ⟨v, hv⟩ : ∃ v, v = w.drop (i + 1) := ⟨_, rfl⟩
    rw [← hu] at r1
    rw [← hv] at r2
    have fp : fPart w (.str [47]) = .ok (.seq .tup [.str u, .str [47], .str v], .cl) := by
      rw [fPart_47, if_pos k, e, hu, hv]
    dsimp only
    rw [← hu, ← hv]
    cases n1 : numOk u with
    | false =>
      rw [n1] at r1
      simp [read_fraction, read_fraction_b, fs, putAll, fp, r1, n1, rfD]
    | true =>
      rw [n1] at r1
      cases n2 : numOk v with
      | false =>
        rw [n2] at r2
        simp [read_fraction, read_fraction_b, fs, putAll, fp, r1, r2, n1, n2, rfD]
      | true =>
        rw [n2] at r2
        have f1 := isfr_nat (decV u) (decV v) (numOk_lt n2)
        generalize decV u = a at *
        generalize decV v = b at *
        cases hg : decide (1 ≤ b) && (Nat.gcd a b == 1) with
        | false =>
          rw [hg] at f1
          simp [read_fraction, read_fraction_b, fs, putAll, fp, r1, r2, n1, n2, f1, k2, rfD]
        | true =>
          rw [hg] at f1
          by_cases h1 : b = 1
          · subst h1
            simp at f1
            simp [read_fraction, read_fraction_b, fs, putAll, fp, r1, r2, n1, n2, f1, k2, rfD]
          · have h1' : ¬ (b : Int) = 1 := by omega
            simp [read_fraction, read_fraction_b, fs, putAll, fp, r1, r2, n1, n2, f1, k2, h1, h1', rfD, numD]
def numN (p : Nat × Nat) : D := .seq .tup [.int (-(p.1 : Int)), .int p.2]
/-- with the sign ahead -/
def rfN : Option (Nat × Nat) → Res (D × Bool)
  | some p => if p.1 = 0 then .ex "NoRow" else .ok (numN p, false)
  | none => .ex "NoRow"
theorem rneg_eq (w : List Nat) (hl : w.length ≤ 1000) : M.read_fraction [.str (45 :: w)] = rfN (rfc w) := by
  have k : w.length ≤ lim := le_lim (by omega)
  have k3 : 3 ≤ lim := le_lim (by decide)
  have k2 : 2 ≤ lim := le_lim (by decide)
  have fs : fStarts (45 :: w) (.str [45]) = .ok (.bl true, .cl) := rfl
  have kk : w.length + 1 ≤ lim := le_lim (by omega)
  have cu : cutL (45 :: w) (some 1) none = w := by simp [cutL, sIx]
  have nw : ¬ w = 45 :: w := fun z => by
    have := congrArg List.length z
    simp at this
  unfold rfc
  cases e : w.findIdx? (· == 47) with
  | none =>
    have r1 := rf_eq w (by omega)
    cases n1 : numOk w with
    | false =>
      rw [n1] at r1
      simp [read_fraction, read_fraction_b, fs, putAll, fPart_47, k, e, r1, n1, rfN, fs, cu, nw, kk]
    | true =>
      rw [n1] at r1
      have f1 := isfr_nat (decV w) 1 (by decide)
      rw [Nat.gcd_one_right] at f1
      have f1' : M.is_fraction [.seq .tup [.int (decV w), .int 1]] = .ok (.bl true, false) := f1
      simp [read_fraction, read_fraction_b, fs, putAll, fPart_47, k, k2, e, r1, n1, rfN, cu, nw, kk, f1', numN]
      split
      · rfl
      · simp [k2]
  | some i =>
    have r1 := rf_eq (w.take i) (by rw [List.length_take]; omega)
    have r2 := rf_eq (w.drop (i + 1)) (by rw [List.length_drop]; omega)
    obtain ⟨u, hu⟩ : ∃ u, u = w.take i := ⟨_, rfl⟩
    obtain ⟨v, hv⟩ : ∃ v, v = w.drop (i + 1) := ⟨_, rfl⟩
    rw [← hu] at r1
    rw [← hv] at r2
    have fp : fPart w (.str [47]) = .ok (.seq .tup [.str u, .str [47], .str v], .cl) := by
      rw [fPart_47, if_pos k, e, hu, hv]
    dsimp only
    rw [← hu, ← hv]
    cases n1 : numOk u with
    | false =>
      rw [n1] at r1
      simp [read_fraction, read_fraction_b, fs, putAll, fp, r1, n1, rfN, fs, cu, nw, kk]
    | true =>
      rw [n1] at r1
      cases n2 : numOk v with
      | false =>
        rw [n2] at r2
        simp [read_fraction, read_fraction_b, fs, putAll, fp, r1, r2, n1, n2, rfN, fs, cu, nw, kk]
      | true =>
        rw [n2] at r2
        have f1 := isfr_nat (decV u) (decV v) (numOk_lt n2)
        generalize decV u = a at *
        generalize decV v = b at *
        cases hg : decide (1 ≤ b) && (Nat.gcd a b == 1) with
        | false =>
          rw [hg] at f1
          simp [read_fraction, read_fraction_b, fs, putAll, fp, r1, r2, n1, n2, f1, k2, rfN, fs, cu, nw, kk]
        | true =>
          rw [hg] at f1
          by_cases h1 : b = 1
          · subst h1
            simp at f1
            simp [read_fraction, read_fraction_b, fs, putAll, fp, r1, r2, n1, n2, f1, k2, rfN, fs, cu, nw, kk]
          · have h1' : ¬ (b : Int) = 1 := by omega
            simp [read_fraction, read_fraction_b, fs, putAll, fp, r1, r2, n1, n2, f1, k2, h1, h1', rfN, cu, nw, kk, numN]
            split
            · rfl
            · simp [k2]
theorem dec_no (a : Nat) : ∀ x ∈ dec a, ¬ (x == 47) = true := fun x hx => by
  have := (dec_all a).1 x hx
  simp
  omega
def wordOf (a b : Nat) : List Nat := if 1 < b then dec a ++ 47 :: dec b else dec a
theorem rfc_word {a b : Nat} (ha : a < 10 ^ 60) (hb : 1 ≤ b) (hb2 : b < 10 ^ 60) (hg : Nat.gcd a b = 1) : rfc (wordOf a b) = some (a, b) := by
  have na := numOk_dec ha
  have nb := numOk_dec hb2
  have va := (dec_all a).2.1
  have vb := (dec_all b).2.1
  have n0 : (dec a).findIdx? (· == 47) = none := by
    rw [List.findIdx?_eq_none_iff]
    intro x hx
    exact Bool.eq_false_iff.mpr (dec_no a x hx)
  unfold rfc wordOf
  by_cases h1 : 1 < b
  · have e : (dec a ++ 47 :: dec b).findIdx? (· == 47) = some (dec a).length := by
      rw [List.findIdx?_append, n0]
      simp [List.findIdx?_cons]
    rw [if_pos h1, e]
    have t : (dec a ++ 47 :: dec b).take (dec a).length = dec a := by simp
    have d : (dec a ++ 47 :: dec b).drop ((dec a).length + 1) = dec b := by
      rw [← List.drop_drop, List.drop_left]
      rfl
    dsimp only
    rw [t, d, na, nb, va, vb, hg, decide_eq_true hb]
    have : (b == 1) = false := by
      simp
      omega
    rw [this]
    rfl
  · have e1 : b = 1 := by omega
    rw [if_neg h1, n0]
    dsimp only
    rw [if_pos na, va, e1]
theorem word_len {a b : Nat} (ha : a < 10 ^ 60) (hb2 : b < 10 ^ 60) : (wordOf a b).length ≤ 121 := by
  have l1 := dec_len (k := 60) (by decide) ha
  have l2 := dec_len (k := 60) (by decide) hb2
  unfold wordOf
  split
  · simp
    omega
  · omega
theorem word_head (a b : Nat) : ((wordOf a b).take 1 == [45]) = false := by
  obtain ⟨i1, _, i3, _⟩ := dec_all a
  obtain ⟨c, cs, e⟩ := List.exists_cons_of_ne_nil i3
  have hc := i1 c (by rw [e]; exact List.mem_cons_self ..)
  unfold wordOf
  rw [e]
  split
  · simp
    omega
  · simp
    omega
section
variable {ns : List String} {vs : List D}
theorem rv_num {w : List Nat} {d : D} (h : M.read_fraction [.str w] = .ok (d, false)) : M.read_value [.obj "NumberForm" ns vs, .str w] = .ok (d, false) := by
  simp [read_value, read_value_b, mIsO, h]
theorem rv_numx {w : List Nat} (h : M.read_fraction [.str w] = .ex "NoRow") : M.read_value [.obj "NumberForm" ns vs, .str w] = .ex "NoRow" := by
  simp [read_value, read_value_b, mIsO, h]
theorem ref_val {C : String} {w : List Nat} (h : M.read_value [.obj C ns vs, .str w] = .ex "NoRow") : M._law_refused [.seq .tup [.obj C ns vs, .str w]] = .ok (.bl true, false) := by
  have a0 : atI [.obj C ns vs, D.str w] 0 = some (.obj C ns vs) := rfl
  have a1 : atI [.obj C ns vs, D.str w] 1 = some (.str w) := rfl
  have ci : cIsN (.obj C ns vs) .non = .ok false := rfl
  simp [_law_refused, _law_refused_b, a0, a1, h, ci, smCatch, smEnd]
theorem ref_edge {w : List Nat} (h : M.read_edge [.str w] = .ex "NoRow") : M._law_refused [.seq .tup [.non, .str w]] = .ok (.bl true, false) := by
  have a0 : atI [.non, D.str w] 0 = some .non := rfl
  have a1 : atI [.non, D.str w] 1 = some (.str w) := rfl
  simp [_law_refused, _law_refused_b, a0, a1, h, smCatch, smEnd]
end
/-- the words that tell no number -/
def badW : List (List Nat) := [[], [45], [45, 48], [48, 49], [49, 47], [47, 50], [50, 47, 52], [51, 47, 49], [49, 47, 48], [43, 49], [49, 46, 48], [45, 45, 49], [49, 47, 45, 50], [49, 47, 48, 50], [32, 49], [120], [49, 32],
  49 :: List.replicate 60 48, [49, 47, 49] ++ List.replicate 60 48, [48, 47, 50], [45, 48, 47, 49], [48, 47, 49], [49, 47, 50, 47, 51], [61, 49], [49, 101, 51], [49, 95, 48], [97], [45, 49, 47, 49], [48, 48]]
def badQ (w : List Nat) : Bool := decide (w.length ≤ 1000) && if w.take 1 == [45] then (match rfc (w.drop 1) with | some p => p.1 == 0 | none => true) else (rfc w).isNone
theorem bad_all : badW.all badQ = true := by decide +kernel
theorem badQ_ex {w : List Nat} (h : badQ w = true) : M.read_fraction [.str w] = .ex "NoRow" := by
  unfold badQ at h
  rw [Bool.and_eq_true, decide_eq_true_eq] at h
  obtain ⟨hl, h⟩ := h
  split at h
  · rename_i ht
    obtain ⟨r, rfl⟩ : ∃ r, w = 45 :: r := by
      cases w with
      | nil => cases ht
      | cons c cs =>
        simp at ht
        exact ⟨cs, by rw [ht]⟩
    rw [rneg_eq r (by simp at hl; omega)]
    rw [show (45 :: r).drop 1 = r from rfl] at h
    cases e : rfc r with
    | none => rfl
    | some p =>
      rw [e] at h
      simp at h
      show (if p.1 = 0 then Res.ex "NoRow" else .ok (numN p, false)) = _
      rw [if_pos h]
  · rename_i ht
    rw [rfrac_eq w hl (Bool.eq_false_iff.mpr ht)]
    cases e : rfc w with
    | none => rfl
    | some p =>
      rw [e] at h
      cases h
theorem nonum_ex (c : Int) : ∃ w, w ∈ badW ∧ M._law_no_number [.int c] = .ok (.str w, false) := by
  obtain ⟨r, hr, e⟩ := pick_ex c 20 29
  have hr' : r < badW.length := hr
  refine ⟨badW[r], List.getElem_mem hr', ?_⟩
  have k3 : 29 ≤ lim := le_lim (by decide)
  have ix := atI_nat (xs := badW.map D.str) (i := r) (by simpa using hr')
  rw [List.getElem_map] at ix
  obtain ⟨w, hw⟩ : ∃ w, w = badW[r] := ⟨_, rfl⟩
  rw [← hw] at ix ⊢
  simp [badW] at ix
  have k17 : 17 ≤ lim := le_lim (by decide)
  have k6 : 6 ≤ lim := le_lim (by decide)
  have k23 : 23 ≤ lim := le_lim (by decide)
  have k60 : 60 ≤ lim := le_lim (by decide)
  have k61 : 61 ≤ lim := le_lim (by decide)
  have k63 : 63 ≤ lim := le_lim (by decide)
  simp at e
  simp [_law_no_number, _law_no_number_b, k17, k6, k23, k60, k61, k63, k3, e, ix]
/-! ### texts told -/
def signs19 : List Nat := [32, 33, 44, 45, 46, 47, 48, 57, 58, 61, 65, 90, 97, 98, 122, 126, 39, 40, 43]
theorem strsOf_map' : ∀ ts : List (List Nat), strsOf (ts.map .str) = some ts
  | [] => rfl
  | t :: ts => by
    have := strsOf_map' ts
    simp [strsOf, this]
theorem plain_ex (c s : Int) (m : Nat) (h0 : 0 ≤ s) (h1 : s ≤ 1000) (hm : m ≤ 100) : ∃ t : List Nat, t.length ≤ m ∧ (∀ x ∈ t, x ∈ signs19) ∧ M._law_plain_text [.int c, .int s, .int m] = .ok (.str t, false) := by
  have e1 := pick_eq c (s + 30) (m + 1)
  have l1 := pick_lo c (s + 30) (m + 1)
  have l2 := pick_hi c (s + 30) (m + 1)
  obtain ⟨n, hn⟩ : ∃ n : Nat, pickF c (s + 30) (m + 1) = n := ⟨_, (Int.toNat_of_nonneg l1).symm⟩
  rw [hn] at e1 l2
  have hnm : n ≤ m := by omega
  obtain ⟨sg, hsg⟩ : ∃ sg, sg = signs19 := ⟨_, rfl⟩
  have slen : sg.length = 19 := by rw [hsg]; rfl
  have slim : sg.length ≤ lim := le_lim (by omega)
  have pk : ∀ k : Nat, k < n → ∃ y, M._law_pick [.int c, .int (s + (k : Int)), .int 19] = .ok (.int (pickF c (s + k) 19), false) ∧ atI sg (pickF c (s + k) 19) = some y ∧ y ∈ sg := fun k hk => by
    have p1 := pick_eq c (s + k) 19
    have p2 := pick_lo c (s + k) 19
    have p3 := pick_hi c (s + k) 19
    obtain ⟨r, hr⟩ : ∃ r : Nat, pickF c (s + k) 19 = r := ⟨_, (Int.toNat_of_nonneg p2).symm⟩
    rw [hr] at p1 p3 ⊢
    have hrl : r < sg.length := by omega
    exact ⟨_, p1, atI_nat hrl, List.getElem_mem hrl⟩
  obtain ⟨g, hg⟩ : ∃ g : Nat → Nat, ∀ k, k < n → M._law_pick [.int c, .int (s + (k : Int)), .int 19] = .ok (.int (pickF c (s + k) 19), false) ∧ atI sg (pickF c (s + k) 19) = some (g k) ∧ g k ∈ sg := by
    refine ⟨fun k => (atI sg (pickF c (s + k) 19)).getD 0, fun k hk => ?_⟩
    obtain ⟨y, h1, h2, h3⟩ := pk k hk
    have e : (fun k : Nat => (atI sg (pickF c (s + k) 19)).getD 0) k = y := by
      show (atI sg (pickF c (s + k) 19)).getD 0 = y
      rw [h2]
      rfl
    rw [e]
    exact ⟨h1, h2, h3⟩
  have cc := comp_of (put := put1 5) (e := mIx (mV 3) (mCall M._law_pick (amCons (mV 0) (amCons (mB oAdd (mV 1) (mV 5)) (amCons (mC (.int 19)) amNil))))) (ρ := [.fz (.int c), .fz (.int s), .fz (.int m), .fz (.str sg), .fz (.int n), .no])
    (fun k : Nat => D.int ((0 : Int) + k)) (fun k => D.str [g k]) .cl (fun _ => rfl) (cs := List.range n) (fun k hk => by
      obtain ⟨h1, h2, _⟩ := hg k (List.mem_range.mp hk)
      simp [put1, h1, h2, slim])
  have cc' : comp (put1 5) tmYes (mIx (mV 3) (mCall M._law_pick (amCons (mV 0) (amCons (mB oAdd (mV 1) (mV 5)) (amCons (mC (.int 19)) amNil))))) [.fz (.int c), .fz (.int s), .fz (.int m), .fz (.str sg), .fz (.int n), .no] (rangeL 0 n) = _ := cc
  have e3 : (List.range n).map (fun k => D.str [g k]) = (((List.range n).map fun k => [g k]).map .str) := by rw [List.map_map]; rfl
  rw [e3] at cc'
  have e2 : ((List.range n).map fun k => [g k]).flatten = (List.range n).map g := by
    rw [← List.flatMap_def]
    induction (List.range n) with
    | nil => rfl
    | cons a l ih => simp [List.flatMap_cons, ih]
  refine ⟨(List.range n).map g, by simp; exact hnm, fun y hy => ?_, ?_⟩
  · obtain ⟨k, hk, rfl⟩ := List.mem_map.mp hy
    rw [← hsg]
    exact (hg k (List.mem_range.mp hk)).2.2
  · have so := strsOf_map' ((List.range n).map fun k => [g k])
    have fl : (((List.range n).map fun k => [g k]).flatten).length ≤ lim := by
      rw [e2, List.length_map, List.length_range]
      exact le_lim (by omega)
    have hR : rgOk n = true := rgOk_of (by omega) (by omega)
    have hnl : n < lim := lt_lim (by omega)
    rw [← e2]
    generalize (List.range n).map (fun k => [g k]) = ts at *
    unfold signs19 at hsg
    simp [_law_plain_text, _law_plain_text_b, e1, hR, ← hsg, cc', hnl, fJoin, so, fl, -List.length_flatten, -List.map_map]
/-! the blanks and the low lines -/
theorem repl_back {t : List Nat} (h : ∀ x ∈ t, x ∈ signs19) : repl1 95 32 (repl1 32 95 t) = t := by
  unfold repl1
  rw [List.map_map]
  conv => rhs; rw [← List.map_id t]
  refine List.map_congr_left fun x hx => ?_
  have h95 : x ≠ 95 := fun z => by
    have := h x hx
    rw [z] at this
    revert this
    decide
  by_cases h32 : x = 32
  · subst h32
    rfl
  · simp [h32, h95]
theorem repl_len (c d : Nat) (t : List Nat) : (repl1 c d t).length = t.length := by simp [repl1]
theorem fRepl_eq (c d : Nat) (t : List Nat) (h : t.length ≤ 1000) : fRepl c d t = .ok (.str (repl1 c d t), .cl) := by
  unfold fRepl
  rw [if_pos (le_lim (by omega))]
  rfl
theorem rs_eq (t : List Nat) (h : t.length ≤ 1000) : M.read_signs [.str (61 :: t)] = .ok (.str (repl1 95 32 t), false) := by
  have fs : fStarts (61 :: t) (.str [61]) = .ok (.bl true, .cl) := rfl
  have kk : t.length + 1 ≤ lim := le_lim (by omega)
  have cu : cutL (61 :: t) (some 1) none = t := by simp [cutL, sIx]
  simp [read_signs, read_signs_b, fs, kk, cu, fRepl_eq _ _ t h]
theorem rs_bad {w : List Nat} (h : (w.take 1 == [61]) = false) : M.read_signs [.str w] = .ex "NoRow" := by
  have fs : fStarts w (.str [61]) = .ok (.bl false, .cl) := by
    show sOk (.bl (w.take 1 == [61])) = _
    rw [h]
    rfl
  simp [read_signs, read_signs_b, fs]
theorem re_eq (t : List Nat) (h : t.length ≤ 1000) : M.read_edge [.str (61 :: t)] = if t.length ≤ 8 then .ok (.str (repl1 95 32 t), false) else .ex "NoRow" := by
  have r := rs_eq t h
  have l := repl_len 95 32 t
  obtain ⟨u, hu⟩ : ∃ u, u = repl1 95 32 t := ⟨_, rfl⟩
  rw [← hu] at r l ⊢
  have kk : t.length ≤ lim := le_lim (by omega)
  by_cases h8 : t.length ≤ 8
  · have h8' : ¬ (8 : Int) < (t.length : Int) := by omega
    simp [read_edge, read_edge_b, r, kk, l, h8, h8']
  · have h8' : (8 : Int) < (t.length : Int) := by omega
    simp [read_edge, read_edge_b, r, kk, l, h8, h8']
theorem re_bad {w : List Nat} (h : (w.take 1 == [61]) = false) : M.read_edge [.str w] = .ex "NoRow" := by
  simp [read_edge, read_edge_b, rs_bad h]
theorem se_eq (t : List Nat) (h : t.length ≤ 1000) : M.show_edge [.str t] = .ok (.str (61 :: repl1 32 95 t), false) := by
  have kk : (repl1 32 95 t).length + 1 ≤ lim := le_lim (by rw [repl_len]; omega)
  simp [show_edge, show_edge_b, fRepl_eq _ _ t h, repl_len, le_lim (show t.length + 1 ≤ 16777216 by omega), le_lim (show 1 + t.length ≤ 16777216 by omega)]
/-! ### forms -/
theorem nform0 : ∃ vs, M.NumberForm_init [.int 1, .int 0, .int 10, .str [109, 105, 110, 117, 115], .int 0, .str [44], .str [46], .str [110, 101, 97, 114], .int 0, .str [32], .str [114, 105, 103, 104, 116], .bl false] [] [] = .ok (NS.ns, vs) :=
  ⟨_, ninit_eq { f := 1, p := 0, b := 10, sg := [109, 105, 110, 117, 115], sz := 0, mark := 44, pt := 46, wy := [110, 101, 97, 114], wd := 0, fl := 32, sd := [114, 105, 103, 104, 116], st := false }⟩
theorem wform0 : ∃ vs, M.WordForm_init [.str [97, 98], .int 0, .int 2, .int 0, .str [32], .str [108, 101, 102, 116], .bl false] [] [] = .ok (WS.ns, vs) :=
  ⟨_, winit_eq { sg := [97, 98], lo := 0, hi := 2, wd := 0, fl := 32, sd := [108, 101, 102, 116], st := false }⟩
theorem cform0 : ∃ ns vs, M.ChoiceForm_init [.seq .lst [.str [97]], .int 0, .str [32], .str [108, 101, 102, 116], .bl false] [] [] = .ok (ns, vs) := by
  have k1 : 1 < lim := lt_lim (by decide)
  refine ⟨["width", "fill", "side", "strict", "names"], [.int 0, .str [32], .str [108, 101, 102, 116], .bl false, .seq .lst [.str [97]]], ?_⟩
  simp [ChoiceForm_init, ChoiceForm_init_b, Form_init, Form_init_b, mInit, imBase, imFld, imNil, noEx, setF, k1]
section
variable {ns : List String} {vs : List D}
theorem rv_word {w : List Nat} {d : List Nat} (h : M.read_signs [.str w] = .ok (.str d, false)) : M.read_value [.obj "WordForm" ns vs, .str w] = .ok (.str d, false) := by
  simp [read_value, read_value_b, mIsO, h]
theorem rv_wordx {w : List Nat} (h : M.read_signs [.str w] = .ex "NoRow") : M.read_value [.obj "WordForm" ns vs, .str w] = .ex "NoRow" := by
  simp [read_value, read_value_b, mIsO, h]
theorem rv_name {w : List Nat} (h : w ≠ []) : M.read_value [.obj "ChoiceForm" ns vs, .str w] = .ok (.str w, false) := by
  simp [read_value, read_value_b, mIsO, h]
theorem rv_namex : M.read_value [.obj "ChoiceForm" ns vs, .str []] = .ex "NoRow" := by
  simp [read_value, read_value_b, mIsO]
theorem sv_name (w : List Nat) : M.show_value [.obj "ChoiceForm" ns vs, .str w] = .ok (.str w, false) := by
  simp [show_value, show_value_b, mIsO]
theorem sv_word (w : List Nat) (h : w.length ≤ 1000) : M.show_value [.obj "WordForm" ns vs, .str w] = .ok (.str (61 :: repl1 32 95 w), false) := by
  simp [show_value, show_value_b, mIsO, se_eq w h]
theorem sv_num (T : Int) (b : Nat) (hb : 1 ≤ b) (h1 : lg T 1920 = true) (h2 : lg b 1920 = true) (h3 : (decI T).length ≤ 100) (h4 : (decI b).length ≤ 100) :
    M.show_value [.obj "NumberForm" ns vs, .seq .tup [.int T, .int b]] = .ok (.str (decI T ++ if 1 < b then 47 :: decI b else []), false) := by
  have a0 : atI [D.int T, .int b] 0 = some (.int T) := rfl
  have a1 : atI [D.int T, .int b] 1 = some (.int b) := rfl
  have l1 : (decI T).length + 1 ≤ lim := le_lim (by omega)
  have l2 : (decI T).length + 1 + (decI b).length ≤ lim := le_lim (by omega)
  by_cases e : b = 1
  · subst e
    have a1 : atI [D.int T, .int 1] 1 = some (.int 1) := rfl
    have a0 : atI [D.int T, .int 1] 0 = some (.int T) := rfl
    simp [show_value, show_value_b, mIsO, a0, a1, h1]
  · have hb1 : 1 < b := by omega
    have e' : ¬ (b : Int) = 1 := by omega
    simp [show_value, show_value_b, mIsO, a0, a1, h1, h2, e', hb1, l1, l2]
end
theorem size_ex (c s a : Int) (h0 : 0 ≤ s) (h1 : s ≤ 1000) (h2 : 0 ≤ a) (h3 : a ≤ 1000) : ∃ r : Nat, r < 10 ^ 60 ∧ M._law_size [.int c, .int s, .int a] = .ok (.int r, false) := by
  obtain ⟨w, hw, e⟩ := pick_ex c s 4
  simp at e
  rcases (show w = 0 ∨ w = 1 ∨ w = 2 ∨ w = 3 by omega) with rfl | rfl | rfl | rfl
  · obtain ⟨r, hr, e2⟩ := pick_ex c (s + 1) 12
    simp at e2
    refine ⟨r, Nat.lt_of_lt_of_le hr (by decide), ?_⟩
    simp at e
    simp [_law_size, _law_size_b, e, e2]
  · obtain ⟨r, hr, e2⟩ := pick_ex c (s + 1) 3
    simp at e2 e
    refine ⟨10 ^ 60 - 1 - r, by omega, ?_⟩
    simp [_law_size, _law_size_b, e, e2]
    omega
  · have e2 := great_eq c a (10 ^ 9)
    have b2 := great_b c a (10 ^ 9)
    obtain ⟨r, hr⟩ : ∃ r : Nat, greatF c a (10 ^ 9) = r := ⟨_, (Int.toNat_of_nonneg b2.1).symm⟩
    rw [hr] at e2 b2
    have ix : atI [D.int 1000000000, .int 1000000000000000000000000000000000000000000000000000000000000] 0 = some (.int 1000000000) := rfl
    simp at e2 e
    refine ⟨r, by omega, ?_⟩
    simp [_law_size, _law_size_b, e, e2, ix, le_lim (show 2 ≤ 16777216 by decide)]
  · have e2 := great_eq c a (10 ^ 60)
    have b2 := great_b c a (10 ^ 60)
    obtain ⟨r, hr⟩ : ∃ r : Nat, greatF c a (10 ^ 60) = r := ⟨_, (Int.toNat_of_nonneg b2.1).symm⟩
    rw [hr] at e2 b2
    have ix : atI [D.int 1000000000, .int 1000000000000000000000000000000000000000000000000000000000000] 1 = some (.int 1000000000000000000000000000000000000000000000000000000000000) := rfl
    simp at e2 e
    refine ⟨r, by omega, ?_⟩
    simp [_law_size, _law_size_b, e, e2, ix, le_lim (show 2 ≤ 16777216 by decide)]
theorem low_nat (a b : Nat) (hb : 1 ≤ b) : ∃ t d : Nat, lowT a b = t ∧ lowB a b = d ∧ 1 ≤ d ∧ d ≤ b ∧ t ≤ a ∧ Nat.gcd t d = 1 := by
  have p := low_pos (a := (a : Int)) (b := (b : Int)) (by omega)
  have q := low_abs (a := (a : Int)) (b := (b : Int)) (by omega)
  have c := low_copr (a := (a : Int)) (b := (b : Int)) (by omega)
  have nn : 0 ≤ lowT (a : Int) (b : Int) := Int.ediv_nonneg (by omega) (by omega)
  refine ⟨(lowT (a : Int) (b : Int)).natAbs, (lowB (a : Int) (b : Int)).natAbs, by omega, by omega, by omega, by omega, by omega, c⟩
theorem word_reads {t b : Nat} (ht : t < 10 ^ 60) (hb : 1 ≤ b) (hb2 : b < 10 ^ 60) (hg : Nat.gcd t b = 1) (T : Int) (hT : T = t ∨ 0 < t ∧ T = -(t : Int)) :
    M.read_fraction [.str (decI T ++ if 1 < b then 47 :: decI b else [])] = .ok (.seq .tup [.int T, .int b], false) ∧ (decI T).length ≤ 61 ∧ (decI b).length ≤ 60 := by
  have l1 := dec_len (k := 60) (by decide) ht
  have l2 := dec_len (k := 60) (by decide) hb2
  have wl := word_len ht hb2
  have rw_ := rfc_word ht hb hb2 hg
  have ew : dec t ++ (if 1 < b then 47 :: decI b else []) = wordOf t b := by
    unfold wordOf
    rw [decI_nat]
    split <;> simp
  rcases hT with rfl | ⟨h0, rfl⟩
  · rw [decI_nat t, ew, rfrac_eq _ (by omega) (word_head t b), rw_]
    exact ⟨rfl, by omega, by rw [decI_nat]; exact l2⟩
  · rw [decI_neg t h0, List.cons_append, ew, rneg_eq _ (by omega), rw_]
    refine ⟨?_, by simp; omega, by rw [decI_nat]; exact l2⟩
    show (if t = 0 then Res.ex "NoRow" else .ok (numN (t, b), false)) = _
    rw [if_neg (by omega)]
    rfl
theorem whole2 (i : Int) : M._law_whole [.int i] = .ok (.bl true, false) := by simp [_law_whole, _law_whole_b]
theorem number_right (c o : Int) : M._law_number_right [.int c, .int o] = .ok (.bl true, false) := by
  obtain ⟨vs, nf⟩ := nform0
  obtain ⟨a, ha, e1⟩ := size_ex c 2 0 (by decide) (by decide) (by decide) (by decide)
  obtain ⟨b0, hb0, e2⟩ := size_ex o 4 1 (by decide) (by decide) (by decide) (by decide)
  obtain ⟨t, d, hlt, hld, d1, d2, t2, hg⟩ := low_nat a (1 + b0) (by omega)
  have el := llow_eq (a : Int) ((1 + b0 : Nat) : Int) (by omega) (by rw [Int.natAbs_natCast]; exact Nat.lt_of_le_of_lt (show 1 + b0 ≤ 10 ^ 60 by omega) p60)
  rw [hlt, hld] at el
  obtain ⟨p, hp, ep⟩ := pick_ex c 6 2
  obtain ⟨bw, hbw, enn⟩ := nonum_ex c
  have hbad := ref_val (C := "NumberForm") (ns := NS.ns) (vs := vs) (rv_numx (ns := NS.ns) (vs := vs) (badQ_ex (List.all_eq_true.mp bad_all bw hbw)))
  have htl : t < 10 ^ 60 := by omega
  have p60' : (10 : Nat) ^ 60 < 2 ^ 1920 := Nat.lt_of_lt_of_le (by decide +kernel : (10 : Nat) ^ 60 < 2 ^ 200) (Nat.pow_le_pow_right (by decide) (by decide))
  simp at ep
  have pv : ∀ (i : Nat) (C : String) (n : List String) (ds : List D) (ρ : Rho), putV i (.obj C n ds, .fr) ρ = .ok (ρ.set i (.oo (.ins C n) ds)) := fun _ _ _ _ _ => rfl
  have fz : ∀ (i : Nat) (m : SM) (s0 : Sl) (r0 : Rho), smFrz i m (s0 :: r0) = m (frz i (s0 :: r0)) := fun _ _ _ _ => rfl
  have pc : ((1 + b0 : Nat) : Int) = 1 + (b0 : Int) := by omega
  rw [pc] at el
  simp [_law_number_right, _law_number_right_b, mMake, iDef, nf, noEx, e1, e2, el, ep, enn, hbad, putAll, pv, fz, OwK.asD]
  have k3 : 2 ≤ lim := le_lim (by decide)
  by_cases hd : d = 10 ^ 60
  · have hde : (d : Int) = 1000000000000000000000000000000000000000000000000000000000000 := by omega
    have F : ∀ T : Int, (T = t ∨ 0 < t ∧ T = -(t : Int)) → M.read_value [.obj "NumberForm" NS.ns vs, .str (decI T)] = .ok (.seq .tup [.int T, .int 1], false) ∧ M.show_value [.obj "NumberForm" NS.ns vs, .seq .tup [.int T, .int 1]] = .ok (.str (decI T), false) ∧ (decI T).length ≤ 61 := fun T hT => by
      obtain ⟨wr, w1, w2⟩ := word_reads htl (Nat.le_refl 1) (by decide) (Nat.gcd_one_right t) T hT
      have lT : lg T 1920 = true := lg_of 1920 (Nat.lt_trans (show T.natAbs < 10 ^ 60 by omega) p60')
      have rv := rv_num (ns := NS.ns) (vs := vs) wr
      have sv := sv_num (ns := NS.ns) (vs := vs) T 1 (Nat.le_refl 1) lT (lg_small 1920 (by decide)) (by omega) (by omega)
      rw [if_neg (by decide), List.append_nil] at rv sv
      exact ⟨rv, sv, w1⟩
    rw [if_pos hde]
    rcases (show p = 0 ∨ p = 1 by omega) with rfl | rfl
    · obtain ⟨T, hTd⟩ : ∃ T : Int, T = (t : Int) := ⟨_, rfl⟩
      have ix : atI [D.int t, .int (-(t : Int))] 0 = some (.int T) := by rw [hTd]; rfl
      have hT : T = t ∨ 0 < t ∧ T = -(t : Int) := by omega
      obtain ⟨rv, sv, w1⟩ := F T hT
      have lT : lg T 1920 = true := lg_of 1920 (Nat.lt_trans (show T.natAbs < 10 ^ 60 by omega) p60')
      have x0 : atI [D.int T, .int 1] 0 = some (.int T) := rfl
      have x1 : atI [D.int T, .int 1] 1 = some (.int 1) := rfl
      simp [hde, ix, ep, k3, lT, rv, sv, x0, x1, whole2, enn, hbad]
    · obtain ⟨T, hTd⟩ : ∃ T : Int, T = -(t : Int) := ⟨_, rfl⟩
      have ix : atI [D.int t, .int (-(t : Int))] 1 = some (.int T) := by rw [hTd]; rfl
      have hT : T = t ∨ 0 < t ∧ T = -(t : Int) := by omega
      obtain ⟨rv, sv, w1⟩ := F T hT
      have lT : lg T 1920 = true := lg_of 1920 (Nat.lt_trans (show T.natAbs < 10 ^ 60 by omega) p60')
      have x0 : atI [D.int T, .int 1] 0 = some (.int T) := rfl
      have x1 : atI [D.int T, .int 1] 1 = some (.int 1) := rfl
      simp [hde, ix, ep, k3, lT, rv, sv, x0, x1, whole2, enn, hbad]
  · have hde : ¬ (d : Int) = 1000000000000000000000000000000000000000000000000000000000000 := by omega
    rw [if_neg hde]
    by_cases h1 : d = 1
    · subst h1
      have F : ∀ T : Int, (T = t ∨ 0 < t ∧ T = -(t : Int)) → M.read_value [.obj "NumberForm" NS.ns vs, .str (decI T)] = .ok (.seq .tup [.int T, .int 1], false) ∧ M.show_value [.obj "NumberForm" NS.ns vs, .seq .tup [.int T, .int 1]] = .ok (.str (decI T), false) ∧ (decI T).length ≤ 61 := fun T hT => by
        obtain ⟨wr, w1, w2⟩ := word_reads htl (Nat.le_refl 1) (by decide) (Nat.gcd_one_right t) T hT
        have lT : lg T 1920 = true := lg_of 1920 (Nat.lt_trans (show T.natAbs < 10 ^ 60 by omega) p60')
        have rv := rv_num (ns := NS.ns) (vs := vs) wr
        have sv := sv_num (ns := NS.ns) (vs := vs) T 1 (Nat.le_refl 1) lT (lg_small 1920 (by decide)) (by omega) (by omega)
        rw [if_neg (by decide), List.append_nil] at rv sv
        exact ⟨rv, sv, w1⟩
      rcases (show p = 0 ∨ p = 1 by omega) with rfl | rfl
      · obtain ⟨T, hTd⟩ : ∃ T : Int, T = (t : Int) := ⟨_, rfl⟩
        have ix : atI [D.int t, .int (-(t : Int))] 0 = some (.int T) := by rw [hTd]; rfl
        have hT : T = t ∨ 0 < t ∧ T = -(t : Int) := by omega
        obtain ⟨rv, sv, w1⟩ := F T hT
        have lT : lg T 1920 = true := lg_of 1920 (Nat.lt_trans (show T.natAbs < 10 ^ 60 by omega) p60')
        have x0 : atI [D.int T, .int 1] 0 = some (.int T) := rfl
        have x1 : atI [D.int T, .int 1] 1 = some (.int 1) := rfl
        simp [hde, ix, ep, k3, lT, rv, sv, x0, x1, whole2, enn, hbad]
      · obtain ⟨T, hTd⟩ : ∃ T : Int, T = -(t : Int) := ⟨_, rfl⟩
        have ix : atI [D.int t, .int (-(t : Int))] 1 = some (.int T) := by rw [hTd]; rfl
        have hT : T = t ∨ 0 < t ∧ T = -(t : Int) := by omega
        obtain ⟨rv, sv, w1⟩ := F T hT
        have lT : lg T 1920 = true := lg_of 1920 (Nat.lt_trans (show T.natAbs < 10 ^ 60 by omega) p60')
        have x0 : atI [D.int T, .int 1] 0 = some (.int T) := rfl
        have x1 : atI [D.int T, .int 1] 1 = some (.int 1) := rfl
        simp [hde, ix, ep, k3, lT, rv, sv, x0, x1, whole2, enn, hbad]
    · have g1 : (1 : Int) < (d : Int) := by omega
      have lb : lg (d : Int) 1920 = true := lg_of 1920 (Nat.lt_trans (show (d : Int).natAbs < 10 ^ 60 by omega) p60')
      have wd : (decI d).length ≤ 60 := by
        rw [decI_nat]
        exact dec_len (by decide) (by omega)
      have F : ∀ T : Int, (T = t ∨ 0 < t ∧ T = -(t : Int)) → M.read_value [.obj "NumberForm" NS.ns vs, .str (decI T ++ 47 :: decI d)] = .ok (.seq .tup [.int T, .int d], false) ∧ M.show_value [.obj "NumberForm" NS.ns vs, .seq .tup [.int T, .int d]] = .ok (.str (decI T ++ 47 :: decI d), false) ∧ (decI T).length ≤ 61 := fun T hT => by
        obtain ⟨wr, w1, w2⟩ := word_reads htl d1 (by omega) hg T hT
        have lT : lg T 1920 = true := lg_of 1920 (Nat.lt_trans (show T.natAbs < 10 ^ 60 by omega) p60')
        have rv := rv_num (ns := NS.ns) (vs := vs) wr
        have sv := sv_num (ns := NS.ns) (vs := vs) T d d1 lT lb (by omega) (by omega)
        rw [if_pos (by omega)] at rv sv
        exact ⟨rv, sv, w1⟩
      rcases (show p = 0 ∨ p = 1 by omega) with rfl | rfl
      · obtain ⟨T, hTd⟩ : ∃ T : Int, T = (t : Int) := ⟨_, rfl⟩
        have ix : atI [D.int t, .int (-(t : Int))] 0 = some (.int T) := by rw [hTd]; rfl
        have hT : T = t ∨ 0 < t ∧ T = -(t : Int) := by omega
        obtain ⟨rv, sv, w1⟩ := F T hT
        have lT : lg T 1920 = true := lg_of 1920 (Nat.lt_trans (show T.natAbs < 10 ^ 60 by omega) p60')
        have x0 : atI [D.int T, .int d] 0 = some (.int T) := rfl
        have x1 : atI [D.int T, .int d] 1 = some (.int d) := rfl
        have k1 : (decI T).length + 1 ≤ lim := le_lim (by omega)
        have k2 : (decI T).length + ((decI d).length + 1) ≤ lim := le_lim (by omega)
        have k2' : (decI T).length + 1 + (decI d).length ≤ lim := le_lim (by omega)
        simp [hde, ix, ep, k3, lT, lb, g1, rv, sv, x0, x1, k1, k2, k2', whole2, enn, hbad]
      · obtain ⟨T, hTd⟩ : ∃ T : Int, T = -(t : Int) := ⟨_, rfl⟩
        have ix : atI [D.int t, .int (-(t : Int))] 1 = some (.int T) := by rw [hTd]; rfl
        have hT : T = t ∨ 0 < t ∧ T = -(t : Int) := by omega
        obtain ⟨rv, sv, w1⟩ := F T hT
        have lT : lg T 1920 = true := lg_of 1920 (Nat.lt_trans (show T.natAbs < 10 ^ 60 by omega) p60')
        have x0 : atI [D.int T, .int d] 0 = some (.int T) := rfl
        have x1 : atI [D.int T, .int d] 1 = some (.int d) := rfl
        have k1 : (decI T).length + 1 ≤ lim := le_lim (by omega)
        have k2 : (decI T).length + ((decI d).length + 1) ≤ lim := le_lim (by omega)
        have k2' : (decI T).length + 1 + (decI d).length ≤ lim := le_lim (by omega)
        simp [hde, ix, ep, k3, lT, lb, g1, rv, sv, x0, x1, k1, k2, k2', whole2, enn, hbad]
theorem repl_ne {t : List Nat} : (61 :: t).take 1 = [61] := rfl
def badE : List (List Nat) := [[], [97, 61], [97, 98], [95], [45, 61], [45]]
theorem badE_all : badE.all (fun w => !(w.take 1 == [61])) = true := by decide
theorem text_right (c o : Int) : M._law_text_right [.int c, .int o] = .ok (.bl true, false) := by
  obtain ⟨vs, wf⟩ := wform0
  obtain ⟨t, tl, ts, e1⟩ := plain_ex c 40 8 (by decide) (by decide) (by decide)
  obtain ⟨u, ul, us, e2⟩ := plain_ex o 80 24 (by decide) (by decide) (by decide)
  obtain ⟨p, hp, ep⟩ := pick_ex c 7 8
  obtain ⟨q, hq, eq⟩ := pick_ex o 8 6
  have hq' : q < badE.length := hq
  have ix := atI_nat (xs := badE.map D.str) (i := q) (by simpa using hq')
  rw [List.getElem_map] at ix
  obtain ⟨w, hw⟩ : ∃ w, w = badE[q] := ⟨_, rfl⟩
  rw [← hw] at ix
  have hwb : (w.take 1 == [61]) = false := by
    have := List.all_eq_true.mp badE_all w (by rw [hw]; exact List.getElem_mem hq')
    simpa using this
  simp [badE] at ix
  have pv : ∀ (i : Nat) (C : String) (n : List String) (ds : List D) (ρ : Rho), putV i (.obj C n ds, .fr) ρ = .ok (ρ.set i (.oo (.ins C n) ds)) := fun _ _ _ _ _ => rfl
  have fz : ∀ (i : Nat) (m : SM) (s0 : Sl) (r0 : Rho), smFrz i m (s0 :: r0) = m (frz i (s0 :: r0)) := fun _ _ _ _ => rfl
  have se := se_eq t (by omega)
  have ft := fRepl_eq 32 95 t (by omega)
  have fu := fRepl_eq 32 95 u (by omega)
  have lt' := repl_len 32 95 t
  have lu' := repl_len 32 95 u
  have re := re_eq (repl1 32 95 t) (by omega)
  rw [if_pos (by omega), repl_back ts] at re
  have sv := sv_word (ns := WS.ns) (vs := vs) u (by omega)
  have rs := rs_eq (repl1 32 95 u) (by omega)
  rw [repl_back us] at rs
  have rv := rv_word (ns := WS.ns) (vs := vs) rs
  obtain ⟨x, hx⟩ : ∃ x, x = repl1 32 95 t := ⟨_, rfl⟩
  obtain ⟨y, hy⟩ : ∃ y, y = repl1 32 95 u := ⟨_, rfl⟩
  rw [← hx] at se ft lt' re
  rw [← hy] at fu lu' sv rs rv
  have r2 := ref_edge (re_bad hwb)
  have r3 := ref_val (C := "WordForm") (ns := WS.ns) (vs := vs) (rv_wordx (ns := WS.ns) (vs := vs) (rs_bad hwb))
  obtain ⟨z, hz⟩ : ∃ z, z = cutL (y ++ [97, 98, 99, 100, 101, 102, 103, 104, 105]) none (some (9 + (p : Int))) := ⟨_, rfl⟩
  have zl : 9 ≤ z.length ∧ z.length ≤ 1000 := by
    rw [hz]
    have e9 : ¬ (9 + (p : Int) < 0) := by omega
    simp [cutL, sIx, e9]
    omega
  have r1 : M._law_refused [.seq .tup [.non, .str (61 :: z)]] = .ok (.bl true, false) := by
    refine ref_edge ?_
    rw [re_eq z (by omega), if_neg (by omega)]
  have k6 : 6 ≤ lim := le_lim (by decide)
  have k2 : 2 ≤ lim := le_lim (by decide)
  have kx : x.length + 1 ≤ lim := le_lim (by omega)
  have ky : y.length + 1 ≤ lim := le_lim (by omega)
  have kx' : 1 + x.length ≤ lim := le_lim (by omega)
  have ky' : 1 + y.length ≤ lim := le_lim (by omega)
  have ky9 : y.length + 9 ≤ lim := le_lim (by omega)
  have kz : z.length + 1 ≤ lim := le_lim (by omega)
  have kz' : 1 + z.length ≤ lim := le_lim (by omega)
  simp at ep eq e1 e2
  simp [_law_text_right, _law_text_right_b, mMake, iDef, wf, noEx, pv, fz, OwK.asD, e1, e2, ep, eq, se, ft, fu, re, sv, rv, r1, r2, r3, ix, ← hz, k6, k2, kx, ky, kx', ky', ky9, kz, kz']
theorem name_right (c : Int) : M._law_name_right [.int c] = .ok (.bl true, false) := by
  obtain ⟨ns, vs, cf⟩ := cform0
  obtain ⟨t, tl, ts, e1⟩ := plain_ex c 120 8 (by decide) (by decide) (by decide)
  have pv : ∀ (i : Nat) (C : String) (n : List String) (ds : List D) (ρ : Rho), putV i (.obj C n ds, .fr) ρ = .ok (ρ.set i (.oo (.ins C n) ds)) := fun _ _ _ _ _ => rfl
  have fz : ∀ (i : Nat) (m : SM) (s0 : Sl) (r0 : Rho), smFrz i m (s0 :: r0) = m (frz i (s0 :: r0)) := fun _ _ _ _ => rfl
  have ft := fRepl_eq 32 95 t (by omega)
  have lt' := repl_len 32 95 t
  obtain ⟨x, hx⟩ : ∃ x, x = repl1 32 95 t := ⟨_, rfl⟩
  rw [← hx] at ft lt'
  have kx : x.length + 1 ≤ lim := le_lim (by omega)
  have rv := rv_name (ns := ns) (vs := vs) (w := x ++ [120]) (by simp)
  have sv := sv_name (ns := ns) (vs := vs) (x ++ [120])
  have r := ref_val (C := "ChoiceForm") (ns := ns) (vs := vs) (rv_namex (ns := ns) (vs := vs))
  have k1 : 1 ≤ lim := le_lim (by decide)
  have k2 : 2 ≤ lim := le_lim (by decide)
  simp at e1
  simp [_law_name_right, _law_name_right_b, mMake, iDef, cf, noEx, pv, fz, OwK.asD, e1, ft, rv, sv, r, k1, k2, kx]
theorem true_law (ns : List Int) (hl : ns.length ≤ 63) : M.law [.seq .rol (ns.map .int)] = .ok (.bl true, false) := by
  have kl : ns.length ≤ lim := le_lim (by omega)
  have k2 : lg 2 9000 = true := lg_small _ (by decide)
  have ef : fdivI (ns.length : Int) 2 = (ns.length : Int) / 2 := fdivI_pos (by decide)
  obtain ⟨h, hh⟩ : ∃ h : Nat, h = ns.length / 2 := ⟨_, rfl⟩
  have eh : (ns.length : Int) / 2 = (h : Int) := by omega
  obtain ⟨n, hn, hn2⟩ : ∃ n : Nat, bMax [.int 1, .int (if (10 : Int) > (h : Int) then (h : Int) else 10)] = .ok (.int n) ∧ n ≤ 10 := by
    rw [bMax_i]
    refine ⟨(if (if (10 : Int) > (h : Int) then (h : Int) else 10) > 1 then (if (10 : Int) > (h : Int) then (h : Int) else 10) else 1).toNat, ?_, ?_⟩
    · rw [Int.toNat_of_nonneg (by split <;> (try split) <;> omega)]
    · split <;> (try split) <;> omega
  have hRn : rgOk n = true := rgOk_of (by omega) (by omega)
  simp [law, law_b, kl, k2, ef, eh, -bMax_i]
  simp [hn, hRn, -bMax_i]
  refine q_run (fun r => r = .ok (.bl true, false)) (fun i ρ => ∃ a b c, ρ = [.fz (.seq .rol (ns.map .int)), a, b, c]) ⟨.no, .no, .no, rfl⟩ ?_ ?_
  · rintro i d ρ hd ⟨a, b, c, rfl⟩
    obtain ⟨hi, rfl⟩ := rangeL_get hd
    have c1 := pcell_eq ns (2 * i)
    have c2 := pcell_eq ns (2 * i + 1)
    have mk : mulOk 2 (i : Int) = true := mulOk_l (by decide)
    simp at c1 c2
    simp [put1, c1, c2, mk, number_right, text_right, name_right]
  · rintro ρ ⟨a, b, c, rfl⟩
    simp
end Law
end
end

section
set_option Elab.async false
set_option linter.all false
set_option maxRecDepth 100000
set_option maxHeartbeats 4000000
/-! Dm: plain data, slots, and what they stand for in the abstract heap. -/
namespace Dm
open PySem PySem.Spec L2

theorem sIx_eq (n d : Nat) (o : Option Int) : sIx n d o = HT.sIx n d o := by cases o <;> rfl
theorem cutL_eq (xs : List V) (lo hi : Option Int) : cutL xs lo hi = cutV xs lo hi := by
  unfold cutL cutV
  rw [sIx_eq, sIx_eq]
theorem atI_eq {α : Type} (xs : List α) (i : Int) : Dm.atI xs i = L2.atI xs i := rfl
theorem lim_le : lim ≤ sizeLine := by rw [sizeLine_eq, lim_def]; exact Nat.le_refl _
theorem lim_eq : sizeLine = lim := by rw [sizeLine_eq, lim_def]
def keyD : Key → D
  | .inl i => .int i
  | .inr s => .str s.cps.toList

/-! keys that are tuples of whole numbers, and of such tuples -/
mutual
def hsD : D → Int
  | .int i => hashInt i
  | .seq _ xs => reduceHash (Builtin.Tuple.tupleHashOf (hsDs xs))
  | _ => 0
def hsDs : List D → List Int
  | [] => []
  | d :: ds => hsD d :: hsDs ds
end
/-- at a: a dict, by the hashes and addresses of its keys, and its values -/
def DNo (a : Addr) (o : Obj) (es : List (Int × Addr × V)) : Prop := (a == sysModules) = false ∧ es.length ≤ sizeLine ∧ o.ExactDict ∧ ∃ (us : List Value) (arr : Array DictEntry) (ep : Nat), Vals (es.map (·.2.2)) us ∧ o.data = .dict arr ep ∧ arr.toList = (es.zip us).map fun z => (⟨z.1.1, .ref z.1.2.1, z.2⟩ : DictEntry)
def dN (a : Addr) (o : Obj) (es : List (Int × Addr × V)) : HO := .ext fun h => h.get? a = some o ∧ DNo a o es
def entZ (ks : List D) (ka : List Addr) (vs : List V) : List (Int × Addr × V) := (ks.map hsD).zip (ka.zip vs)
structure DitOk (ks : List D) (ka : List Addr) (vs : List V) : Prop where
  ka : ka.length = ks.length
  vs : vs.length = ks.length
  nd : ks.Nodup
  tk : ∀ k ∈ ks, k.tkey = true

mutual
inductive Rep (K : PySem.W.Frag) (mg : Str → Option Value) (G : Hp) : D → V → Prop
  | non : Rep K mg G .non .non
  | bl (b : Bool) : Rep K mg G (.bl b) (.bl b)
  | int (i : Int) : Rep K mg G (.int i) (.int i)
  | str (s : List Nat) : Rep K mg G (.str s) (.str ⟨s.toArray⟩)
  | lst {a : Addr} {ds : List D} {vs : List V} : G a = some (.lst vs) → Reps K mg G ds vs → Rep K mg G (.seq .lst ds) (.ref a)
  | rol {a : Addr} {ds : List D} {vs : List V} : SqL K G a vs → Reps K mg G ds vs → Rep K mg G (.seq .rol ds) (.ref a)
  | tup {a : Addr} {ds : List D} {vs : List V} : SqT K G a vs → Reps K mg G ds vs → Rep K mg G (.seq .tup ds) (.ref a)
  | obj {C : String} {c a dx : Addr} {ns : List String} {ds : List D} {vs : List V} : mg (C : Str) = some (.ref c) → G a = some (.ins c dx ((ns.map Str.ofString).zip vs)) → vs.length = ns.length → Reps K mg G ds vs → Rep K mg G (.obj C ns ds) (.ref a)
  | dic {a : Addr} {kk : List Key} {ds : List D} {vs : List V} : G a = some (.dK (kk.zip vs)) → vs.length = kk.length → Reps K mg G ds vs → Rep K mg G (.dic (kk.map keyD) ds) (.ref a)
  | dit {a : Addr} {o : Obj} {ks ds : List D} {ka : List Addr} {vs : List V} : G a = some (dN a o (entZ ks ka vs)) → DitOk ks ka vs → Reps K mg G ks (ka.map V.ref) → Reps K mg G ds vs → Rep K mg G (.dit ks ds) (.ref a)
inductive Reps (K : PySem.W.Frag) (mg : Str → Option Value) (G : Hp) : List D → List V → Prop
  | nil : Reps K mg G [] []
  | cons {d : D} {v : V} {ds : List D} {vs : List V} : Rep K mg G d v → Reps K mg G ds vs → Reps K mg G (d :: ds) (v :: vs)
end

theorem same_tup {K : PySem.W.Frag} {H H' : Hp} {a : Addr} {xs : List V} (e : Same H H') (h : SqT K H a xs) : SqT K H' a xs := by
  rcases h with (h | ⟨o, h⟩) | h
  · exact .inl (.inl (e _ _ h))
  · exact .inl (.inr ⟨o, e _ _ h⟩)
  · exact .inr h

section
variable {K : PySem.W.Frag} {mg : Str → Option Value} {G G' : Hp}
mutual
theorem Rep.mono (e : Same G G') : ∀ {d : D} {v : V}, Rep K mg G d v → Rep K mg G' d v
  | _, _, .non => .non
  | _, _, .bl b => .bl b
  | _, _, .int b => .int b
  | _, _, .str b => .str b
  | _, _, .lst h r => .lst (e _ _ h) (Reps.mono e r)
  | _, _, .rol h r => .rol (e.seq h) (Reps.mono e r)
  | _, _, .tup h r => .tup (same_tup e h) (Reps.mono e r)
  | _, _, .obj m h l r => .obj m (e _ _ h) l (Reps.mono e r)
  | _, _, .dic h l r => .dic (e _ _ h) l (Reps.mono e r)
  | _, _, .dit h l k r => .dit (e _ _ h) l (Reps.mono e k) (Reps.mono e r)
theorem Reps.mono (e : Same G G') : ∀ {ds : List D} {vs : List V}, Reps K mg G ds vs → Reps K mg G' ds vs
  | _, _, .nil => .nil
  | _, _, .cons r t => .cons (Rep.mono e r) (Reps.mono e t)
end
theorem Reps.length : ∀ {ds : List D} {vs : List V}, Reps K mg G ds vs → ds.length = vs.length
  | _, _, .nil => rfl
  | _, _, .cons _ t => by rw [List.length_cons, List.length_cons, t.length]
theorem Reps.get : ∀ {ds : List D} {vs : List V} {i : Nat} {d : D}, Reps K mg G ds vs → ds[i]? = some d → ∃ v, vs[i]? = some v ∧ Rep K mg G d v
  | _, _, _, _, .nil, e => by simp at e
  | _, _, 0, _, .cons r _, e => by simp at e; subst e; exact ⟨_, rfl, r⟩
  | _, _, i + 1, d, .cons _ t, e => by
    obtain ⟨v, h1, h2⟩ := Reps.get (i := i) (d := d) t (by simpa using e)
    exact ⟨v, by simpa using h1, h2⟩
theorem Reps.get' : ∀ {ds : List D} {vs : List V} {i : Nat} {v : V}, Reps K mg G ds vs → vs[i]? = some v → ∃ d, ds[i]? = some d ∧ Rep K mg G d v
  | _, _, _, _, .nil, e => by simp at e
  | _, _, 0, _, .cons r _, e => by simp at e; subst e; exact ⟨_, rfl, r⟩
  | _, _, i + 1, d, .cons _ t, e => by
    obtain ⟨v, h1, h2⟩ := Reps.get' (i := i) (v := d) t (by simpa using e)
    exact ⟨v, by simpa using h1, h2⟩
theorem Reps.app : ∀ {ds es : List D} {vs ws : List V}, Reps K mg G ds vs → Reps K mg G es ws → Reps K mg G (ds ++ es) (vs ++ ws)
  | _, _, _, _, .nil, s => s
  | _, _, _, _, .cons r t, s => .cons r (t.app s)
theorem Reps.take : ∀ {ds : List D} {vs : List V} (n : Nat), Reps K mg G ds vs → Reps K mg G (ds.take n) (vs.take n)
  | _, _, 0, _ => .nil
  | _, _, _ + 1, .nil => .nil
  | _, _, n + 1, .cons r t => .cons r (t.take n)
theorem Reps.drop : ∀ {ds : List D} {vs : List V} (n : Nat), Reps K mg G ds vs → Reps K mg G (ds.drop n) (vs.drop n)
  | _, _, 0, r => r
  | _, _, _ + 1, .nil => .nil
  | _, _, n + 1, .cons _ t => t.drop n
theorem Reps.set {d : D} {v : V} (q : Rep K mg G d v) : ∀ {ds : List D} {vs : List V} (n : Nat), Reps K mg G ds vs → Reps K mg G (ds.set n d) (vs.set n v)
  | _, _, _, .nil => .nil
  | _, _, 0, .cons r t => .cons q t
  | _, _, n + 1, .cons r t => .cons r (t.set q n)
theorem Reps.rep (xs : List D) (vs : List V) (r : Reps K mg G xs vs) : ∀ k : Nat, Reps K mg G (List.replicate k xs).flatten (List.replicate k vs).flatten
  | 0 => .nil
  | k + 1 => by
    rw [List.replicate_succ, List.replicate_succ, List.flatten_cons, List.flatten_cons]
    exact r.app (Reps.rep xs vs r k)
theorem Reps.rev {ds : List D} {vs : List V} (r : Reps K mg G ds vs) : Reps K mg G ds.reverse vs.reverse := by
  induction r using Reps.rec (motive_1 := fun _ _ _ => True) with
  | non => trivial
  | bl => trivial
  | int => trivial
  | str => trivial
  | lst => trivial
  | rol => trivial
  | tup => trivial
  | obj => trivial
  | dic => trivial
  | dit => trivial
  | nil => exact .nil
  | cons r t _ ih =>
    rw [List.reverse_cons, List.reverse_cons]
    exact ih.app (.cons r .nil)
end

theorem Rep.sc {K : PySem.W.Frag} {mg : Str → Option Value} {G G' : Hp} {d : D} {v : V} (r : Rep K mg G d v) (h : d.sc = true) : Rep K mg G' d v := by
  cases r <;> first | exact .non | exact .bl _ | exact .int _ | exact .str _ | exact absurd h (by simp [D.sc])

/-- how a thing of one's own stands in the heap -/
def HOK (mg : Str → Option Value) (a : Addr) : OwK → List V → HO → Prop
  | .lst, vs, o => o = .lst vs
  | .dic ks, vs, o => ∃ kk : List Key, ks = kk.map keyD ∧ vs.length = kk.length ∧ o = .dK (kk.zip vs) ∧ kk.Nodup
  | .ins C ns, vs, o => ∃ c dx : Addr, mg (C : Str) = some (.ref c) ∧ vs.length = ns.length ∧ o = .ins c dx ((ns.map Str.ofString).zip vs)
  | .dit ks, vs, o => ∃ (ob : Obj) (ka : List Addr) (ws : List V), vs = ka.map V.ref ++ ws ∧ DitOk ks ka ws ∧ o = dN a ob (entZ ks ka ws)
/-- all that a thing of one's own bears -/
def OwK.all : OwK → List D → List D
  | .dit ks, ds => ks ++ ds
  | _, ds => ds
theorem Reps.split {K : PySem.W.Frag} {mg : Str → Option Value} {G : Hp} : ∀ {ks ds : List D} {us vs : List V}, ks.length = us.length → Reps K mg G (ks ++ ds) (us ++ vs) → Reps K mg G ks us ∧ Reps K mg G ds vs
  | [], _, [], _, _, r => ⟨.nil, r⟩
  | [], _, _ :: _, _, h, _ => by simp at h
  | _ :: _, _, [], _, h, _ => by simp at h
  | k :: ks, ds, u :: us, vs, h, r => by
    cases r with
    | cons r1 r2 =>
      obtain ⟨a, b⟩ := Reps.split (by simpa using h) r2
      exact ⟨.cons r1 a, b⟩
theorem HOK.rep {K : PySem.W.Frag} {mg : Str → Option Value} {G : Hp} {k : OwK} {ds : List D} {vs : List V} {o : HO} {a : Addr} (h : HOK mg a k vs o) (e : G a = some o) (r : Reps K mg G (k.all ds) vs) : Rep K mg G (k.asD ds) (.ref a) := by
  cases k with
  | lst =>
    cases h
    exact .lst e r
  | dic ks =>
    obtain ⟨kk, rfl, hl, rfl, _⟩ := h
    exact .dic e hl r
  | ins C ns =>
    obtain ⟨c, dx, hm, hl, rfl⟩ := h
    exact .obj hm e hl r
  | dit ks =>
    obtain ⟨ob, ka, ws, rfl, dk, rfl⟩ := h
    obtain ⟨r1, r2⟩ := Reps.split (by rw [List.length_map, dk.ka]) r
    exact .dit e dk r1 r2
theorem OwK.sc {k : OwK} {ds : List D} : (k.asD ds).sc = false := by cases k <;> rfl

/-! ### the area -/
/-- what a def (or a loop's turn) starts from: G what it may hand on, H all that stands, X what is written besides -/
structure Bs where
  G : Hp
  H : Hp
  X : Addr → Prop
def Bs.add (B : Bs) (a : Addr) : Bs := ⟨B.G, B.H, fun x => x = a ∨ B.X x⟩
def Own (ρ : Rho) (σ : St) (a : Addr) : Prop := ∃ (i : Nat) (k : OwK) (ds : List D), ρ[i]? = some (.oo k ds) ∧ σ[i]? = some (some (.ref a))
open Classical in
noncomputable def ar (B : Bs) (ρ : Rho) (σ : St) (H : Hp) : Hp := fun a => if B.X a ∨ Own ρ σ a then none else if B.H a = none then H a else B.G a
section
variable {B : Bs} {ρ ρ' : Rho} {σ σ' : St} {H H' : Hp} {a : Addr} {o : HO}
theorem ar_mono (e : Same H H') : Same (ar B ρ σ H) (ar B ρ σ H') := fun a o h => by
  unfold ar at h ⊢
  split at h
  · cases h
  · rename_i hx
    rw [if_neg hx]
    split at h
    · rename_i hn
      rw [if_pos hn]
      exact e _ _ h
    · rename_i hn
      rw [if_neg hn]
      exact h
theorem ar_sub (g : Same B.G B.H) (e : Same B.H H) : Same (ar B ρ σ H) H := fun a o h => by
  unfold ar at h
  split at h
  · cases h
  · split at h
    · exact h
    · exact e _ _ (g _ _ h)
theorem ar_own (h : ∀ a, Own ρ' σ' a → Own ρ σ a) : Same (ar B ρ σ H) (ar B ρ' σ' H) := fun a o e => by
  unfold ar at e ⊢
  split at e
  · cases e
  · rename_i hx
    rw [if_neg (fun z => hx (z.imp id (h a)))]
    exact e
/-- a write at an address that is out of the area -/
theorem ar_upd {o' : HO} (h : B.X a ∨ Own ρ σ a) : ar B ρ σ (upd H a o') = ar B ρ σ H := by
  funext b
  unfold ar
  by_cases hb : B.X b ∨ Own ρ σ b
  · rw [if_pos hb, if_pos hb]
  · rw [if_neg hb, if_neg hb]
    have : b ≠ a := fun z => hb (z ▸ h)
    rw [upd_ne this]
theorem ar_add : Same (ar (B.add a) ρ σ H) (ar B ρ σ H) := fun b o e => by
  unfold ar at e ⊢
  split at e
  · cases e
  · rename_i hx
    have hx' : ¬ (B.X b ∨ Own ρ σ b) := fun z => hx (z.imp (fun q => .inr q) id)
    rw [if_neg hx']
    exact e
theorem ar_add_ne : ∀ {b : Addr}, b ≠ a → ar B ρ σ H b = ar (B.add a) ρ σ H b := fun {b} hb => by
  by_cases hx : B.X b ∨ Own ρ σ b
  · have h2 : (B.add a).X b ∨ Own ρ σ b := hx.imp (fun z => .inr z) id
    unfold ar
    rw [if_pos hx, if_pos h2]
  · have h2 : ¬ ((B.add a).X b ∨ Own ρ σ b) := fun z => hx (z.imp (fun q => q.resolve_left hb) id)
    unfold ar
    rw [if_neg hx, if_neg h2]
    rfl
/-- all that stood in the area stands, where a new address is laid aside -/
theorem ar_new (hB : B.H a = none) (hn : H a = none) (e : Same H H') : Same (ar B ρ σ H) (ar (B.add a) ρ σ H') := fun b o h => by
  have hb : b ≠ a := fun z => by
    subst z
    unfold ar at h
    rw [hB, hn] at h
    simp at h
  rw [← ar_add_ne hb]
  exact ar_mono e _ _ h
end

/-- the slots stand for what the frame holds -/
abbrev ExE := Option (Nat × String × Addr)
structure SR (K : PySem.W.Frag) (mg : Str → Option Value) (E : ExE) (B : Bs) (ρ : Rho) (σ : St) (H : Hp) : Prop where
  len : ρ.length = σ.length
  fz : ∀ (i : Nat) (d : D), ρ[i]? = some (.fz d) → ∃ v : V, σ[i]? = some (some v) ∧ Rep K mg (ar B ρ σ H) d v
  ow : ∀ (i : Nat) (k : OwK) (ds : List D), ρ[i]? = some (.oo k ds) → ∃ (a : Addr) (o : HO) (vs : List V), σ[i]? = some (some (.ref a)) ∧ H a = some o ∧ HOK mg a k vs o ∧ Reps K mg (ar B ρ σ H) (k.all ds) vs
  dj : ∀ (i j : Nat) (a : Addr) (k l : OwK) (ds es : List D), ρ[i]? = some (.oo k ds) → ρ[j]? = some (.oo l es) → σ[i]? = some (some (.ref a)) → σ[j]? = some (some (.ref a)) → i = j
  ex : ∀ (i : Nat) (C : String), ρ[i]? = some (.ex C) → ∃ a : Addr, E = some (i, C, a) ∧ σ[i]? = some (some (.ref a))
  gh : Same B.G B.H
  bh : Same B.H H
  new : ∀ a, B.X a ∨ Own ρ σ a → B.H a = none
  xo : ∀ a, B.X a → ¬ Own ρ σ a
  xt : ∀ a, B.X a → ∃ o, H a = some o
section
variable {K : PySem.W.Frag} {mg : Str → Option Value} {E : ExE} {B : Bs} {ρ ρ' : Rho} {σ σ' : St} {H H' : Hp}
theorem SR.mono (S : SR K mg E B ρ σ H) (e : Same H H') : SR K mg E B ρ σ H' where
  len := S.len
  fz := fun i d h => let ⟨v, h1, h2⟩ := S.fz i d h; ⟨v, h1, h2.mono (ar_mono e)⟩
  ow := fun i k ds h => let ⟨a, o, vs, h1, h2, hk, h3⟩ := S.ow i k ds h; ⟨a, o, vs, h1, e _ _ h2, hk, h3.mono (ar_mono e)⟩
  dj := S.dj
  ex := S.ex
  gh := S.gh
  bh := S.bh.trans e
  new := S.new
  xo := S.xo
  xt := fun a h => let ⟨o, q⟩ := S.xt a h; ⟨o, e _ _ q⟩
theorem SR.sub (S : SR K mg E B ρ σ H) : Same (ar B ρ σ H) H := ar_sub S.gh S.bh
theorem SR.there (S : SR K mg E B ρ σ H) {a : Addr} (h : Own ρ σ a) : ∃ o, H a = some o := by
  obtain ⟨i, k, ds, h1, h2⟩ := h
  obtain ⟨b, o, vs, e1, e2, _⟩ := S.ow i k ds h1
  rw [h2] at e1
  cases e1
  exact ⟨o, e2⟩
/-- a slot's list -/
theorem SR.owl (S : SR K mg E B ρ σ H) (i : Nat) (ds : List D) (h : ρ[i]? = some (.ow ds)) : ∃ (a : Addr) (vs : List V), σ[i]? = some (some (.ref a)) ∧ H a = some (.lst vs) ∧ Reps K mg (ar B ρ σ H) ds vs := by
  obtain ⟨a, o, vs, h1, h2, hk, h3⟩ := S.ow i .lst ds h
  cases hk
  exact ⟨a, vs, h1, h2, h3⟩
theorem SR.newB (S : SR K mg E B ρ σ H) {a : Addr} (h : H a = none) : B.H a = none := S.bh.free h
/-- a new address may be laid aside -/
theorem SR.add (S : SR K mg E B ρ σ H) {a : Addr} {o : HO} (h : H a = none) (e : Same H H') (ha : H' a = some o) : SR K mg E (B.add a) ρ σ H' where
  len := S.len
  fz := fun i d h' => let ⟨v, h1, h2⟩ := S.fz i d h'; ⟨v, h1, h2.mono (ar_new (S.newB h) h e)⟩
  ow := fun i k ds h' => let ⟨b, o, vs, h1, h2, hk, h3⟩ := S.ow i k ds h'; ⟨b, o, vs, h1, e _ _ h2, hk, h3.mono (ar_new (S.newB h) h e)⟩
  dj := S.dj
  ex := S.ex
  gh := S.gh
  bh := S.bh.trans e
  new := fun b hb => by
    rcases hb with (rfl | hb) | hb
    · exact S.newB h
    · exact S.new b (.inl hb)
    · exact S.new b (.inr hb)
  xo := fun b hb ho => by
    rcases hb with rfl | hb
    · obtain ⟨vs, e⟩ := S.there ho
      rw [h] at e; cases e
    · exact S.xo b hb ho
  xt := fun b hb => by
    rcases hb with rfl | hb
    · exact ⟨_, ha⟩
    · obtain ⟨o, q⟩ := S.xt b hb
      exact ⟨o, e _ _ q⟩
end
end Dm
end

section
set_option Elab.async false
set_option linter.all false
set_option maxRecDepth 100000
set_option maxHeartbeats 4000000
/-! Dm: the judgement of an expression, and the rules of operators. -/
namespace Dm
open PySem PySem.Spec L2

def clsV (mg : Str → Option Value) (C : String) : Value := (mg (C : Str)).getD .none
def RT (K : PySem.W.Frag) (mg : Str → Option Value) (B : Bs) (ρ : Rho) (σ : St) (H H' : Hp) (d : D) : Tg → V → Prop
  | .cl, v => Rep K mg (ar B ρ σ H') d v
  | .own i, v => ∃ k ds, ρ[i]? = some (.oo k ds) ∧ d = k.asD ds ∧ σ[i]? = some (some v)
  | .fr, v => ∃ (a : Addr) (o : HO) (k : OwK) (ds : List D) (vs : List V), d = k.asD ds ∧ v = .ref a ∧ H a = none ∧ H' a = some o ∧ HOK mg a k vs o ∧ Reps K mg (ar (B.add a) ρ σ H') (k.all ds) vs
def GM (K : PySem.W.Frag) (mg : Str → Option Value) (W : WX) (B : Bs) (ρ : Rho) (σ : St) (H : Hp) (r : Res Val) (Q : VK) : Prop :=
  match r with
  | .ok (d, t) => ∀ v H', Same H H' → RT K mg B ρ σ H H' d t v → Q v H'
  | .ex C => ∀ H', Same H H' → W (clsV mg C) none σ H'
  | .bad => False
def tE (K : PySem.W.Frag) (mg : Str → Option Value) (E : ExE) (W : WX) (m : EM) : TE := fun σ H Q => ∃ B ρ, SR K mg E B ρ σ H ∧ GM K mg W B ρ σ H (m ρ) Q
abbrev PM (X : Cx) (E : ExE) (W : WX) (e : Expr) (m : EM) : Prop := PE X e (tE X.K X.mg E W m)

theorem PE.imp {X : Cx} {e : Expr} {t t' : TE} (h : PE X e t) (k : ∀ σ H Q, t' σ H Q → t σ H Q) : PE X e t' := ⟨fun pins s σ H Q I h' => h.run pins s σ H Q I (k σ H Q h')⟩
theorem PT.imp {X : Cx} {e : Expr} {t t' : TT} (h : PT X e t) (k : ∀ σ H Q, t' σ H Q → t σ H Q) : PT X e t' := ⟨fun pins s σ H Q I h' => h.run pins s σ H Q I (k σ H Q h')⟩
theorem PW.imp {X : Cx} {e : Expr} {t t' : TT} (h : PW X e t) (k : ∀ σ H Q, t' σ H Q → t σ H Q) : PW X e t' := ⟨fun w pins s σ H Q I h' => h.run w pins s σ H Q I (k σ H Q h')⟩
theorem PA.imp {X : Cx} {e : List Expr} {t t' : TA} (h : PA X e t) (k : ∀ σ H Q, t' σ H Q → t σ H Q) : PA X e t' := ⟨fun w pins s σ H Q I h' => h.run w pins s σ H Q I (k σ H Q h')⟩
theorem PS.imp {X : Cx} {e : Stmt} {t t' : TS} (h : PS X e t) (k : ∀ D σ H, t' D σ H → t D σ H) : PS X e t' := ⟨fun pins s σ H D I h' => h.run pins s σ H D I (k D σ H h')⟩
theorem PSs.imp {X : Cx} {e : List Stmt} {t t' : TS} (h : PSs X e t) (k : ∀ D σ H, t' D σ H → t D σ H) : PSs X e t' := ⟨fun pins s σ H D I h' => h.run pins s σ H D I (k D σ H h')⟩
theorem PI.imp {X : Cx} {tg e : Expr} {t t' : TI} (h : PI X tg e t) (k : ∀ σ H Q, t' σ H Q → t σ H Q) : PI X tg e t' := ⟨fun pins s σ H Q I h' => h.run pins s σ H Q I (k σ H Q h')⟩

theorem Same.upd {H : Hp} {p : Addr} {o : HO} (h : H p = none) : Same H (upd H p o) := fun b x e => by
  rw [upd_ne (ne_of_none e h)]
  exact e

section
variable {K : PySem.W.Frag} {mg : Str → Option Value} {E : ExE} {W : WX} {B : Bs} {ρ : Rho} {σ : St} {H H1 H2 : Hp} {d : D} {t : Tg} {v : V} {Q : VK}
theorem RT.mono (r : RT K mg B ρ σ H H1 d t v) (e : Same H1 H2) : RT K mg B ρ σ H H2 d t v := by
  cases t with
  | cl => exact Rep.mono (ar_mono e) r
  | own i => exact r
  | fr =>
    obtain ⟨a, o, k, ds, vs, h1, h2, h3, h4, hk, h5⟩ := r
    exact ⟨a, o, k, ds, vs, h1, h2, h3, e _ _ h4, hk, h5.mono (ar_mono e)⟩
theorem GM.mono {r : Res Val} (h : GM K mg W B ρ σ H r Q) (e : Same H H1) : GM K mg W B ρ σ H1 r Q := by
  cases r with
  | ok x =>
    obtain ⟨d, t⟩ := x
    intro v H' e' rt
    refine h v H' (e.trans e') ?_
    cases t with
    | cl => exact rt
    | own i => exact rt
    | fr =>
      obtain ⟨a, o, k, ds, vs, h1, h2, h3, h4, hk, h5⟩ := rt
      exact ⟨a, o, k, ds, vs, h1, h2, e.free h3, h4, hk, h5⟩
  | ex C => exact fun H' e' => h H' (e.trans e')
  | bad => exact h
theorem GM.imp {r : Res Val} {Q' : VK} (h : GM K mg W B ρ σ H r Q) (k : ∀ v H', Q v H' → Q' v H') : GM K mg W B ρ σ H r Q' := by
  cases r with
  | ok x => exact fun v H' e rt => k _ _ (h v H' e rt)
  | ex C => exact h
  | bad => exact h
theorem RT.rep (S : SR K mg E B ρ σ H1) (r : RT K mg B ρ σ H H1 d t v) : Rep K mg H1 d v := by
  cases t with
  | cl => exact Rep.mono S.sub r
  | own i =>
    obtain ⟨k, ds, h1, rfl, h3⟩ := r
    obtain ⟨a, o, vs, e1, e2, hk, e3⟩ := S.ow i k ds h1
    rw [h3] at e1
    cases e1
    exact hk.rep e2 (e3.mono S.sub)
  | fr =>
    obtain ⟨a, o, k, ds, vs, rfl, rfl, h3, h4, hk, h5⟩ := r
    exact hk.rep h4 ((h5.mono ar_add).mono S.sub)
/-- what is laid next leaves it -/
theorem GM.run {m : EM} (S : SR K mg E B ρ σ H) (h : GM K mg W B ρ σ H (m ρ) Q) : tE K mg E W m σ H Q := ⟨B, ρ, S, h⟩
theorem GM.bind {m : EM} {f : Val → Res Val} {R : VK} (S : SR K mg E B ρ σ H) (h : GM K mg W B ρ σ H ((m ρ).bind f) Q)
    (k : ∀ (d : D) (t : Tg) (v : V) (H1 : Hp), RT K mg B ρ σ H H1 d t v → Same H H1 → SR K mg E B ρ σ H1 → GM K mg W B ρ σ H1 (f (d, t)) Q → R v H1) : tE K mg E W m σ H R := by
  refine ⟨B, ρ, S, ?_⟩
  cases e : m ρ with
  | ok x =>
    obtain ⟨d, t⟩ := x
    rw [e] at h
    exact fun v H' s r => k d t v H' r s (S.mono s) (GM.mono h s)
  | ex C =>
    rw [e] at h
    exact h
  | bad =>
    rw [e] at h
    exact h
/-- a plain result -/
theorem GM.pure {d : D} (h : GM K mg W B ρ σ H (.ok (d, .cl)) Q) (r : Rep K mg (ar B ρ σ H) d v) : Q v H := h v H (Same.refl H) r
theorem GM.sc {d : D} (h : GM K mg W B ρ σ H (.ok (d, .cl)) Q) (r : Rep K mg (fun _ => none) d v) : Q v H :=
  h.pure (r.mono fun _ _ z => by cases z)
/-- a new list -/
theorem GM.fresh {ds : List D} {vs : List V} {p : Addr} (S : SR K mg E B ρ σ H) (h : GM K mg W B ρ σ H (.ok (.seq .lst ds, .fr)) Q) (r : Reps K mg (ar B ρ σ H) ds vs) (hp : H p = none) : Q (.ref p) (upd H p (.lst vs)) := by
  refine h (.ref p) _ (Same.upd hp) ⟨p, _, .lst, ds, vs, rfl, rfl, hp, upd_same, rfl, ?_⟩
  exact r.mono (ar_new (S.newB hp) hp (Same.upd hp))
theorem ar_at (S : SR K mg E B ρ σ H) {p : Addr} {o : HO} (hp : H p = none) : ar B ρ σ (upd H p o) p = some o := by
  have hB := S.newB hp
  have hx : ¬ (B.X p ∨ Own ρ σ p) := fun z => by
    rcases z with z | z
    · obtain ⟨o, e⟩ := S.xt p z
      rw [hp] at e; cases e
    · obtain ⟨vs, e⟩ := S.there z
      rw [hp] at e; cases e
  unfold ar
  rw [if_neg hx, if_pos hB, upd_same]
end
end Dm
end

section
set_option Elab.async false
set_option linter.all false
set_option maxRecDepth 100000
set_option maxHeartbeats 4000000
/-! Dm: the rules of expressions. -/
namespace Dm
open PySem PySem.Spec L2 TL

/-- what a value is read as -/
inductive RP (K : PySem.W.Frag) (mg : Str → Option Value) (B : Bs) (ρ : Rho) (σ : St) (H : Hp) : D → V → Prop
  | non : RP K mg B ρ σ H .non .non
  | bl (b : Bool) : RP K mg B ρ σ H (.bl b) (.bl b)
  | int (i : Int) : RP K mg B ρ σ H (.int i) (.int i)
  | str (s : List Nat) : RP K mg B ρ σ H (.str s) (.str ⟨s.toArray⟩)
  | lst {a : Addr} {ds : List D} {vs : List V} : H a = some (.lst vs) → Reps K mg (ar B ρ σ H) ds vs → RP K mg B ρ σ H (.seq .lst ds) (.ref a)
  | rol {a : Addr} {ds : List D} {vs : List V} : SqL K H a vs → Reps K mg (ar B ρ σ H) ds vs → RP K mg B ρ σ H (.seq .rol ds) (.ref a)
  | tup {a : Addr} {ds : List D} {vs : List V} : SqT K (ar B ρ σ H) a vs → Reps K mg (ar B ρ σ H) ds vs → RP K mg B ρ σ H (.seq .tup ds) (.ref a)
  | obj {C : String} {c a dx : Addr} {ns : List String} {ds : List D} {vs : List V} : mg (C : Str) = some (.ref c) → H a = some (.ins c dx ((ns.map Str.ofString).zip vs)) → vs.length = ns.length → Reps K mg (ar B ρ σ H) ds vs → RP K mg B ρ σ H (.obj C ns ds) (.ref a)
  | dic {a : Addr} {kk : List Key} {ds : List D} {vs : List V} : H a = some (.dK (kk.zip vs)) → vs.length = kk.length → Reps K mg (ar B ρ σ H) ds vs → RP K mg B ρ σ H (.dic (kk.map keyD) ds) (.ref a)
  | dit {a : Addr} {o : Obj} {ks ds : List D} {ka : List Addr} {vs : List V} : H a = some (dN a o (entZ ks ka vs)) → DitOk ks ka vs → Reps K mg (ar B ρ σ H) ks (ka.map V.ref) → Reps K mg (ar B ρ σ H) ds vs → RP K mg B ρ σ H (.dit ks ds) (.ref a)
section
variable {K : PySem.W.Frag} {mg : Str → Option Value} {E : ExE} {W : WX} {B : Bs} {ρ : Rho} {σ : St} {H H1 H2 : Hp} {d : D} {t : Tg} {v : V} {Q : VK}
theorem Rep.rp (S : SR K mg E B ρ σ H) (r : Rep K mg (ar B ρ σ H) d v) : RP K mg B ρ σ H d v := by
  cases r with
  | non => exact .non
  | bl b => exact .bl b
  | int b => exact .int b
  | str b => exact .str b
  | lst h r => exact .lst (S.sub _ _ h) r
  | rol h r => exact .rol (S.sub.seq h) r
  | tup h r => exact .tup h r
  | obj a b c d => exact .obj a (S.sub _ _ b) c d
  | dic a b c => exact .dic (S.sub _ _ a) b c
  | dit a b c d => exact .dit (S.sub _ _ a) b c d
theorem HOK.rp {k : OwK} {ds : List D} {vs : List V} {o : HO} {a : Addr} (h : HOK mg a k vs o) (e : H a = some o) (r : Reps K mg (ar B ρ σ H) (k.all ds) vs) : RP K mg B ρ σ H (k.asD ds) (.ref a) := by
  cases k with
  | lst =>
    cases h
    exact .lst e r
  | dic ks =>
    obtain ⟨kk, rfl, hl, rfl, _⟩ := h
    exact .dic e hl r
  | ins C ns =>
    obtain ⟨c, dx, hm, hl, rfl⟩ := h
    exact .obj hm e hl r
  | dit ks =>
    obtain ⟨ob, ka, ws, rfl, dk, rfl⟩ := h
    obtain ⟨r1, r2⟩ := Reps.split (by rw [List.length_map, dk.ka]) r
    exact .dit e dk r1 r2
theorem RT.rp (S : SR K mg E B ρ σ H1) (r : RT K mg B ρ σ H H1 d t v) : RP K mg B ρ σ H1 d v := by
  cases t with
  | cl => exact Rep.rp S r
  | own i =>
    obtain ⟨k, ds, h1, rfl, h3⟩ := r
    obtain ⟨a, o, vs, e1, e2, hk, e3⟩ := S.ow i k ds h1
    rw [h3] at e1
    cases e1
    exact hk.rp e2 e3
  | fr =>
    obtain ⟨a, o, k, ds, vs, rfl, rfl, h3, h4, hk, h5⟩ := r
    exact hk.rp h4 (h5.mono ar_add)
theorem RP.mono (r : RP K mg B ρ σ H d v) (e : Same H H1) : RP K mg B ρ σ H1 d v := by
  cases r with
  | non => exact .non
  | bl b => exact .bl b
  | int b => exact .int b
  | str b => exact .str b
  | lst h r => exact .lst (e _ _ h) (r.mono (ar_mono e))
  | rol h r => exact .rol (e.seq h) (r.mono (ar_mono e))
  | tup h r => exact .tup (same_tup (ar_mono e) h) (r.mono (ar_mono e))
  | obj a b c d => exact .obj a (e _ _ b) c (d.mono (ar_mono e))
  | dic a b c => exact .dic (e _ _ a) b (c.mono (ar_mono e))
  | dit a b c d => exact .dit (e _ _ a) b (c.mono (ar_mono e)) (d.mono (ar_mono e))
/-- its data may be read anywhere -/
theorem RP.rep (S : SR K mg E B ρ σ H) (r : RP K mg B ρ σ H d v) : Rep K mg H d v := by
  cases r with
  | non => exact .non
  | bl b => exact .bl b
  | int b => exact .int b
  | str b => exact .str b
  | lst h r => exact .lst h (r.mono S.sub)
  | rol h r => exact .rol h (r.mono S.sub)
  | tup h r => exact .tup (same_tup S.sub h) (r.mono S.sub)
  | obj a b c d => exact .obj a b c (d.mono S.sub)
  | dic a b c => exact .dic a b (c.mono S.sub)
  | dit a b c d => exact .dit a b (c.mono S.sub) (d.mono S.sub)
end

/-! ### constants and names -/
section
variable {X : Cx} {E : ExE} {W : WX} {pos : Pos}
theorem pm_int {i j} : PM X E W (.Constant (.int i) j pos) (mC (.int i)) := PE.imp pe_int fun σ H Q ⟨B, ρ, S, h⟩ => GM.sc (d := .int i) h (.int i)
theorem pm_bl {i j} : PM X E W (.Constant (.bool i) j pos) (mC (.bl i)) := PE.imp pe_bl fun σ H Q ⟨B, ρ, S, h⟩ => GM.sc (d := .bl i) h (.bl i)
theorem pm_non {j} : PM X E W (.Constant .none j pos) (mC .non) := PE.imp pe_non fun σ H Q ⟨B, ρ, S, h⟩ => GM.sc (d := .non) h .non
theorem pm_str {x : Str} {s : List Nat} {j} (hs : x = ⟨s.toArray⟩) : PM X E W (.Constant (.str x) j pos) (mC (.str s)) := PE.imp pe_str fun σ H Q ⟨B, ρ, S, h⟩ => by
  subst hs
  exact GM.sc (d := .str s) h (.str s)
theorem pm_var (i : Nat) {x : Str} (hN : X.N[i]? = some x := by rfl) (hv : Vis X.env.scope x := by first | exact Or.inl rfl | exact Or.inr (Or.inl rfl) | exact Or.inr (Or.inr rfl)) (hd : (x == ("__debug__" : Str)) = false := by decide)
    (hcd : (x == ("__classdict__" : Str)) = false := by decide) : PM X E W (.Name x pos) (mV i) := PE.imp (pe_var hN hv hd hcd) fun σ H Q ⟨B, ρ, S, h⟩ => by
  unfold mV at h
  split at h
  · rename_i d e
    obtain ⟨v, e1, r⟩ := S.fz i d e
    exact ⟨v, e1, GM.pure h r⟩
  · rename_i k ds e
    obtain ⟨a, o, vs, e1, e2, hk, e3⟩ := S.ow i k ds e
    exact ⟨.ref a, e1, h _ H (Same.refl H) ⟨k, ds, e, rfl, e1⟩⟩
  · exact False.elim h
/-- a constant of the module -/
theorem pm_glob {x : Str} {v : V} {d : D} {u : Value} (hg : Gl X x) (hm : X.mg x = some u) (r : RelV v u) (hr : Rep X.K X.mg (fun _ => none) d v) (hd : (x == ("__debug__" : Str)) = false := by decide) : PM X E W (.Name x pos) (mC d) :=
  PE.imp (pe_glob hg hm r hd) fun σ H Q ⟨B, ρ, S, h⟩ => GM.sc (d := d) h hr

/-! ### two operands -/
def OpM (X : Cx) (E : ExE) (W : WX) (r : R2) (f : Op2) : Prop := ∀ (B : Bs) (ρ : Rho) (σ : St) (H : Hp) (x y : D) (vx vy : V) (Q : VK),
  SR X.K X.mg E B ρ σ H → RP X.K X.mg B ρ σ H x vx → RP X.K X.mg B ρ σ H y vy → GM X.K X.mg W B ρ σ H (f x y) Q → r vx vy H Q
variable {a b c : Expr} {ma mb mc : EM}
theorem pm_bin {op : Operator} {r : R2} {f : Op2} (ho : OpR X (binaryOp op) r) (hf : OpM X E W r f) (ha : PM X E W a ma) (hb : PM X E W b mb) : PM X E W (.BinOp a op b pos) (mB f ma mb) :=
  PE.imp (pe_op ho ha hb) fun σ H Q ⟨B, ρ, S, h⟩ =>
    GM.bind S h fun x tx vx H1 rx e1 S1 h1 => GM.bind S1 h1 fun y ty vy H2 ry e2 S2 h2 => hf B ρ σ H2 x y vx vy Q S2 ((rx.rp S1).mono e2) (ry.rp S2) h2

/-! ints and texts -/
theorem op_mulS : OpR X (binaryOp .Mult) (fun x y H Q => ∃ i k, x = .str i ∧ y = .int k ∧ i.length * k.toNat ≤ sizeLine ∧ -(2 ^ 63 : Int) ≤ k ∧ k < 2 ^ 63 ∧ Q (.str (Txt.mul i k)) H) := by
  intro pins s σ H x y v u Q I rx ry h
  obtain ⟨i, k, rfl, rfl, h1, h2, h3, q⟩ := h
  obtain ⟨t, rfl⟩ := rx
  obtain ⟨t', rfl⟩ := ry
  rw [sizeLine_eq] at h1
  refine PySem.SB.mul ⟨?_, ?_, ?_⟩ fun t' k' => ⟨.str _, H, I.tok _, ⟨_, rfl⟩, q⟩
  · rw [Bool.or_eq_false_iff]
    exact ⟨decide_eq_false (by omega), decide_eq_false (by omega)⟩
  · intro h4 _ h5
    have h6 := Int.lt_ediv_add_one_mul_self (2 ^ 63 - 1) (show 0 < k by omega)
    have h7 := Int.mul_le_mul_of_nonneg_right (show (2 ^ 63 - 1) / k + 1 ≤ (i.length : Int) by omega) (show 0 ≤ k by omega)
    have h8 : ((i.length * k.toNat : Nat) : Int) = (i.length : Int) * k := by rw [Int.natCast_mul, Int.toNat_of_nonneg (by omega)]
    omega
  · intro h4 _
    show decide (_ > sizeLine) = false
    rw [sizeLine_eq]
    exact decide_eq_false (by omega)
theorem op_fdivX : OpR X (binaryOp .FloorDiv) (rI (fun _ j => j ≠ 0 ∧ j.natAbs.log2 < 9000) fun i j => .int (i.fdiv j)) := opI fun i j _ _ _ _ _ hc q =>
  PyProof.Rows.floordiv_int hc.1 q (.inl (PyProof.noPylong_of_log2 hc.2))
theorem str_app (s t : List Nat) : (⟨s.toArray⟩ : Str) ++ ⟨t.toArray⟩ = ⟨(s ++ t).toArray⟩ := ext_tl (by rw [tl_append])
theorem str_len (s : List Nat) : (⟨s.toArray⟩ : Str).length = s.length := rfl
theorem foldl_app (xs : Array Nat) : ∀ (k : Nat) (acc : Array Nat), ((List.replicate k xs).foldl (· ++ ·) acc).toList = acc.toList ++ (List.replicate k xs.toList).flatten
  | 0, acc => by simp
  | k + 1, acc => by
    rw [List.replicate_succ, List.foldl_cons, foldl_app xs k, List.replicate_succ, List.flatten_cons, Array.toList_append, List.append_assoc]
theorem mul_str (s : List Nat) (k : Int) : Txt.mul ⟨s.toArray⟩ k = ⟨((List.replicate k.toNat s).flatten).toArray⟩ := by
  apply ext_tl
  unfold Txt.mul
  by_cases h1 : k < 1
  · rw [if_pos h1, show k.toNat = 0 by omega]
    rfl
  · rw [if_neg h1]
    split
    · rename_i h2
      rw [Bool.or_eq_true] at h2
      rcases h2 with h2 | h2
      · rw [show k = 1 from by simpa using h2]
        simp [tl]
      · have : s = [] := by
          have := beq_iff_eq.mp h2
          rw [str_len] at this
          exact List.length_eq_zero_iff.mp this
        subst this
        simp [tl]
    · show (List.foldl (fun x1 x2 => x1 ++ x2) #[] (List.replicate k.toNat s.toArray)).toList = _
      rw [foldl_app]
      simp [tl]
theorem om_add : OpM X E W (fun x y H Q => ((rI0 fun i j => .int (i + j)) x y H Q ∨ (∃ i j, x = .str i ∧ y = .str j ∧ i.length + j.length ≤ sizeLine ∧ Q (.str (i ++ j)) H)) ∨ (rCat x y H Q ∨ rCatA X.K x y H Q)) oAdd := by
  intro B ρ σ H x y vx vy Q S rx ry h
  cases rx <;> cases ry <;> first | exact False.elim h | skip
  case int.int i j => exact .inl (.inl ⟨i, j, rfl, rfl, GM.sc (d := .int _) h (.int _)⟩)
  case str.str s t =>
    replace h : GM X.K X.mg W B ρ σ H (if s.length + t.length ≤ lim then sOk (.str (s ++ t)) else .bad) Q := h
    split at h
    · rename_i hl
      refine .inl (.inr ⟨_, _, rfl, rfl, Nat.le_trans hl lim_le, ?_⟩)
      rw [str_app]
      exact GM.sc (d := .str (s ++ t)) h (.str _)
    · exact False.elim h
  case lst.lst a xs vs hv rv b ys ws hw rw' =>
    replace h : GM X.K X.mg W B ρ σ H (if xs.length + ys.length ≤ lim then .ok (.seq .lst (xs ++ ys), .fr) else .bad) Q := h
    split at h
    · rename_i hl
      refine .inr (.inl ⟨a, b, vs, ws, rfl, rfl, hv, hw, ?_, fun p hp => GM.fresh S h (rv.app rw') hp⟩)
      rw [← rv.length, ← rw'.length]
      exact Nat.le_trans hl lim_le
    · exact False.elim h
  case tup.tup a xs vs hv rv b ys ws hw rw' =>
    replace h : GM X.K X.mg W B ρ σ H (if xs.length + ys.length ≤ lim then sOk (.seq .tup (xs ++ ys)) else .bad) Q := h
    split at h
    · rename_i hl
      refine .inr (.inr ⟨a, b, vs, ws, rfl, rfl, same_tup S.sub hv, same_tup S.sub hw, ?_, fun e => ?_, fun e1 e2 => ?_, fun e1 e2 p hp => ?_⟩)
      · rw [← rv.length, ← rw'.length]
        exact Nat.le_trans hl lim_le
      · subst e
        have hx : xs = [] := List.length_eq_zero_iff.mp (by rw [rv.length]; rfl)
        subst hx
        exact h (.ref b) H (Same.refl H) (Rep.tup hw rw')
      · subst e2
        have hx : ys = [] := List.length_eq_zero_iff.mp (by rw [rw'.length]; rfl)
        subst hx
        rw [List.append_nil] at h
        exact h (.ref a) H (Same.refl H) (Rep.tup hv rv)
      · exact h (.ref p) _ (Same.upd hp) (Rep.tup (.of (ar_at S hp)) ((rv.app rw').mono (ar_mono (Same.upd hp))))
    · exact False.elim h
theorem om_sub : OpM X E W (rI0 fun i j => .int (i - j)) oSub := by
  intro B ρ σ H x y vx vy Q S rx ry h
  cases rx <;> cases ry <;> first | exact False.elim h | skip
  case int.int i j => exact ⟨i, j, rfl, rfl, GM.sc (d := .int _) h (.int _)⟩
theorem om_mul : OpM X E W (fun x y H Q => (((rI CMul fun i j => .int (i * j)) x y H Q ∨ (rI CMulW fun i j => .int (i * j)) x y H Q) ∨ ∃ i k, x = .str i ∧ y = .int k ∧ i.length * k.toNat ≤ sizeLine ∧ -(2 ^ 63 : Int) ≤ k ∧ k < 2 ^ 63 ∧ Q (.str (Txt.mul i k)) H) ∨ rRep x y H Q) oMul := by
  intro B ρ σ H x y vx vy Q S rx ry h
  cases rx <;> cases ry <;> first | exact False.elim h | skip
  case int.int i j =>
    replace h : GM X.K X.mg W B ρ σ H (if mulOk i j then sOk (.int (i * j)) else .bad) Q := h
    split at h
    · rename_i hm
      have q := GM.sc (d := .int (i * j)) h (.int _)
      rw [mulOk_def] at hm
      simp only [Bool.or_eq_true, decide_eq_true_eq, lg2] at hm
      rcases hm with (hm | hm) | hm
      · exact .inl (.inl (.inl ⟨i, j, rfl, rfl, .inl (by omega), q⟩))
      · exact .inl (.inl (.inl ⟨i, j, rfl, rfl, .inr (by omega), q⟩))
      · exact .inl (.inl (.inr ⟨i, j, rfl, rfl, hm, q⟩))
    · exact False.elim h
  case str.int s k =>
    replace h : GM X.K X.mg W B ρ σ H (if decide (s.length * k.toNat ≤ lim) && decide (-9223372036854775808 ≤ k) && decide (k < 9223372036854775808) then sOk (.str (List.replicate k.toNat s).flatten) else .bad) Q := h
    split at h
    · rename_i hm
      simp only [Bool.and_eq_true, decide_eq_true_eq] at hm
      refine .inl (.inr ⟨_, k, rfl, rfl, by rw [lim_eq]; exact hm.1.1, by omega, by omega, ?_⟩)
      rw [mul_str]
      exact GM.sc (d := .str _) h (.str _)
    · exact False.elim h
  case lst.int a xs vs hv rv k =>
    replace h : GM X.K X.mg W B ρ σ H (if decide (-9223372036854775808 ≤ k) && decide (k < 9223372036854775808) && decide (xs.length * k.toNat ≤ lim) then .ok (.seq .lst (List.replicate k.toNat xs).flatten, .fr) else .bad) Q := h
    split at h
    · rename_i hm
      simp only [Bool.and_eq_true, decide_eq_true_eq] at hm
      refine .inr ⟨a, k, vs, rfl, rfl, hv, by omega, by omega, ?_, fun p hp => GM.fresh S h (Reps.rep _ _ rv _) hp⟩
      rw [← rv.length]
      exact Nat.le_trans hm.2 lim_le
    · exact False.elim h
theorem om_fdiv : OpM X E W (fun x y H Q => (rI CDivW fun i j => .int (i / j)) x y H Q ∨ (rI (fun _ j => j ≠ 0 ∧ j.natAbs.log2 < 9000) fun i j => .int (i.fdiv j)) x y H Q) oFdiv := by
  intro B ρ σ H x y vx vy Q S rx ry h
  cases rx <;> cases ry <;> first | exact False.elim h | skip
  case int.int i j =>
    replace h : GM X.K X.mg W B ρ σ H (if decide (j ≠ 0) && lg j 9000 then sOk (.int (fdivI i j)) else .bad) Q := h
    split at h
    · rename_i hm
      simp only [Bool.and_eq_true, decide_eq_true_eq, lg_def] at hm
      have q := GM.sc (d := .int _) h (.int _)
      unfold fdivI at q
      split at q
      · rename_i hj
        exact .inl ⟨i, j, rfl, rfl, ⟨hj, hm.2⟩, q⟩
      · exact .inr ⟨i, j, rfl, rfl, hm, q⟩
    · exact False.elim h
theorem om_mod : OpM X E W (fun x y H Q => (rI (fun _ j => 0 < j) fun i j => .int (i % j)) x y H Q ∨ (rI (fun _ j => j ≠ 0) fun i j => .int (i.fmod j)) x y H Q) oMod := by
  intro B ρ σ H x y vx vy Q S rx ry h
  cases rx <;> cases ry <;> first | exact False.elim h | skip
  case int.int i j =>
    replace h : GM X.K X.mg W B ρ σ H (if decide (j ≠ 0) then sOk (.int (fmodI i j)) else .bad) Q := h
    split at h
    · rename_i hm
      simp only [decide_eq_true_eq] at hm
      have q := GM.sc (d := .int _) h (.int _)
      unfold fmodI at q
      split at q
      · rename_i hj
        exact .inl ⟨i, j, rfl, rfl, hj, q⟩
      · exact .inr ⟨i, j, rfl, rfl, hm, q⟩
    · exact False.elim h
theorem om_pow : OpM X E W (rI CPow fun i j => .int (i ^ j.toNat)) oPow := by
  intro B ρ σ H x y vx vy Q S rx ry h
  cases rx <;> cases ry <;> first | exact False.elim h | skip
  case int.int i j =>
    replace h : GM X.K X.mg W B ρ σ H (if decide (0 ≤ j) && decide (j ≤ 1000000) && decide (i.natAbs < 18446744073709551616) then sOk (.int (i ^ j.toNat)) else .bad) Q := h
    split at h
    · rename_i hm
      simp only [Bool.and_eq_true, decide_eq_true_eq] at hm
      exact ⟨i, j, rfl, rfl, ⟨hm.1.1, hm.1.2, hm.2⟩, GM.sc (d := .int _) h (.int _)⟩
    · exact False.elim h
theorem om_shr : OpM X E W (rI (fun _ j => 0 ≤ j) fun i j => .int (i / 2 ^ j.toNat)) oShr := by
  intro B ρ σ H x y vx vy Q S rx ry h
  cases rx <;> cases ry <;> first | exact False.elim h | skip
  case int.int i j =>
    replace h : GM X.K X.mg W B ρ σ H (if decide (0 ≤ j) then sOk (.int (i / 2 ^ j.toNat)) else .bad) Q := h
    split at h
    · rename_i hm
      exact ⟨i, j, rfl, rfl, of_decide_eq_true hm, GM.sc (d := .int _) h (.int _)⟩
    · exact False.elim h
theorem pm_add (ha : PM X E W a ma) (hb : PM X E W b mb) : PM X E W (.BinOp a .Add b pos) (mB oAdd ma mb) := pm_bin (OpR.or (OpR.or op_add op_add_str) (OpR.or op_cat op_catA)) om_add ha hb
theorem pm_sub (ha : PM X E W a ma) (hb : PM X E W b mb) : PM X E W (.BinOp a .Sub b pos) (mB oSub ma mb) := pm_bin op_sub om_sub ha hb
theorem pm_mul (ha : PM X E W a ma) (hb : PM X E W b mb) : PM X E W (.BinOp a .Mult b pos) (mB oMul ma mb) := pm_bin (OpR.or (OpR.or (OpR.or op_mul op_mulW) op_mulS) op_rep) om_mul ha hb
theorem pm_fdiv (ha : PM X E W a ma) (hb : PM X E W b mb) : PM X E W (.BinOp a .FloorDiv b pos) (mB oFdiv ma mb) := pm_bin (OpR.or op_fdivW op_fdivX) om_fdiv ha hb
theorem pm_mod (ha : PM X E W a ma) (hb : PM X E W b mb) : PM X E W (.BinOp a .Mod b pos) (mB oMod ma mb) := pm_bin (OpR.or op_mod op_modN) om_mod ha hb
theorem pm_pow (ha : PM X E W a ma) (hb : PM X E W b mb) : PM X E W (.BinOp a .Pow b pos) (mB oPow ma mb) := pm_bin op_pow om_pow ha hb
theorem pm_shr (ha : PM X E W a ma) (hb : PM X E W b mb) : PM X E W (.BinOp a .RShift b pos) (mB oShr ma mb) := pm_bin op_shr om_shr ha hb
theorem pm_neg (ha : PM X E W a ma) : PM X E W (.UnaryOp .USub a pos) (mNeg ma) :=
  PE.imp (pe_un un_neg ha) fun σ H Q ⟨B, ρ, S, h⟩ => GM.bind S h fun x tx vx H1 rx e1 S1 h1 => by
    have rp := rx.rp S1
    cases rp <;> first | exact False.elim h1 | skip
    case int i => exact ⟨i, rfl, GM.sc (d := .int (-i)) h1 (.int _)⟩
end
end Dm
end

section
set_option Elab.async false
set_option linter.all false
set_option maxRecDepth 100000
set_option maxHeartbeats 4000000
/-! Dm: comparisons, tests, places, displays, calls. -/
namespace Dm
open PySem PySem.Spec L2 TL

mutual
def toP : D → PyData
  | .non => .none
  | .bl b => .bool b
  | .int i => .int i
  | .str s => .str ⟨s.toArray⟩
  | .seq .tup xs => .tuple (toPs xs)
  | .seq _ xs => .list (toPs xs)
  | .obj _ _ _ => .dict []
  | .dic _ _ => .dict []
  | .dit _ _ => .dict []
def toPs : List D → List PyData
  | [] => []
  | d :: ds => toP d :: toPs ds
end
theorem lay_dp : ∀ (n : Nat) (d : D), D.lay n d = true → (PyData.canLay0 (toP d) = true ∧ (toP d).depth ≤ n) := by
  intro n
  induction n with
  | zero =>
    intro d h
    cases d with
    | str s => exact ⟨by
        show (s.toArray.all (· < 0x110000)) = true
        have : s.all (fun x => decide (x < 1114112)) = true := h
        simpa using this, Nat.le_refl _⟩
    | seq k xs => exact absurd h (by simp [D.lay])
    | obj => exact absurd h (by simp [D.lay])
    | dic => exact absurd h (by simp [D.lay])
    | dit => exact absurd h (by simp [D.lay])
    | _ => exact ⟨rfl, Nat.le_refl _⟩
  | succ n ih =>
    intro d h
    cases d with
    | str s => exact ⟨by
        show (s.toArray.all (· < 0x110000)) = true
        have : s.all (fun x => decide (x < 1114112)) = true := h
        simpa using this, Nat.zero_le _⟩
    | seq k xs =>
      have h' : xs.all (D.lay n) = true := h
      have key : ∀ ys : List D, ys.all (D.lay n) = true → PyData.canLayAll0 (toPs ys) = true ∧ PyData.depthAll (toPs ys) ≤ n := by
        intro ys
        induction ys with
        | nil => exact fun _ => ⟨rfl, Nat.zero_le _⟩
        | cons y ys ihy =>
          intro hy
          rw [List.all_cons, Bool.and_eq_true] at hy
          obtain ⟨a1, a2⟩ := ih y hy.1
          obtain ⟨b1, b2⟩ := ihy hy.2
          refine ⟨?_, ?_⟩
          · show (PyData.canLay0 (toP y) && PyData.canLayAll0 (toPs ys)) = true
            rw [a1, b1]; rfl
          · show max (toP y).depth (PyData.depthAll (toPs ys)) ≤ n
            exact Nat.max_le.mpr ⟨a2, b2⟩
      obtain ⟨k1, k2⟩ := key xs h'
      cases k <;> exact ⟨k1, Nat.succ_le_succ k2⟩
    | obj => exact absurd h (by simp [D.lay])
    | dic => exact absurd h (by simp [D.lay])
    | dit => exact absurd h (by simp [D.lay])
    | _ => exact ⟨rfl, Nat.zero_le _⟩
theorem lay_shaped {n : Nat} {d : D} (h : D.lay n d = true) (hn : n ≤ 64) : SeqAt.shaped (toP d) = true := by
  obtain ⟨a, b⟩ := lay_dp n d h
  unfold SeqAt.shaped
  rw [a, decide_eq_true (Nat.le_trans b hn)]
  rfl
section
variable {K : PySem.W.Frag} {mg : Str → Option Value} {H : Hp}
theorem rep_dp : ∀ (n : Nat) (d : D) (v : V), D.lay n d = true → Rep K mg H d v → Dp K H v (toP d) := by
  intro n
  induction n with
  | zero =>
    intro d v h r
    cases r <;> first | exact .non | exact .bl _ | exact .int _ | exact .str _ | exact absurd h (by simp [D.lay])
  | succ n ih =>
    have key : ∀ (ds : List D) (vs : List V), ds.all (D.lay n) = true → Reps K mg H ds vs → DpAll K H vs (toPs ds) := by
      intro ds
      induction ds with
      | nil =>
        intro vs _ r
        cases r
        exact .nil
      | cons d ds ihd =>
        intro vs h r
        cases r with
        | cons r1 r2 =>
          rw [List.all_cons, Bool.and_eq_true] at h
          exact .cons (ih d _ h.1 r1) (ihd _ h.2 r2)
    intro d v h r
    cases r with
    | non => exact .non
    | bl b => exact .bl b
    | int i => exact .int i
    | str s => exact .str _
    | lst a r => exact .lst (.of a) (key _ _ h r)
    | rol a r => exact .lst a (key _ _ h r)
    | tup a r => exact .tup a (key _ _ h r)
    | obj => exact absurd h (by simp [D.lay])
    | dic => exact absurd h (by simp [D.lay])
    | dit => exact absurd h (by simp [D.lay])
end
theorem eqv_toP : ∀ (n : Nat) (x y : D), D.lay n x = true → D.lay n y = true → PyData.eqv (toP x) (toP y) = D.eqv x y := by
  intro n
  induction n with
  | zero =>
    intro x y hx hy
    cases x <;> cases y <;> first | (simp [D.lay] at hx; done) | (simp [D.lay] at hy; done) | skip
    case str.str s t =>
      simp only [toP, PyData.eqv, D.eqv]
      rw [Bool.eq_iff_iff]
      simp
    all_goals simp only [toP, PyData.eqv, D.eqv]
  | succ n ih =>
    have key : ∀ (xs ys : List D), xs.all (D.lay n) = true → ys.all (D.lay n) = true → PyData.eqvAll (toPs xs) (toPs ys) = D.eqvs xs ys := by
      intro xs
      induction xs with
      | nil => intro ys _ _; cases ys <;> simp only [toPs, PyData.eqvAll, D.eqvs]
      | cons x xs ihx =>
        intro ys hx hy
        cases ys with
        | nil => simp only [toPs, PyData.eqvAll, D.eqvs]
        | cons y ys =>
          rw [List.all_cons, Bool.and_eq_true] at hx hy
          simp only [toPs, PyData.eqvAll, D.eqvs]
          rw [ih x y hx.1 hy.1, ihx ys hx.2 hy.2]
    intro x y hx hy
    cases x with
    | obj => simp [D.lay] at hx
    | dic => simp [D.lay] at hx
    | dit => simp [D.lay] at hx
    | seq k xs =>
      cases y with
      | obj => simp [D.lay] at hy
      | dic => simp [D.lay] at hy
      | dit => simp [D.lay] at hy
      | seq l ys =>
        have e := key xs ys hx hy
        cases k <;> cases l <;> simp only [toP, PyData.eqv, D.eqv, e] <;> rfl
      | _ => cases k <;> simp only [toP, PyData.eqv, D.eqv]
    | str s =>
      cases y with
      | obj => simp [D.lay] at hy
      | dic => simp [D.lay] at hy
      | dit => simp [D.lay] at hy
      | seq l ys => cases l <;> simp only [toP, PyData.eqv, D.eqv]
      | str t =>
        simp only [toP, PyData.eqv, D.eqv]
        rw [Bool.eq_iff_iff]
        simp
      | _ => simp only [toP, PyData.eqv, D.eqv]
    | _ =>
      cases y with
      | obj => simp [D.lay] at hy
      | dic => simp [D.lay] at hy
      | dit => simp [D.lay] at hy
      | seq l ys => cases l <;> simp only [toP, PyData.eqv, D.eqv]
      | _ => simp only [toP, PyData.eqv, D.eqv]

section
variable {X : Cx} {E : ExE} {W : WX} {pos : Pos} {a b c : Expr} {ma mb mc : EM}
def CmpM (X : Cx) (E : ExE) (W : WX) (r : R2) (f : D → D → Res Bool) : Prop := ∀ (B : Bs) (ρ : Rho) (σ : St) (H : Hp) (x y : D) (vx vy : V) (Q : VK),
  SR X.K X.mg E B ρ σ H → RP X.K X.mg B ρ σ H x vx → RP X.K X.mg B ρ σ H y vy → (∀ k, f x y = .ok k → Q (.bl k) H) → (∃ k, f x y = .ok k) → r vx vy H Q
/-- f never raises -/
def Mild (f : D → D → Res Bool) : Prop := ∀ x y C, f x y ≠ .ex C
theorem pm_cmp {op : CmpOp} {r : R2} {f : D → D → Res Bool} (ho : OpR X (compareOp op) r) (hf : CmpM X E W r f) (hm : Mild f) (ha : PM X E W a ma) (hb : PM X E W b mb) (hb' : behindInMarks op b = false) :
    PM X E W (.Compare a [op] [b] pos) (mCmp f ma mb) :=
  PE.imp (pe_cmpR ho ha hb hb') fun σ H Q ⟨B, ρ, S, h⟩ =>
    GM.bind S h fun x tx vx H1 rx e1 S1 h1 => GM.bind S1 h1 fun y ty vy H2 ry e2 S2 h2 => by
      refine hf B ρ σ H2 x y vx vy Q S2 ((rx.rp S1).mono e2) (ry.rp S2) (fun k e => ?_) ?_
      · rw [e] at h2
        exact GM.sc (d := .bl k) h2 (.bl k)
      · cases e : f x y with
        | ok k => exact ⟨k, rfl⟩
        | ex C => exact absurd e (hm x y C)
        | bad =>
          rw [e] at h2
          exact False.elim h2
theorem mild_ok {f : D → D → Res Bool} {x y : D} {g : Bool → Res Val} {B : Bs} {ρ : Rho} {σ : St} {H : Hp} {Q : VK} (hm : Mild f) (h : GM X.K X.mg W B ρ σ H ((f x y).bind g) Q) : ∃ k, f x y = .ok k := by
  cases e : f x y with
  | ok k => exact ⟨k, rfl⟩
  | ex C => exact absurd e (hm x y C)
  | bad =>
    rw [e] at h
    exact False.elim h
theorem pm_chain {op op' : CmpOp} {r r' : R2} {f f' : D → D → Res Bool} (ho : OpR X (compareOp op) r) (ho' : OpR X (compareOp op') r') (hf : CmpM X E W r f) (hf' : CmpM X E W r' f') (hm : Mild f) (hm' : Mild f')
    (ha : PM X E W a ma) (hb : PM X E W b mb) (hc : PM X E W c mc) (hl : lastMarks [op, op'] [b, c] = false := by with_unfolding_all rfl) :
    PM X E W (.Compare a [op, op'] [b, c] pos) (mChain f f' ma mb mc) :=
  PE.imp (pe_chain ho ho' ha hb hc hl) fun σ H Q ⟨B, ρ, S, h⟩ =>
    GM.bind S h fun x tx vx H1 rx e1 S1 h1 => GM.bind S1 h1 fun y ty vy H2 ry e2 S2 h2 => by
      refine hf B ρ σ H2 x y vx vy _ S2 ((rx.rp S1).mono e2) (ry.rp S2) (fun k e => ⟨k, rfl, ?_⟩) (mild_ok hm h2)
      rw [e] at h2
      cases k with
      | false => exact GM.sc (d := .bl false) h2 (.bl false)
      | true =>
        refine GM.bind S2 h2 fun z tz vz H3 rz e3 S3 h3 => ?_
        refine hf' B ρ σ H3 y z vy vz Q S3 ((ry.rp S2).mono e3) (rz.rp S3) (fun l e => ?_) (mild_ok hm' h3)
        rw [e] at h3
        exact GM.sc (d := .bl l) h3 (.bl l)

/-! the single comparisons -/
theorem mild_lt : Mild cLt := fun x y C => by cases x <;> cases y <;> simp [cLt]
theorem mild_le : Mild cLe := fun x y C => by cases x <;> cases y <;> simp [cLe]
theorem mild_gt : Mild cGt := fun x y C => by cases x <;> cases y <;> simp [cGt]
theorem mild_ge : Mild cGe := fun x y C => by cases x <;> cases y <;> simp [cGe]
theorem mild_eq : Mild cEq := fun x y C => by
  unfold cEq dEqB
  split
  · simp
  · split <;> simp
theorem mild_ne : Mild cNe := fun x y C => by
  have := mild_eq x y
  unfold cNe
  unfold cEq at this
  cases e : dEqB x y with
  | ok k => simp
  | ex C' => exact absurd e (this C')
  | bad => simp
theorem mild_isN : Mild cIsN := fun x y C => by cases y <;> simp [cIsN]
theorem mild_notN : Mild cNotN := fun x y C => by cases y <;> simp [cNotN]
theorem mild_in : Mild cIn := fun x y C => by
  unfold cIn
  split
  · simp
  · split <;> simp
  · simp
theorem mild_notIn : Mild cNotIn := fun x y C => by
  have := mild_in x y
  unfold cNotIn
  cases e : cIn x y with
  | ok k => simp
  | ex C' => exact absurd e (this C')
  | bad => simp

theorem cm_lt : CmpM X E W (fun x y H Q => (rI0 fun i j => .bl (decide (i < j))) x y H Q ∨ ∃ i j, x = .str i ∧ y = .str j ∧ Q (.bl (decide (i.cps.toList < j.cps.toList))) H) cLt := by
  intro B ρ σ H x y vx vy Q S rx ry hq ok
  obtain ⟨k, e⟩ := ok
  cases rx <;> cases ry <;> first | (cases e; done) | skip
  case int.int i j => exact .inl ⟨i, j, rfl, rfl, hq _ rfl⟩
  case str.str i j => exact .inr ⟨_, _, rfl, rfl, hq _ rfl⟩
theorem cm_le : CmpM X E W (fun x y H Q => (rI0 fun i j => .bl (decide (i ≤ j))) x y H Q ∨ ∃ i j, x = .str i ∧ y = .str j ∧ Q (.bl (!decide (j.cps.toList < i.cps.toList))) H) cLe := by
  intro B ρ σ H x y vx vy Q S rx ry hq ok
  obtain ⟨k, e⟩ := ok
  cases rx <;> cases ry <;> first | (cases e; done) | skip
  case int.int i j => exact .inl ⟨i, j, rfl, rfl, hq _ rfl⟩
  case str.str i j => exact .inr ⟨_, _, rfl, rfl, hq _ rfl⟩
theorem cm_gt : CmpM X E W (fun x y H Q => (rI0 fun i j => .bl (decide (j < i))) x y H Q ∨ ∃ i j, x = .str i ∧ y = .str j ∧ Q (.bl (decide (j.cps.toList < i.cps.toList))) H) cGt := by
  intro B ρ σ H x y vx vy Q S rx ry hq ok
  obtain ⟨k, e⟩ := ok
  cases rx <;> cases ry <;> first | (cases e; done) | skip
  case int.int i j => exact .inl ⟨i, j, rfl, rfl, hq _ rfl⟩
  case str.str i j => exact .inr ⟨_, _, rfl, rfl, hq _ rfl⟩
theorem cm_ge : CmpM X E W (fun x y H Q => (rI0 fun i j => .bl (decide (j ≤ i))) x y H Q ∨ ∃ i j, x = .str i ∧ y = .str j ∧ Q (.bl (!decide (i.cps.toList < j.cps.toList))) H) cGe := by
  intro B ρ σ H x y vx vy Q S rx ry hq ok
  obtain ⟨k, e⟩ := ok
  cases rx <;> cases ry <;> first | (cases e; done) | skip
  case int.int i j => exact .inl ⟨i, j, rfl, rfl, hq _ rfl⟩
  case str.str i j => exact .inr ⟨_, _, rfl, rfl, hq _ rfl⟩
theorem str_eq_iff (s t : List Nat) : ((⟨s.toArray⟩ : Str) = ⟨t.toArray⟩) ↔ s = t := by
  constructor
  · intro h
    have := congrArg (fun z : Str => z.cps.toList) h
    simpa using this
  · intro h
    rw [h]
theorem eqS_ok {x y : D} {vx vy : V} {k : Bool} {B : Bs} {ρ : Rho} {σ : St} {H : Hp} (rx : RP X.K X.mg B ρ σ H x vx) (ry : RP X.K X.mg B ρ σ H y vy) (e : dEqS x y = some k) : scal vx vy = true ∧ decide (vx = vy) = k := by
  cases rx <;> cases ry <;> first | (cases e; done) | skip
  all_goals (cases e; refine ⟨rfl, ?_⟩; first | rfl | (simp only [V.str.injEq, str_eq_iff, V.int.injEq, V.bl.injEq]; rw [Bool.eq_iff_iff]; simp) | simp)
theorem eq_cases {x y : D} {k : Bool} (e : dEqB x y = .ok k) : dEqS x y = some k ∨ (D.lay 12 x = true ∧ D.lay 12 y = true ∧ D.eqv x y = k) := by
  unfold dEqB at e
  split at e
  · rename_i b hb
    cases e
    exact .inl hb
  · split at e
    · rename_i hl
      rw [Bool.and_eq_true] at hl
      cases e
      exact .inr ⟨hl.1, hl.2, rfl⟩
    · cases e
theorem cm_eq : CmpM X E W (fun x y H Q => rEq x y H Q ∨ rEqD X.K x y H Q) cEq := by
  intro B ρ σ H x y vx vy Q S rx ry hq ok
  obtain ⟨k, e⟩ := ok
  have q := hq k e
  rcases eq_cases e with e1 | ⟨l1, l2, e1⟩
  · obtain ⟨h1, h2⟩ := eqS_ok rx ry e1
    rw [← h2] at q
    exact .inl ⟨h1, q⟩
  · rw [← e1, ← eqv_toP 12 x y l1 l2] at q
    exact .inr ⟨toP x, toP y, rep_dp 12 x vx l1 (rx.rep S), rep_dp 12 y vy l2 (ry.rep S), lay_shaped l1 (by decide), lay_shaped l2 (by decide), q⟩
theorem cm_ne : CmpM X E W (fun x y H Q => rNe x y H Q ∨ rNeD X.K x y H Q) cNe := by
  intro B ρ σ H x y vx vy Q S rx ry hq ok
  have : ∃ k, dEqB x y = .ok k := by
    obtain ⟨k, e⟩ := ok
    unfold cNe at e
    cases e' : dEqB x y with
    | ok k => exact ⟨k, rfl⟩
    | ex C => rw [e'] at e; cases e
    | bad => rw [e'] at e; cases e
  obtain ⟨k, e⟩ := this
  have q := hq (!k) (by unfold cNe; rw [e]; rfl)
  rcases eq_cases e with e1 | ⟨l1, l2, e1⟩
  · obtain ⟨h1, h2⟩ := eqS_ok rx ry e1
    rw [← h2] at q
    exact .inl ⟨h1, q⟩
  · rw [← e1, ← eqv_toP 12 x y l1 l2] at q
    exact .inr ⟨toP x, toP y, rep_dp 12 x vx l1 (rx.rep S), rep_dp 12 y vy l2 (ry.rep S), lay_shaped l1 (by decide), lay_shaped l2 (by decide), q⟩
theorem cm_isN : CmpM X E W (fun x y H Q => y = .non ∧ Q (.bl (decide (x = .non))) H) cIsN := by
  intro B ρ σ H x y vx vy Q S rx ry hq ok
  obtain ⟨k, e⟩ := ok
  cases ry <;> first | (cases e; done) | skip
  refine ⟨rfl, ?_⟩
  have q := hq k e
  cases rx <;> cases e <;> first | exact q | (rename_i r; cases r <;> exact q)
theorem cm_notN : CmpM X E W (fun x y H Q => y = .non ∧ Q (.bl (!decide (x = .non))) H) cNotN := by
  intro B ρ σ H x y vx vy Q S rx ry hq ok
  obtain ⟨k, e⟩ := ok
  cases ry <;> first | (cases e; done) | skip
  refine ⟨rfl, ?_⟩
  have q := hq k e
  cases rx <;> cases e <;> first | exact q | (rename_i r; cases r <;> exact q)
theorem sc_flat {x : D} {vx : V} {G : Hp} (r : Rep X.K X.mg G x vx) (h : x.sc = true) : flatV vx = true := by
  cases r <;> first | rfl | (cases h; done)
theorem scs_flat : ∀ {xs : List D} {vs : List V} {G : Hp}, Reps X.K X.mg G xs vs → xs.all D.sc = true → vs.all flatV = true
  | _, _, _, .nil, _ => rfl
  | _, _, _, .cons r t, h => by
    rw [List.all_cons, Bool.and_eq_true] at h ⊢
    exact ⟨sc_flat r h.1, scs_flat t h.2⟩
theorem eqV_eqv {x y : D} {vx vy : V} {G : Hp} (rx : Rep X.K X.mg G x vx) (ry : Rep X.K X.mg G y vy) (hx : x.sc = true) (hy : y.sc = true) : eqV vy vx = D.eqv y x := by
  cases rx <;> cases ry <;> first | (cases hx; done) | (cases hy; done) | skip
  case str.str s t =>
    simp only [eqV, D.eqv]
    rw [Bool.eq_iff_iff]
    simp only [beq_iff_eq, str_eq_iff]
  all_goals simp only [eqV, D.eqv]
theorem inV_inB {x : D} {vx : V} {G : Hp} (rx : Rep X.K X.mg G x vx) (hx : x.sc = true) : ∀ {xs : List D} {vs : List V}, Reps X.K X.mg G xs vs → xs.all D.sc = true → inV vx vs = inB x xs
  | _, _, .nil, _ => rfl
  | _, _, .cons r t, h => by
    rw [List.all_cons, Bool.and_eq_true] at h
    have ih := inV_inB rx hx t h.2
    unfold inV inB at ih ⊢
    rw [List.any_cons, List.any_cons, ih, eqV_eqv rx r hx h.1]
theorem lays_any {n : Nat} {x : D} (hx : D.lay n x = true) : ∀ {xs : List D}, xs.all (D.lay n) = true → ((toPs xs).any fun z => PyData.eqv z (toP x)) = inB x xs
  | [], _ => rfl
  | y :: ys, h => by
    rw [List.all_cons, Bool.and_eq_true] at h
    have ih := lays_any hx h.2
    unfold inB at ih ⊢
    simp only [toPs, List.any_cons]
    rw [ih, eqv_toP n y x h.1 hx]
theorem cm_in0 (neg : Bool) {x y : D} {vx vy : V} {Q : VK} {k : Bool} {B : Bs} {ρ : Rho} {σ : St} {H : Hp} (S : SR X.K X.mg E B ρ σ H) (rx : RP X.K X.mg B ρ σ H x vx) (ry : RP X.K X.mg B ρ σ H y vy) (e : cIn x y = .ok k) (q : Q (.bl (if neg then !k else k)) H) :
    (∃ (c : Nat) (z : Str), vx = .str ⟨#[c]⟩ ∧ vy = .str z ∧ Q (.bl (if neg then !decide (c ∈ z.cps.toList) else decide (c ∈ z.cps.toList))) H) ∨ (rIn X.K neg vx vy H Q ∨
      (∃ d ds, Dp X.K H vx d ∧ Dp X.K H vy (.list ds) ∧ SeqAt.shaped d = true ∧ SeqAt.shaped (.list ds) = true ∧ Q (.bl (if neg then !ds.any fun z => PyData.eqv z d else ds.any fun z => PyData.eqv z d)) H)) := by
  have fin : ∀ (kd : SK) (xs : List D), y = .seq kd xs → (if (x.sc && xs.all D.sc) || (!(kd == .tup) && D.lay 11 x && xs.all (D.lay 11)) then (.ok (inB x xs) : Res Bool) else .bad) = .ok k →
      (rIn X.K neg vx vy H Q ∨ (∃ d ds, Dp X.K H vx d ∧ Dp X.K H vy (.list ds) ∧ SeqAt.shaped d = true ∧ SeqAt.shaped (.list ds) = true ∧ Q (.bl (if neg then !ds.any fun z => PyData.eqv z d else ds.any fun z => PyData.eqv z d)) H)) := by
    intro kd xs ey e1
    subst ey
    split at e1
    · rename_i hc
      cases e1
      rw [Bool.or_eq_true, Bool.and_eq_true, Bool.and_eq_true, Bool.and_eq_true] at hc
      have rx' := rx.rep S
      have rp := ry.rep S
      rcases hc with ⟨h1, h2⟩ | ⟨⟨h0, h1⟩, h2⟩
      · refine .inl ?_
        have key : ∀ (p : Addr) (vs : List V), vy = .ref p → (SqL X.K H p vs ∨ SqT X.K H p vs) → Reps X.K X.mg H xs vs → rIn X.K neg vx vy H Q := fun p vs ep hp r =>
          ⟨p, vs, ep, hp, sc_flat rx' h1, scs_flat r h2, by rw [inV_inB rx' h1 r h2]; exact q⟩
        cases rp with
        | lst a r => exact key _ _ rfl (.inl (.of a)) r
        | rol a r => exact key _ _ rfl (.inl a) r
        | tup a r => exact key _ _ rfl (.inr a) r
      · refine .inr ⟨toP x, toPs xs, rep_dp 11 x vx h1 rx', ?_, lay_shaped h1 (by decide), ?_, by rw [lays_any h1 h2]; exact q⟩
        · have hl : D.lay 12 (.seq kd xs) = true := h2
          have := rep_dp 12 _ vy hl rp
          cases kd with
          | tup => cases h0
          | lst => exact this
          | rol => exact this
        · have hl : D.lay 12 (.seq .lst xs) = true := h2
          exact lay_shaped hl (by decide)
    · cases e1
  unfold cIn at e
  split at e
  · rename_i c t
    cases e
    cases rx
    cases ry
    refine .inl ⟨c, _, rfl, rfl, ?_⟩
    exact q
  · rename_i kd xs hne
    exact .inr (fin _ _ rfl e)
  · cases e
theorem cm_in : CmpM X E W (fun x y H Q => (∃ (c : Nat) (z : Str), x = .str ⟨#[c]⟩ ∧ y = .str z ∧ Q (.bl (decide (c ∈ z.cps.toList))) H) ∨ (rIn X.K false x y H Q ∨ rInD X.K x y H Q)) cIn := by
  intro B ρ σ H x y vx vy Q S rx ry hq ok
  obtain ⟨k, e⟩ := ok
  exact cm_in0 false S rx ry e (hq k e)
theorem cm_notIn : CmpM X E W (fun x y H Q => (∃ (c : Nat) (z : Str), x = .str ⟨#[c]⟩ ∧ y = .str z ∧ Q (.bl (!decide (c ∈ z.cps.toList))) H) ∨ (rIn X.K true x y H Q ∨ rNotInD X.K x y H Q)) cNotIn := by
  intro B ρ σ H x y vx vy Q S rx ry hq ok
  have : ∃ k, cIn x y = .ok k := by
    obtain ⟨k, e⟩ := ok
    unfold cNotIn at e
    cases e' : cIn x y with
    | ok k => exact ⟨k, rfl⟩
    | ex C => rw [e'] at e; cases e
    | bad => rw [e'] at e; cases e
  obtain ⟨k, e⟩ := this
  exact cm_in0 true S rx ry e (hq (!k) (by unfold cNotIn; rw [e]; rfl))
theorem pm_lt (ha : PM X E W a ma) (hb : PM X E W b mb) : PM X E W (.Compare a [.Lt] [b] pos) (mCmp cLt ma mb) := pm_cmp (OpR.or op_lt op_lt_str) cm_lt mild_lt ha hb (nomark _)
theorem pm_le (ha : PM X E W a ma) (hb : PM X E W b mb) : PM X E W (.Compare a [.LtE] [b] pos) (mCmp cLe ma mb) := pm_cmp (OpR.or op_le op_le_str) cm_le mild_le ha hb (nomark _)
theorem pm_gt (ha : PM X E W a ma) (hb : PM X E W b mb) : PM X E W (.Compare a [.Gt] [b] pos) (mCmp cGt ma mb) := pm_cmp (OpR.or op_gt op_gt_str) cm_gt mild_gt ha hb (nomark _)
theorem pm_ge (ha : PM X E W a ma) (hb : PM X E W b mb) : PM X E W (.Compare a [.GtE] [b] pos) (mCmp cGe ma mb) := pm_cmp (OpR.or op_ge op_ge_str) cm_ge mild_ge ha hb (nomark _)
theorem pm_eq (hu : X.A.units + 64 < cLine) (ha : PM X E W a ma) (hb : PM X E W b mb) : PM X E W (.Compare a [.Eq] [b] pos) (mCmp cEq ma mb) := pm_cmp (OpR.or op_eq (op_eqD hu)) cm_eq mild_eq ha hb (nomark _)
theorem pm_ne (hu : X.A.units + 64 < cLine) (ha : PM X E W a ma) (hb : PM X E W b mb) : PM X E W (.Compare a [.NotEq] [b] pos) (mCmp cNe ma mb) := pm_cmp (OpR.or op_ne (op_neD hu)) cm_ne mild_ne ha hb (nomark _)
theorem pm_isN (ha : PM X E W a ma) (hb : PM X E W b mb) : PM X E W (.Compare a [.Is] [b] pos) (mCmp cIsN ma mb) := pm_cmp op_isN cm_isN mild_isN ha hb (nomark _)
theorem pm_notN (ha : PM X E W a ma) (hb : PM X E W b mb) : PM X E W (.Compare a [.IsNot] [b] pos) (mCmp cNotN ma mb) := pm_cmp op_notN cm_notN mild_notN ha hb (nomark _)
theorem pm_in (hu : X.A.units + 65 < cLine) (ha : PM X E W a ma) (hb : PM X E W b mb) (hm : behindInMarks .In b = false := by rfl) : PM X E W (.Compare a [.In] [b] pos) (mCmp cIn ma mb) := pm_cmp (OpR.or op_in_sign (OpR.or op_in_seq (op_inD hu))) cm_in mild_in ha hb hm
theorem pm_notIn (hu : X.A.units + 65 < cLine) (ha : PM X E W a ma) (hb : PM X E W b mb) (hm : behindInMarks .NotIn b = false := by rfl) : PM X E W (.Compare a [.NotIn] [b] pos) (mCmp cNotIn ma mb) := pm_cmp (OpR.or op_notIn_sign (OpR.or op_notIn_seq (op_notInD hu))) cm_notIn mild_notIn ha hb hm
end
end Dm
end

section
set_option Elab.async false
set_option linter.all false
set_option maxRecDepth 100000
set_option maxHeartbeats 4000000
/-! Dm: tests, places, displays, calls. -/
namespace Dm
open PySem PySem.Spec L2 TL

/-- what is wanted of a result: P of a value; a raise is taken -/
def GG {α : Type} (mg : Str → Option Value) (W : WX) (σ : St) (H : Hp) (P : α → Prop) : Res α → Prop
  | .ok a => P a
  | .ex C => ∀ H', Same H H' → W (clsV mg C) none σ H'
  | .bad => False
section
variable {K : PySem.W.Frag} {mg : Str → Option Value} {E : ExE} {W : WX} {B : Bs} {ρ : Rho} {σ : St} {H H1 H2 : Hp} {d : D} {t : Tg} {v : V} {Q : VK} {α β : Type}
theorem GG.mono {P P' : α → Prop} {r : Res α} (h : GG mg W σ H P r) (e : Same H H1) (k : ∀ a, P a → P' a) : GG mg W σ H1 P' r := by
  cases r with
  | ok a => exact k a h
  | ex C => exact fun H' e' => h H' (e.trans e')
  | bad => exact h
abbrev PV (K : PySem.W.Frag) (mg : Str → Option Value) (B : Bs) (ρ : Rho) (σ : St) (H : Hp) (Q : VK) : Val → Prop := fun x => ∀ v H', Same H H' → RT K mg B ρ σ H H' x.1 x.2 v → Q v H'
theorem GM.gg {r : Res Val} (h : GM K mg W B ρ σ H r Q) : GG mg W σ H (PV K mg B ρ σ H Q) r := by
  cases r with
  | ok x => exact h
  | ex C => exact h
  | bad => exact h
theorem GG.gm {r : Res Val} (h : GG mg W σ H (PV K mg B ρ σ H Q) r) : GM K mg W B ρ σ H r Q := by
  cases r with
  | ok x => exact h
  | ex C => exact h
  | bad => exact h
theorem GG.bindE {m : EM} {f : Val → Res α} {P : α → Prop} {R : VK} (S : SR K mg E B ρ σ H) (h : GG mg W σ H P ((m ρ).bind f))
    (k : ∀ (d : D) (t : Tg) (v : V) (H1 : Hp), RT K mg B ρ σ H H1 d t v → Same H H1 → SR K mg E B ρ σ H1 → GG mg W σ H P (f (d, t)) → R v H1) : tE K mg E W m σ H R := by
  refine ⟨B, ρ, S, ?_⟩
  cases e : m ρ with
  | ok x =>
    rw [e] at h
    exact fun v H' s r => k x.1 x.2 v H' r s (S.mono s) h
  | ex C =>
    rw [e] at h
    exact h
  | bad =>
    rw [e] at h
    exact h
/-! tests -/
def tT (K : PySem.W.Frag) (mg : Str → Option Value) (E : ExE) (W : WX) (m : TM) : TT := fun σ H Q => ∃ B ρ, SR K mg E B ρ σ H ∧ GG mg W σ H (fun b => ∀ H', Same H H' → Q b H') (m ρ)
abbrev PMT (X : Cx) (E : ExE) (W : WX) (e : Expr) (m : TM) : Prop := PT X e (tT X.K X.mg E W m)
abbrev PMW (X : Cx) (E : ExE) (W : WX) (e : Expr) (m : TM) : Prop := PW X e (tT X.K X.mg E W m)
theorem GG.bindT {m : TM} {f : Bool → Res α} {P : α → Prop} {R : Bool → Hp → Prop} (S : SR K mg E B ρ σ H) (h : GG mg W σ H P ((m ρ).bind f))
    (k : ∀ (b : Bool) (H1 : Hp), Same H H1 → SR K mg E B ρ σ H1 → GG mg W σ H P (f b) → R b H1) : tT K mg E W m σ H R := by
  refine ⟨B, ρ, S, ?_⟩
  cases e : m ρ with
  | ok x =>
    rw [e] at h
    exact fun H' s => k x H' s (S.mono s) h
  | ex C =>
    rw [e] at h
    exact h
  | bad =>
    rw [e] at h
    exact h
end
section
variable {X : Cx} {E : ExE} {W : WX} {pos : Pos} {a b c : Expr} {ma mb mc : EM} {es : List Expr}
theorem isB_bl {d : D} {α : Type} {σ : St} {H : Hp} {P : α → Prop} {f : Bool → Res α} {B : Bs} {ρ : Rho} {v : V} (r : RP X.K X.mg B ρ σ H d v) (h : GG X.mg W σ H P (d.isB.bind f)) : ∃ k, v = .bl k ∧ GG X.mg W σ H P (f k) := by
  cases r <;> first | exact False.elim h | skip
  case bl k => exact ⟨k, rfl, h⟩
/-- an expression that gives a truth, as a test -/
theorem pmt_val (ha : PM X E W a ma) (he : ∀ whole, isTrue a X.env whole = (do let v ← whole; standAt a.pos; holding [v] (truthy v)) := by intro _; rfl) : PMT X E W a (mTB ma) :=
  PT.imp (pt_val ha he) fun σ H Q ⟨B, ρ, S, h⟩ => GG.bindE S h fun x tx vx H1 rx e1 S1 h1 => by
    have rp := rx.rp S1
    cases rp <;> first | exact False.elim h1 | skip
    case bl k => exact ⟨k, rfl, h1 H1 e1⟩
theorem len_sne (s : List Nat) : (((⟨s.toArray⟩ : Str).length : Int) != 0) = !s.isEmpty := by
  cases s with
  | nil => rfl
  | cons c s =>
    have h : ((⟨(c :: s).toArray⟩ : Str).length : Int) = (s.length : Int) + 1 := by
      rw [str_len, List.length_cons]
      omega
    rw [h]
    simp only [List.isEmpty_cons, Bool.not_false, bne_iff_ne, ne_eq]
    omega
theorem emp_rep {K : PySem.W.Frag} {mg : Str → Option Value} {G : Hp} {ds : List D} {vs : List V} (r : Reps K mg G ds vs) : (!vs.isEmpty) = !ds.isEmpty := by
  cases r <;> rfl
/-- an expression of any kind as a test -/
theorem pmt_tru (ha : PM X E W a ma) (he : ∀ whole, isTrue a X.env whole = (do let v ← whole; standAt a.pos; holding [v] (truthy v)) := by intro _; rfl) : PMT X E W a (mT ma) :=
  PT.imp (pt_truth ha he) fun σ H Q ⟨B, ρ, S, h⟩ => GG.bindE S h fun x tx vx H1 rx e1 S1 h1 => by
    have rp := rx.rp S1
    cases rp <;> first | exact False.elim h1 | skip
    case non => exact ⟨false, rfl, h1 H1 e1⟩
    case bl k => exact ⟨k, rfl, h1 H1 e1⟩
    case int i => exact ⟨_, rfl, h1 H1 e1⟩
    case str s =>
      have h1' : GG X.mg W σ H (fun b => ∀ H', Same H H' → Q b H') (if s.length ≤ lim then .ok (!s.isEmpty) else .bad) := h1
      split at h1'
      · rename_i hl
        exact ⟨!s.isEmpty, ⟨Nat.le_trans hl lim_le, (len_sne s).symm⟩, h1' H1 e1⟩
      · exact False.elim h1'
    case lst a ds vs hv r => exact ⟨_, .inl ⟨vs, .of hv, (emp_rep r).symm⟩, h1 H1 e1⟩
    case rol a ds vs hv r => exact ⟨_, .inl ⟨vs, hv, (emp_rep r).symm⟩, h1 H1 e1⟩
    case tup a ds vs hv r => exact ⟨_, .inr (.inl ⟨vs, same_tup S1.sub hv, (emp_rep r).symm⟩), h1 H1 e1⟩
variable {ta tb : TM}
theorem pmw_and1 (hb : PMT X E W b tb) : PMW X E W (.BoolOp .And [b] pos) tb := pw_and1 hb
theorem pmw_or1 (hb : PMT X E W b tb) : PMW X E W (.BoolOp .Or [b] pos) tb := pw_or1 hb
theorem pmw_and (ha : PMT X E W a ta) (hb : PMW X E W (.BoolOp .And (b :: es) pos) tb) : PMW X E W (.BoolOp .And (a :: b :: es) pos) (tmAnd ta tb) :=
  PW.imp (pw_and ha hb) fun σ H Q ⟨B, ρ, S, h⟩ => GG.bindT S h fun k H1 e1 S1 h1 => by
    cases k with
    | true => exact iteT ⟨B, ρ, S1, GG.mono h1 e1 fun b q H' e' => q H' (e1.trans e')⟩
    | false => exact iteF (h1 H1 e1)
theorem pmw_or (ha : PMT X E W a ta) (hb : PMW X E W (.BoolOp .Or (b :: es) pos) tb) : PMW X E W (.BoolOp .Or (a :: b :: es) pos) (tmOr ta tb) :=
  PW.imp (pw_or ha hb) fun σ H Q ⟨B, ρ, S, h⟩ => GG.bindT S h fun k H1 e1 S1 h1 => by
    cases k with
    | true => exact iteT (h1 H1 e1)
    | false => exact iteF ⟨B, ρ, S1, GG.mono h1 e1 fun b q H' e' => q H' (e1.trans e')⟩
theorem pmt_w (h : PMW X E W a ta) : PMT X E W a ta := PW.pt h
theorem pmt_not (ha : PMT X E W a ta) : PMT X E W (.UnaryOp .Not a pos) (tmNot ta) :=
  PT.imp (pt_not ha) fun σ H Q ⟨B, ρ, S, h⟩ => GG.bindT S h fun k H1 e1 S1 h1 => h1 H1 e1
/-! values by tests -/
theorem pm_one {op} (hb : PM X E W b mb) : PM X E W (.BoolOp op [b] pos) mb := pe_one hb
theorem pm_and (ha : PM X E W a ma) (hb : PM X E W (.BoolOp .And (b :: es) pos) mb) : PM X E W (.BoolOp .And (a :: b :: es) pos) (mAnd ma mb) :=
  PE.imp (pe_and ha hb) fun σ H Q ⟨B, ρ, S, h⟩ => GM.bind S h fun x tx vx H1 rx e1 S1 h1 => by
    obtain ⟨k, rfl, h2⟩ := isB_bl (rx.rp S1) h1.gg
    refine ⟨k, rfl, ?_⟩
    cases k with
    | true => exact iteT ⟨B, ρ, S1, GG.gm h2⟩
    | false => exact iteF (GM.sc (d := .bl false) (GG.gm h2) (.bl false))
theorem pm_or (ha : PM X E W a ma) (hb : PM X E W (.BoolOp .Or (b :: es) pos) mb) : PM X E W (.BoolOp .Or (a :: b :: es) pos) (mOr ma mb) :=
  PE.imp (pe_or ha hb) fun σ H Q ⟨B, ρ, S, h⟩ => GM.bind S h fun x tx vx H1 rx e1 S1 h1 => by
    obtain ⟨k, rfl, h2⟩ := isB_bl (rx.rp S1) h1.gg
    refine ⟨k, rfl, ?_⟩
    cases k with
    | true => exact iteT (GM.sc (d := .bl true) (GG.gm h2) (.bl true))
    | false => exact iteF ⟨B, ρ, S1, GG.gm h2⟩
theorem pm_not (ha : PM X E W a ma) : PM X E W (.UnaryOp .Not a pos) (mNot ma) :=
  PE.imp (pe_not ha) fun σ H Q ⟨B, ρ, S, h⟩ => GM.bind S h fun x tx vx H1 rx e1 S1 h1 => by
    obtain ⟨k, rfl, h2⟩ := isB_bl (rx.rp S1) h1.gg
    exact ⟨k, rfl, GM.sc (d := .bl (!k)) (GG.gm h2) (.bl _)⟩
theorem pm_if (hc : PMT X E W c ta) (ha : PM X E W a ma) (hb : PM X E W b mb) : PM X E W (.IfExp c a b pos) (mIf ta ma mb) :=
  PE.imp (pe_ifExp hc ha hb) fun σ H Q ⟨B, ρ, S, h⟩ => GG.bindT S h.gg fun k H1 e1 S1 h1 => by
    have h2 : GM X.K X.mg W B ρ σ H1 (if k = true then ma ρ else mb ρ) Q := GM.mono (GG.gm h1) e1
    cases k with
    | true => exact iteT ⟨B, ρ, S1, h2⟩
    | false => exact iteF ⟨B, ρ, S1, h2⟩
/-! ### places -/
theorem pm_ix (ha : PM X E W a ma) (hb : PM X E W b mb) (hs : PlainIx b := by intro _ _; rfl) : PM X E W (.Subscript a b pos) (mIx ma mb) :=
  PE.imp (pe_ix ix_seq ha hb hs) fun σ H Q ⟨B, ρ, S, h⟩ => GM.bind S h fun x tx vx H1 rx e1 S1 h1 => GM.bind S1 h1 fun y ty vy H2 ry e2 S2 h2 => by
    have rpx := (rx.rp S1).mono e2
    have rpy := ry.rp S2
    have key : ∀ (ds : List D) (vs : List V) (i : Int) (k : SK), x = .seq k ds → y = .int i → Reps X.K X.mg (ar B ρ σ H2) ds vs → ∃ v, Dm.atI vs i = some v ∧ Q v H2 := by
      intro ds vs i k ex ey r
      subst ex ey
      have h3 : GM X.K X.mg W B ρ σ H2 ((match Dm.atI ds i with | some d => Res.ok d | none => Res.bad).bind fun d => .ok (d, .cl)) Q := h2
      cases e : Dm.atI ds i with
      | none =>
        rw [e] at h3
        exact False.elim h3
      | some d =>
        rw [e] at h3
        unfold Dm.atI at e
        cases ej : Dm.ixN ds.length i with
        | none => rw [ej] at e; cases e
        | some j =>
          rw [ej] at e
          obtain ⟨v, hv, rv⟩ := r.get (show ds[j]? = some d from e)
          refine ⟨v, ?_, GM.pure h3 rv⟩
          unfold Dm.atI
          rw [← r.length, ej]
          exact hv
    cases rpx <;> cases rpy <;> first | exact False.elim h2 | skip
    case lst.int p ds vs hv r i =>
      obtain ⟨v, e, q⟩ := key _ _ _ _ rfl rfl r
      exact .inl ⟨p, vs, i, v, rfl, rfl, .of hv, e, q⟩
    case rol.int p ds vs hv r i =>
      obtain ⟨v, e, q⟩ := key _ _ _ _ rfl rfl r
      exact .inl ⟨p, vs, i, v, rfl, rfl, hv, e, q⟩
    case tup.int p ds vs hv r i =>
      obtain ⟨v, e, q⟩ := key _ _ _ _ rfl rfl r
      exact .inr (.inl ⟨p, vs, i, v, rfl, rfl, same_tup S2.sub hv, e, q⟩)
    case str.int s i =>
      have h3 : GM X.K X.mg W B ρ σ H2 ((if s.length ≤ lim then (match Dm.atI s i with | some c => Res.ok (D.str [c]) | none => .bad) else .bad).bind fun d => .ok (d, .cl)) Q := h2
      split at h3
      · rename_i hl
        cases e : Dm.atI s i with
        | none =>
          rw [e] at h3
          exact False.elim h3
        | some c =>
          rw [e] at h3
          exact .inr (.inr ⟨_, i, c, rfl, rfl, Nat.le_trans hl lim_le, e, GM.sc (d := .str [c]) h3 (.str [c])⟩)
      · exact False.elim h3
/-! slices -/
def tO (K : PySem.W.Frag) (mg : Str → Option Value) (E : ExE) (W : WX) (m : OM) : TO := fun σ H Q => ∃ B ρ, SR K mg E B ρ σ H ∧ GG mg W σ H (fun o => ∀ H', Same H H' → Q o H') (m ρ)
abbrev PMO (X : Cx) (E : ExE) (W : WX) (e : Option Expr) (m : OM) : Prop := PO X e (tO X.K X.mg E W m)
theorem PO.imp {X : Cx} {e : Option Expr} {t t' : TO} (h : PO X e t) (k : ∀ σ H Q, t' σ H Q → t σ H Q) : PO X e t' := ⟨fun pins s σ H Q I h' => h.run pins s σ H Q I (k σ H Q h')⟩
theorem pmo_none : PMO X E W none mNoP := PO.imp po_none fun σ H Q ⟨B, ρ, S, h⟩ => h H (Same.refl H)
theorem pmo_some (ha : PM X E W a ma) : PMO X E W (some a) (mPart ma) := PO.imp (po_some ha) fun σ H Q ⟨B, ρ, S, h⟩ => GG.bindE S h fun x tx vx H1 rx e1 S1 h1 => by
  have rp := rx.rp S1
  cases rp <;> first | exact False.elim h1 | skip
  case int i => exact ⟨i, rfl, h1 H1 e1⟩
theorem GG.bindO {K : PySem.W.Frag} {mg : Str → Option Value} {B : Bs} {ρ : Rho} {σ : St} {H : Hp} {α : Type} {m : OM} {f : Option Int → Res α} {P : α → Prop} {R : Option Int → Hp → Prop} (S : SR K mg E B ρ σ H) (h : GG mg W σ H P ((m ρ).bind f))
    (k : ∀ (b : Option Int) (H1 : Hp), Same H H1 → SR K mg E B ρ σ H1 → GG mg W σ H P (f b) → R b H1) : tO K mg E W m σ H R := by
  refine ⟨B, ρ, S, ?_⟩
  cases e : m ρ with
  | ok x =>
    rw [e] at h
    exact fun H' s => k x H' s (S.mono s) h
  | ex C =>
    rw [e] at h
    exact h
  | bad =>
    rw [e] at h
    exact h
theorem cutL_rep {K : PySem.W.Frag} {mg : Str → Option Value} {G : Hp} {ds : List D} {vs : List V} (r : Reps K mg G ds vs) (lo hi : Option Int) : Reps K mg G (cutL ds lo hi) (cutV vs lo hi) := by
  rw [← cutL_eq]
  unfold cutL
  rw [r.length]
  exact (r.drop _).take _
theorem cutS_eq (s : List Nat) (lo hi : Option Int) : cutS ⟨s.toArray⟩ lo hi = ⟨(cutL s lo hi).toArray⟩ := by
  unfold cutS cutL
  rw [sIx_eq, sIx_eq]
  rfl
theorem pm_cut {lo hi : Option Expr} {ml mh : OM} {p2 : Pos} (ha : PM X E W a ma) (hl : PMO X E W lo ml) (hh : PMO X E W hi mh) : PM X E W (.Subscript a (.Slice lo hi none p2) pos) (mCut ma ml mh) :=
  PE.imp (pe_slice (SlR.or sl_str (SlR.or sl_list sl_tup)) ha hl hh) fun σ H Q ⟨B, ρ, S, h⟩ => GM.bind S h fun x tx vx H1 rx e1 S1 h1 =>
    GG.bindO S1 h1.gg fun l H2 e2 S2 h2 => GG.bindO S2 (GG.mono h2 e2 fun _ q => q) fun u H3 e3 S3 h3 => by
      have rp := ((rx.rp S1).mono e2).mono e3
      have h4 : GM X.K X.mg W B ρ σ H3 (dCut x l u) Q := by
        have g : GG X.mg W σ H3 (PV X.K X.mg B ρ σ H1 Q) (dCut x l u) := GG.mono h3 e3 fun _ q => q
        have e13 : Same H1 H3 := e2.trans e3
        refine GG.gm (GG.mono g (Same.refl H3) fun a q v H' e' r => q v H' (e13.trans e') ?_)
        obtain ⟨d, t⟩ := a
        cases t with
        | cl => exact r
        | own i => exact r
        | fr =>
          obtain ⟨a, o, k, ds, vs, q1, q2, q3, q4, hk, q5⟩ := r
          exact ⟨a, o, k, ds, vs, q1, q2, e13.free q3, q4, hk, q5⟩
      cases rp <;> first | exact False.elim h4 | skip
      case str s =>
        have h5 : GM X.K X.mg W B ρ σ H3 (if s.length ≤ lim then .ok (.str (cutL s l u), .cl) else .bad) Q := h4
        split at h5
        · rename_i hl
          refine .inl ⟨_, rfl, Nat.le_trans hl lim_le, ?_⟩
          rw [cutS_eq]
          exact GM.sc (d := .str _) h5 (.str _)
        · exact False.elim h5
      case lst p ds vs hv r => exact .inr (.inl ⟨p, vs, rfl, .of hv, fun p hp => GM.fresh S3 h4 (cutL_rep r l u) hp⟩)
      case rol p ds vs hv r => exact .inr (.inl ⟨p, vs, rfl, hv, fun p hp => GM.fresh S3 h4 (cutL_rep r l u) hp⟩)
      case tup p ds vs hv r =>
        have h5 : GM X.K X.mg W B ρ σ H3 (if sIx ds.length 0 l = 0 ∧ sIx ds.length ds.length u = ds.length then .bad else .ok (.seq .tup (cutL ds l u), .cl)) Q := h4
        split at h5
        · exact False.elim h5
        · rename_i hn
          refine .inr (.inr ⟨p, vs, rfl, same_tup S3.sub hv, ?_, fun p hp => ?_⟩)
          · rw [← sIx_eq, ← sIx_eq, ← r.length]
            exact hn
          · exact h5 (.ref p) _ (Same.upd hp) (Rep.tup (.of (ar_at S3 hp)) ((cutL_rep r l u).mono (ar_mono (Same.upd hp))))
end
end Dm
end

section
set_option Elab.async false
set_option linter.all false
set_option maxRecDepth 100000
set_option maxHeartbeats 4000000
/-! Dm: displays, calls. -/
namespace Dm
open PySem PySem.Spec L2 TL

inductive RTs (K : PySem.W.Frag) (mg : Str → Option Value) (B : Bs) (ρ : Rho) (σ : St) (H H' : Hp) : List Val → List V → Prop
  | nil : RTs K mg B ρ σ H H' [] []
  | cons {x : Val} {v : V} {xs : List Val} {vs : List V} : RT K mg B ρ σ H H' x.1 x.2 v → RTs K mg B ρ σ H H' xs vs → RTs K mg B ρ σ H H' (x :: xs) (v :: vs)
section
variable {K : PySem.W.Frag} {mg : Str → Option Value} {E : ExE} {W : WX} {B : Bs} {ρ : Rho} {σ : St} {H H1 H2 : Hp} {d : D} {t : Tg} {v : V} {Q : VK} {α β : Type}
theorem RT.base (e : Same H H1) (r : RT K mg B ρ σ H1 H2 d t v) : RT K mg B ρ σ H H2 d t v := by
  cases t with
  | cl => exact r
  | own i => exact r
  | fr =>
    obtain ⟨a, o, k, ds, vs, q1, q2, q3, q4, hk, q5⟩ := r
    exact ⟨a, o, k, ds, vs, q1, q2, e.free q3, q4, hk, q5⟩
theorem RTs.base (e : Same H H1) : ∀ {xs : List Val} {vs : List V}, RTs K mg B ρ σ H1 H2 xs vs → RTs K mg B ρ σ H H2 xs vs
  | _, _, .nil => .nil
  | _, _, .cons r t => .cons (r.base e) (t.base e)
/-- a new list, or plain data, kept as plain data -/
theorem RT.keep (S : SR K mg E B ρ σ H) (e : Same H H1) (r : RT K mg B ρ σ H H1 d t v) (f : t.free = true ∨ d.sc = true) : Rep K mg (ar B ρ σ H1) d v := by
  cases t with
  | cl => exact r
  | own i =>
    obtain ⟨k, ds, _, rfl, _⟩ := r
    rcases f with f | f
    · cases f
    · rw [OwK.sc] at f
      cases f
  | fr =>
    obtain ⟨a, o, k, ds, vs, rfl, rfl, q3, q4, hk, q5⟩ := r
    refine hk.rep ?_ (q5.mono ar_add)
    have hx : ¬ (B.X a ∨ Own ρ σ a) := fun z => by
      rcases z with z | z
      · obtain ⟨o, e⟩ := S.xt a z
        rw [q3] at e; cases e
      · obtain ⟨vs, e⟩ := S.there z
        rw [q3] at e; cases e
    unfold ar
    rw [if_neg hx, if_pos (S.newB q3)]
    exact q4
theorem kept_ok {xs : List Val} {ds : List D} (h : kept xs = .ok ds) : ds = xs.map (·.1) ∧ ∀ x ∈ xs, x.2.free = true ∨ x.1.sc = true := by
  unfold kept at h
  split at h
  · rename_i hc
    cases h
    refine ⟨rfl, fun x hx => ?_⟩
    have := List.all_eq_true.mp hc x hx
    simpa using this
  · cases h
theorem RTs.keep (S : SR K mg E B ρ σ H) (e : Same H H1) : ∀ {xs : List Val} {vs : List V}, RTs K mg B ρ σ H H1 xs vs → (∀ x ∈ xs, x.2.free = true ∨ x.1.sc = true) → Reps K mg (ar B ρ σ H1) (xs.map (·.1)) vs
  | _, _, .nil, _ => .nil
  | _, _, .cons r t, f => .cons (r.keep S e (f _ (List.mem_cons_self ..))) (t.keep S e fun x hx => f x (List.mem_cons_of_mem _ hx))
theorem RTs.rep (S : SR K mg E B ρ σ H1) : ∀ {xs : List Val} {vs : List V}, RTs K mg B ρ σ H H1 xs vs → Reps K mg H1 (xs.map (·.1)) vs
  | _, _, .nil => .nil
  | _, _, .cons r t => .cons (r.rep S) (t.rep S)
theorem RTs.rp (S : SR K mg E B ρ σ H1) : ∀ {xs : List Val} {vs : List V}, RTs K mg B ρ σ H H1 xs vs → ∀ (i : Nat) (x : Val), xs[i]? = some x → ∃ v, vs[i]? = some v ∧ RP K mg B ρ σ H1 x.1 v
  | _, _, .nil, i, x, h => by simp at h
  | _, _, .cons r t, 0, x, h => by
    simp at h
    subst h
    exact ⟨_, rfl, r.rp S⟩
  | _, _, .cons r t, i + 1, x, h => by
    obtain ⟨v, h1, h2⟩ := t.rp S i x (by simpa using h)
    exact ⟨v, by simpa using h1, h2⟩
theorem RTs.len : ∀ {xs : List Val} {vs : List V}, RTs K mg B ρ σ H H1 xs vs → xs.length = vs.length
  | _, _, .nil => rfl
  | _, _, .cons _ t => by rw [List.length_cons, List.length_cons, t.len]
/-! arguments -/
def tA (K : PySem.W.Frag) (mg : Str → Option Value) (E : ExE) (W : WX) (m : AM) : TA := fun σ H Q => ∃ B ρ, SR K mg E B ρ σ H ∧ GG mg W σ H (fun xs => ∀ vs H', Same H H' → RTs K mg B ρ σ H H' xs vs → Q vs H') (m ρ)
theorem GG.bindA {m : AM} {f : List Val → Res α} {P : α → Prop} {R : List V → Hp → Prop} (S : SR K mg E B ρ σ H) (h : GG mg W σ H P ((m ρ).bind f))
    (k : ∀ (xs : List Val) (vs : List V) (H1 : Hp), RTs K mg B ρ σ H H1 xs vs → Same H H1 → SR K mg E B ρ σ H1 → GG mg W σ H P (f xs) → R vs H1) : tA K mg E W m σ H R := by
  refine ⟨B, ρ, S, ?_⟩
  cases e : m ρ with
  | ok x =>
    rw [e] at h
    exact fun vs H' s r => k x vs H' r s (S.mono s) h
  | ex C =>
    rw [e] at h
    exact h
  | bad =>
    rw [e] at h
    exact h
end
abbrev PMA (X : Cx) (E : ExE) (W : WX) (es : List Expr) (m : AM) : Prop := PA X es (tA X.K X.mg E W m)
section
variable {X : Cx} {E : ExE} {W : WX} {pos p : Pos} {a b c e : Expr} {ma mb mc : EM} {es : List Expr} {am : AM}
theorem pma_nil : PMA X E W [] amNil := PA.imp pa_nil fun σ H Q ⟨B, ρ, S, h⟩ => h [] H (Same.refl H) .nil
theorem pma_cons (ha : PM X E W e ma) (hr : PMA X E W es am) (hs : starEach (e :: es) X.env = (false, eval e X.env) :: starEach es X.env := by rfl) : PMA X E W (e :: es) (amCons ma am) :=
  PA.imp (pa_cons ha hr hs) fun σ H Q ⟨B, ρ, S, h⟩ => GG.bindE S h fun x tx vx H1 rx e1 S1 h1 => GG.bindA S1 (GG.mono h1 e1 fun _ q => q) fun xs vs H2 rs e2 S2 h2 =>
    h2 (vx :: vs) H2 (e1.trans e2) (.cons (rx.mono e2) (rs.base e1))
/-- to the heap of the last step -/
theorem PV.move {K : PySem.W.Frag} {mg : Str → Option Value} {B : Bs} {ρ : Rho} {σ : St} {H H1 : Hp} {Q : VK} (e : Same H H1) {r : Res Val} (h : GG mg W σ H (PV K mg B ρ σ H Q) r) : GM K mg W B ρ σ H1 r Q :=
  GG.gm (GG.mono h e fun x q v H' e' r => q v H' (e.trans e') (r.base e))
theorem kept_split {α : Type} {σ : St} {H : Hp} {P : α → Prop} {f : List D → Res α} {xs : List Val} (h : GG X.mg W σ H P ((kept xs).bind f)) : kept xs = .ok (xs.map (·.1)) ∧ GG X.mg W σ H P (f (xs.map (·.1))) := by
  cases e : kept xs with
  | ok ds =>
    rw [e] at h
    obtain ⟨h1, _⟩ := kept_ok e
    subst h1
    exact ⟨rfl, h⟩
  | ex C =>
    unfold kept at e
    split at e <;> cases e
  | bad =>
    rw [e] at h
    exact False.elim h
theorem pm_tup {x1 : Nat} (h : PMA X E W es am) : PM X E W (.Tuple es x1 pos) (mTup am) :=
  PE.imp (pe_tup h) fun σ H Q ⟨B, ρ, S, h⟩ => GG.bindA S h.gg fun xs vs H1 rs e1 S1 h1 => by
    obtain ⟨hk, h2⟩ := kept_split h1
    have r := rs.keep S e1 (kept_ok hk).2
    have h3 : GG X.mg W σ H (PV X.K X.mg B ρ σ H Q) (if (xs.map (·.1)).length ≤ lim then .ok (.seq .tup (xs.map (·.1)), .cl) else .bad) := h2
    split at h3
    · rename_i hl
      have h4 := PV.move e1 h3
      refine ⟨by rw [← r.length]; exact Nat.le_trans hl lim_le, fun p hp => ?_⟩
      exact h4 (.ref p) _ (Same.upd hp) (Rep.tup (.of (ar_at S1 hp)) (r.mono (ar_mono (Same.upd hp))))
    · exact False.elim h3
theorem pm_lst (h : PMA X E W es am) : PM X E W (.List es pos) (mLst am) :=
  PE.imp (pe_lst h) fun σ H Q ⟨B, ρ, S, h⟩ => GG.bindA S h.gg fun xs vs H1 rs e1 S1 h1 => by
    obtain ⟨hk, h2⟩ := kept_split h1
    have r := rs.keep S e1 (kept_ok hk).2
    have h3 : GG X.mg W σ H (PV X.K X.mg B ρ σ H Q) (if (xs.map (·.1)).length ≤ lim then .ok (.seq .lst (xs.map (·.1)), .fr) else .bad) := h2
    split at h3
    · rename_i hl
      have h4 := PV.move e1 h3
      exact ⟨by rw [← r.length]; exact Nat.le_trans hl lim_le, fun p hp => GM.fresh S1 h4 r hp⟩
    · exact False.elim h3

theorem pm_dic0 : PM X E W (.Dict [] [] pos) (mC (.dic [] [])) :=
  PE.imp pe_dnewK fun σ H Q ⟨B, ρ, S, h⟩ p hp => h (.ref p) _ (Same.upd hp) (Rep.dic (kk := []) (ds := []) (vs := []) (ar_at S hp) rfl .nil)

/-! ### defs -/
/-- the base of a call -/
abbrev Bs.of (G H : Hp) : Bs := ⟨G, H, fun _ => False⟩
def RF (K : PySem.W.Frag) (mg : Str → Option Value) (G H H' : Hp) (d : D) (fr : Bool) (v : V) : Prop := RT K mg (Bs.of G H) [] [] H H' d (if fr then .fr else .cl) v
/-- a def does what its mirror does -/
def spM (K : PySem.W.Frag) (mg : Str → Option Value) (n : Nat) (m : FM) : Sp := fun vs H Q E => vs.length = n ∧ ∃ (G : Hp) (ds : List D), Same G H ∧ Reps K mg G ds vs ∧
  (match m ds with
   | .ok (d, fr) => ∀ v H', Same H H' → RF K mg G H H' d fr v → Q v H'
   | .ex C => ∀ H', Same H H' → E (clsV mg C) none H'
   | .bad => False)
theorem own_nil {a : Addr} : ¬ Own [] [] a := fun ⟨i, k, ds, h, _⟩ => by simp at h
/-- the area behind a call whose arguments are plain -/
theorem ar_call {K : PySem.W.Frag} {mg : Str → Option Value} {B : Bs} {ρ : Rho} {σ : St} {H H' : Hp} (S : SR K mg E B ρ σ H) (e : Same H H') : Same (ar (Bs.of (ar B ρ σ H) H) [] [] H') (ar B ρ σ H') := fun b o h => by
  unfold ar at h
  have hx : ¬ ((Bs.of (ar B ρ σ H) H).X b ∨ Own [] [] b) := fun z => z.elim (fun q => q) own_nil
  rw [if_neg hx] at h
  split at h
  · rename_i hn
    have hn : H b = none := hn
    have hx' : ¬ (B.X b ∨ Own ρ σ b) := fun z => by
      rcases z with z | z
      · obtain ⟨o, e⟩ := S.xt b z
        rw [hn] at e; cases e
      · obtain ⟨vs, e⟩ := S.there z
        rw [hn] at e; cases e
    unfold ar
    rw [if_neg hx', if_pos (S.newB hn)]
    exact h
  · have h' : ar B ρ σ H b = some o := h
    exact ar_mono e _ _ h'
theorem ar_call_add {K : PySem.W.Frag} {mg : Str → Option Value} {B : Bs} {ρ : Rho} {σ : St} {H H' : Hp} {a : Addr} (S : SR K mg E B ρ σ H) (e : Same H H') : Same (ar ((Bs.of (ar B ρ σ H) H).add a) [] [] H') (ar (B.add a) ρ σ H') := fun b o h => by
  have hb : b ≠ a := fun z => by
    unfold ar at h
    rw [if_pos (.inl (.inl z))] at h
    cases h
  have h2 := ar_call S e b o (ar_add b o h)
  rw [ar_add_ne hb] at h2
  exact h2
theorem RF.rt {K : PySem.W.Frag} {mg : Str → Option Value} {B : Bs} {ρ : Rho} {σ : St} {H H' : Hp} {d : D} {fr : Bool} {v : V} (S : SR K mg E B ρ σ H) (e : Same H H') (r : RF K mg (ar B ρ σ H) H H' d fr v) : RT K mg B ρ σ H H' d (if fr then .fr else .cl) v := by
  cases fr with
  | false => exact Rep.mono (ar_call S e) r
  | true =>
    obtain ⟨a, o, k, ds, vs, q1, q2, q3, q4, hk, q5⟩ := r
    exact ⟨a, o, k, ds, vs, q1, q2, q3, q4, hk, q5.mono (ar_call_add S e)⟩
variable {k : Nat} {f : Addr} {fd : FuncData} {ps : List Str} {n : Nat} {g : FM} {x : Str}
theorem call_read {K : PySem.W.Frag} {mg : Str → Option Value} {B : Bs} {ρ : Rho} {σ : St} {H H1 : Hp} {Q : VK} {xs : List Val} {vs : List V} {E' : XK} (S : SR K mg E B ρ σ H) (e1 : Same H H1) (S1 : SR K mg E B ρ σ H1) (rs : RTs K mg B ρ σ H H1 xs vs) (hn : xs.length = n)
    (hE : ∀ C H', Same H1 H' → W (clsV mg C) none σ H' → E' (clsV mg C) none H')
    (h : GG mg W σ H (PV K mg B ρ σ H Q) ((g (xs.map (·.1))).bind fun r => if r.1.sc then .ok (r.1, .cl) else if xs.all (fun x => x.2.free || x.1.sc) then .ok (r.1, if r.2 then .fr else .cl) else .bad)) :
    spM K mg n g vs H1 Q E' := by
  refine ⟨by rw [← rs.len]; exact hn, ?_⟩
  have exc : ∀ C, g (xs.map (·.1)) = .ex C → ∀ H', Same H1 H' → E' (clsV mg C) none H' := fun C eg H' s => by
    rw [eg] at h
    exact hE C H' s (h H' (e1.trans s))
  by_cases hf : xs.all (fun x => x.2.free || x.1.sc) = true
  · have r := rs.keep S e1 (fun x hx => by have := List.all_eq_true.mp hf x hx; simpa using this)
    refine ⟨ar B ρ σ H1, _, S1.sub, r, ?_⟩
    cases eg : g (xs.map (·.1)) with
    | ok y =>
      obtain ⟨d, fr⟩ := y
      rw [eg] at h
      have h2 : GG mg W σ H (PV K mg B ρ σ H Q) (if d.sc then .ok (d, .cl) else if xs.all (fun x => x.2.free || x.1.sc) then .ok (d, if fr then .fr else .cl) else .bad) := h
      intro v H' s rf
      have rt := RF.rt S1 s rf
      by_cases hsc : d.sc = true
      · rw [if_pos hsc] at h2
        refine h2 v H' (e1.trans s) ?_
        cases fr with
        | false => exact rt
        | true =>
          obtain ⟨a, o, k, ds, vs, rfl, _⟩ := rt
          rw [OwK.sc] at hsc
          cases hsc
      · rw [if_neg hsc, if_pos hf] at h2
        exact h2 v H' (e1.trans s) (rt.base e1)
    | ex C => exact exc C eg
    | bad =>
      rw [eg] at h
      exact False.elim h
  · refine ⟨H1, _, Same.refl H1, rs.rep S1, ?_⟩
    cases eg : g (xs.map (·.1)) with
    | ok y =>
      obtain ⟨d, fr⟩ := y
      rw [eg] at h
      have h2 : GG mg W σ H (PV K mg B ρ σ H Q) (if d.sc then .ok (d, .cl) else if xs.all (fun x => x.2.free || x.1.sc) then .ok (d, if fr then .fr else .cl) else .bad) := h
      intro v H' s rf
      by_cases hsc : d.sc = true
      · rw [if_pos hsc] at h2
        refine h2 v H' (e1.trans s) ?_
        cases fr with
        | false => exact Rep.sc rf hsc
        | true =>
          obtain ⟨a, o, k, ds, vs, rfl, _⟩ := rf
          rw [OwK.sc] at hsc
          cases hsc
      · rw [if_neg hsc, if_neg hf] at h2
        exact False.elim h2
    | ex C => exact exc C eg
    | bad =>
      rw [eg] at h
      exact False.elim h
/-- how many arguments -/
def AMn (am : AM) (n : Nat) : Prop := ∀ ρ xs, am ρ = .ok xs → xs.length = n
theorem amn_nil : AMn amNil 0 := fun ρ xs h => by cases h; rfl
theorem amn_cons {n : Nat} (h : AMn am n) : AMn (amCons ma am) (n + 1) := fun ρ xs e => by
  unfold amCons at e
  cases e1 : ma ρ with
  | ok x =>
    rw [e1] at e
    cases e2 : am ρ with
    | ok ys =>
      rw [Res.bind_ok, e2] at e
      cases e
      rw [List.length_cons, h ρ ys e2]
    | ex C => rw [Res.bind_ok, e2] at e; cases e
    | bad => rw [Res.bind_ok, e2] at e; cases e
  | ex C => rw [e1] at e; cases e
  | bad => rw [e1] at e; cases e
theorem pm_call {CX : CXT} (F : FnOk X.prog X.w X.K X.mg X.base CX k f fd ps (spM X.K X.mg n g)) (tk : ∀ σ, PassesAt CX X σ (WE W σ)) (hr : Room k X.A) (hm : X.mg x = some (.ref f)) (hk : PySem.W.keepIn X.K (.ref f) = true) (hb : Binds X.K fd ps [])
    (ha : PMA X E W (e :: es) am) (hn : AMn am n) (hg : Gl X x := by rfl) (hdb : (x == ("__debug__" : Str)) = false := by decide) (he : starEach (e :: es) X.env = (false, eval e X.env) :: starEach es X.env := by rfl) (hpl : (backTo pos (starEach es X.env)).any (·.1) = false := by rfl) :
    PM X E W (.Call (.Name x p) (e :: es) [] pos) (mCall g am) :=
  PE.imp (pe_callS F hr hg hm hk hb (E := WE W) tk ha hdb he hpl) fun σ H Q ⟨B, ρ, S, h⟩ => by
    refine ⟨B, ρ, S, ?_⟩
    have h := h.gg
    unfold mCall at h
    cases e' : am ρ with
    | ok xs =>
      rw [e'] at h
      exact fun vs H1 e1 rs => call_read S e1 (S.mono e1) rs (hn ρ xs e') (fun C H' _ w => w) h
    | ex C =>
      rw [e'] at h
      exact h
    | bad =>
      rw [e'] at h
      exact h

/-! ### built-ins -/
def BltM (X : Cx) (E : ExE) (W : WX) (r : List V → Hp → VK → Prop) (f : List D → Res D) : Prop := ∀ (B : Bs) (ρ : Rho) (σ : St) (H : Hp) (xs : List D) (vs : List V) (Q : VK), SR X.K X.mg E B ρ σ H → xs.length = vs.length →
  (∀ (i : Nat) (x : D), xs[i]? = some x → ∃ v : V, vs[i]? = some v ∧ RP X.K X.mg B ρ σ H x v) → GM X.K X.mg W B ρ σ H ((f xs).bind fun d => .ok (d, .cl)) Q → r vs H Q
theorem blt_read {r : List V → Hp → VK → Prop} {fb : List D → Res D} (hf : BltM X E W r fb) {σ : St} {H : Hp} {Q : VK} (h : tE X.K X.mg E W (mBlt fb am) σ H Q) : tA X.K X.mg E W am σ H fun vs H1 => r vs H1 Q := by
  obtain ⟨B, ρ, S, h⟩ := h
  refine GG.bindA S h.gg fun xs vs H1 rs e1 S1 h1 => hf B ρ σ H1 (xs.map (·.1)) vs Q S1 (by rw [List.length_map, rs.len]) (fun i x hx => ?_) (PV.move e1 h1)
  rw [List.getElem?_map] at hx
  cases e : xs[i]? with
  | none => rw [e] at hx; cases hx
  | some y =>
    rw [e] at hx
    cases hx
    exact rs.rp S1 i y e
theorem pm_bltB {id : String} {r : List V → Hp → VK → Prop} {fb : List D → Res D} (hc : CallR X (.builtin id) r) (hf : BltM X E W r fb) (hm : X.mg x = none) (hv : bootBuiltins x = some (.builtin id)) (ha : PMA X E W (e :: es) am) (hg : Gl X x := by rfl) (hn : x ≠ "__name__" := by decide) (hdb : (x == ("__debug__" : Str)) = false := by decide)
    (he : starEach (e :: es) X.env = (false, eval e X.env) :: starEach es X.env := by rfl) (hpl : (backTo pos (starEach es X.env)).any (·.1) = false := by rfl) : PM X E W (.Call (.Name x p) (e :: es) [] pos) (mBlt fb am) :=
  PE.imp (pe_callB hc hg hm hv ha hn hdb he hpl) fun σ H Q h => blt_read hf h
theorem pm_bltT {T : String} {r : List V → Hp → VK → Prop} {fb : List D → Res D} (hc : CallR X (.type T) r) (hf : BltM X E W r fb) (hm : X.mg x = none) (hv : bootBuiltins x = some (.type T)) (ha : PMA X E W (e :: es) am) (hg : Gl X x := by rfl) (hn : x ≠ "__name__" := by decide) (hdb : (x == ("__debug__" : Str)) = false := by decide)
    (he : starEach (e :: es) X.env = (false, eval e X.env) :: starEach es X.env := by rfl) (hpl : (backTo pos (starEach es X.env)).any (·.1) = false := by rfl) : PM X E W (.Call (.Name x p) (e :: es) [] pos) (mBlt fb am) :=
  PE.imp (pe_callTy hc hg hm hv ha hn hdb he hpl) fun σ H Q h => blt_read hf h
theorem args1 {B : Bs} {ρ : Rho} {σ : St} {H : Hp} {x : D} {vs : List V} (hl : [x].length = vs.length) (hx : ∀ (i : Nat) (y : D), [x][i]? = some y → ∃ v : V, vs[i]? = some v ∧ RP X.K X.mg B ρ σ H y v) : ∃ v, vs = [v] ∧ RP X.K X.mg B ρ σ H x v := by
  obtain ⟨v, h1, h2⟩ := hx 0 x rfl
  match vs, hl, h1 with
  | [u], _, h1 => cases h1; exact ⟨_, rfl, h2⟩
theorem args2 {B : Bs} {ρ : Rho} {σ : St} {H : Hp} {x y : D} {vs : List V} (hl : [x, y].length = vs.length) (hx : ∀ (i : Nat) (z : D), [x, y][i]? = some z → ∃ v : V, vs[i]? = some v ∧ RP X.K X.mg B ρ σ H z v) : ∃ v w, vs = [v, w] ∧ RP X.K X.mg B ρ σ H x v ∧ RP X.K X.mg B ρ σ H y w := by
  obtain ⟨v, h1, h2⟩ := hx 0 x rfl
  obtain ⟨w, h3, h4⟩ := hx 1 y rfl
  match vs, hl, h1, h3 with
  | [u, u'], _, h1, h3 => cases h1; cases h3; exact ⟨_, _, rfl, h2, h4⟩
theorem call_list_S (hc : X.calm = true) : CallR X (.type "list") (fun xs H Q => ∃ s : List Nat, xs = [.str ⟨s.toArray⟩] ∧ s.length ≤ sizeLine ∧ ∀ l, H l = none → Q (.ref l) (upd H l (.lst (s.map fun c => V.str ⟨#[c]⟩)))) := by
  intro pins s σ H xs us Q I r h
  obtain ⟨t, rfl, hz, q⟩ := h
  obtain ⟨u, rfl, tk0, rfl⟩ := vals1 r
  refine call_list_str (I.ok.hd hc) ⟨t.toArray⟩ tk0 (fun h' tk acc c' hk e hi => ?_) (by simpa using hz)
  refine ⟨.ref s.heap.objs.size, upd H s.heap.objs.size (.lst (t.map fun c => V.str ⟨#[c]⟩)), I.laid hk (Nat.le_refl _) ⟨by rw [List.length_map]; exact hz, acc.toList, c', ?_, by rw [Array.toArray_toList]; exact e⟩, rfl, q _ (I.hok.fresh (Nat.le_refl _))⟩
  refine vals_of_idx _ _ (by rw [List.length_map, Array.length_toList, hi.1]; simp) fun j u hj => ?_
  obtain ⟨c, t', hc, rfl⟩ := hi.2 j u (by rw [← Array.getElem?_toList]; exact hj)
  exact ⟨.str ⟨#[c]⟩, by simp at hc; simp [hc], ⟨_, rfl⟩⟩
theorem signs_rep {K : PySem.W.Frag} {mg : Str → Option Value} {G : Hp} : ∀ s : List Nat, Reps K mg G (s.map fun c => D.str [c]) (s.map fun c => V.str ⟨#[c]⟩)
  | [] => .nil
  | c :: s => .cons (.str [c]) (signs_rep s)
theorem list_of {B : Bs} {ρ : Rho} {σ : St} {H : Hp} {Q : VK} {d : D} {v : V} (S : SR X.K X.mg E B ρ σ H) (rp : RP X.K X.mg B ρ σ H d v) (h : GM X.K X.mg W B ρ σ H (mLstOf d) Q) :
    (∃ p ys, [v] = [.ref p] ∧ (SqL X.K H p ys ∨ SqT X.K H p ys) ∧ ∀ l, H l = none → Q (.ref l) (upd H l (.lst ys))) ∨
    (∃ s : List Nat, [v] = [.str ⟨s.toArray⟩] ∧ s.length ≤ sizeLine ∧ ∀ l, H l = none → Q (.ref l) (upd H l (.lst (s.map fun c => V.str ⟨#[c]⟩)))) := by
  cases rp <;> first | exact False.elim h | skip
  case lst => rename_i hx r; exact .inl ⟨_, _, rfl, .inl (.of hx), fun l hl => GM.fresh S h r hl⟩
  case rol => rename_i hx r; exact .inl ⟨_, _, rfl, .inl hx, fun l hl => GM.fresh S h r hl⟩
  case tup => rename_i hx r; exact .inl ⟨_, _, rfl, .inr (same_tup S.sub hx), fun l hl => GM.fresh S h r hl⟩
  case str s =>
    have h2 : GM X.K X.mg W B ρ σ H (if s.length ≤ lim then .ok (.seq .lst (s.map fun c => .str [c]), .fr) else .bad) Q := h
    split at h2
    · rename_i hl
      exact .inr ⟨s, rfl, Nat.le_trans hl lim_le, fun l hn => GM.fresh S h2 (signs_rep s) hn⟩
    · exact h2.elim
theorem pm_list (hm : X.mg "list" = none) (ha : PMA X E W [e] am) (hc : X.calm = true := by rfl) (hg : Gl X "list" := by rfl)
    (he : starEach [e] X.env = (false, eval e X.env) :: starEach [] X.env := by rfl) (hpl : (backTo pos (starEach [] X.env)).any (·.1) = false := by rfl) : PM X E W (.Call (.Name "list" p) [e] [] pos) (mList am) :=
  PE.imp (pe_callTy (CallR.or call_list_of (call_list_S hc)) hg hm (by decide +kernel) ha (by decide) (by decide) he hpl) fun σ H Q ⟨B, ρ, S, h⟩ => GG.bindA S h.gg fun xs vs H1 rs e1 S1 h1 => by
    match xs, vs, rs, h1 with
    | [], _, _, h1 => exact False.elim h1
    | _ :: _ :: _, _, _, h1 => exact False.elim h1
    | [x], [u], .cons r .nil, h1 => exact list_of S1 (r.rp S1) (PV.move e1 h1)
theorem bm_len : BltM X E W (fun xs H Q => ∃ x n, xs = [x] ∧ LenV X.K x H n ∧ Q (.int n) H) bLen := by
  intro B ρ σ H xs vs Q S hl hx h
  match xs, h with
  | [], h => exact False.elim h
  | [x], h =>
    obtain ⟨v, rfl, r⟩ := args1 hl hx
    cases r <;> first | exact False.elim h | skip
    case str s =>
      have h3 : GM X.K X.mg W B ρ σ H ((if s.length ≤ lim then Res.ok (D.int s.length) else .bad).bind fun d => .ok (d, .cl)) Q := h
      split at h3
      · rename_i hl
        exact ⟨_, s.length, rfl, ⟨Nat.le_trans hl lim_le, rfl⟩, GM.sc (d := .int _) h3 (.int _)⟩
      · exact False.elim h3
    case lst a ds ws hv r => exact ⟨_, ds.length, rfl, .inl ⟨ws, .of hv, r.length⟩, GM.sc (d := .int _) h (.int _)⟩
    case rol a ds ws hv r => exact ⟨_, ds.length, rfl, .inl ⟨ws, hv, r.length⟩, GM.sc (d := .int _) h (.int _)⟩
    case tup a ds ws hv r => exact ⟨_, ds.length, rfl, .inr ⟨ws, same_tup S.sub hv, r.length⟩, GM.sc (d := .int _) h (.int _)⟩
  | x :: y :: xs, h => cases x <;> first | exact False.elim h | (rename_i k _; cases k <;> exact False.elim h)
theorem bm_abs : BltM X E W (fun xs H Q => ∃ i, xs = [.int i] ∧ Q (.int (if i < 0 then -i else i)) H) bAbs := by
  intro B ρ σ H xs vs Q S hl hx h
  match xs, h with
  | [], h => exact False.elim h
  | [x], h =>
    obtain ⟨v, rfl, r⟩ := args1 hl hx
    cases r <;> first | exact False.elim h | skip
    case int i => exact ⟨i, rfl, GM.sc (d := .int _) h (.int _)⟩
  | x :: y :: xs, h => cases x <;> exact False.elim h
theorem bm_max : BltM X E W (fun xs H Q => ∃ i j, xs = [.int i, .int j] ∧ Q (.int (if j > i then j else i)) H) bMax := by
  intro B ρ σ H xs vs Q S hl hx h
  match xs, h with
  | [], h => exact False.elim h
  | [x], h => cases x <;> exact False.elim h
  | [x, y], h =>
    obtain ⟨v, w, rfl, r, r'⟩ := args2 hl hx
    cases r <;> cases r' <;> first | exact False.elim h | skip
    case int.int i j => exact ⟨i, j, rfl, GM.sc (d := .int _) h (.int _)⟩
  | x :: y :: z :: xs, h => cases x <;> cases y <;> exact False.elim h
theorem bm_min : BltM X E W (fun xs H Q => ∃ i j, xs = [.int i, .int j] ∧ Q (.int (if j < i then j else i)) H) bMin := by
  intro B ρ σ H xs vs Q S hl hx h
  match xs, h with
  | [], h => exact False.elim h
  | [x], h => cases x <;> exact False.elim h
  | [x, y], h =>
    obtain ⟨v, w, rfl, r, r'⟩ := args2 hl hx
    cases r <;> cases r' <;> first | exact False.elim h | skip
    case int.int i j => exact ⟨i, j, rfl, GM.sc (d := .int _) h (.int _)⟩
  | x :: y :: z :: xs, h => cases x <;> cases y <;> exact False.elim h
theorem bm_int : BltM X E W (fun xs H Q => (∃ i, xs = [.int i] ∧ Q (.int i) H) ∨ ∃ k, xs = [.bl k] ∧ Q (.int (if k then 1 else 0)) H) bInt := by
  intro B ρ σ H xs vs Q S hl hx h
  match xs, h with
  | [], h => exact False.elim h
  | [x], h =>
    obtain ⟨v, rfl, r⟩ := args1 hl hx
    cases r <;> first | exact False.elim h | skip
    case bl i => exact .inr ⟨i, rfl, GM.sc (d := .int _) h (.int _)⟩
    case int i => exact .inl ⟨i, rfl, GM.sc (d := .int _) h (.int _)⟩
  | x :: y :: xs, h => cases x <;> exact False.elim h
theorem ofString_list (s : String) : Str.ofString s = ⟨(s.toList.map Char.toNat).toArray⟩ := ext_tl (tl_ofString s)
theorem bm_str : BltM X E W (fun xs H Q => ∃ i : Int, xs = [.int i] ∧ i.natAbs.log2 < 1920 ∧ Q (.str (toString i)) H) bStr := by
  intro B ρ σ H xs vs Q S hl hx h
  match xs, h with
  | [], h => exact False.elim h
  | [x], h =>
    obtain ⟨v, rfl, r⟩ := args1 hl hx
    cases r <;> first | exact False.elim h | skip
    case int i =>
      have h3 : GM X.K X.mg W B ρ σ H ((if lg i 1920 then Res.ok (D.str (decI i)) else .bad).bind fun d => .ok (d, .cl)) Q := h
      split at h3
      · rename_i hl
        refine ⟨i, rfl, of_decide_eq_true ((lg_def i 1920).symm.trans hl), ?_⟩
        rw [ofString_list]
        exact GM.sc (d := .str _) h3 (.str _)
      · exact False.elim h3
  | x :: y :: xs, h => cases x <;> exact False.elim h
theorem bm_divmod : BltM X E W (fun xs H Q => ∃ i j, xs = [.int i, .int j] ∧ CDiv i j ∧ ∀ p, H p = none → Q (.ref p) (upd H p (.tup [.int (i / j), .int (i % j)]))) bDivmod := by
  intro B ρ σ H xs vs Q S hl hx h
  match xs, h with
  | [], h => exact False.elim h
  | [x], h => cases x <;> exact False.elim h
  | [x, y], h =>
    obtain ⟨v, w, rfl, r, r'⟩ := args2 hl hx
    cases r <;> cases r' <;> first | exact False.elim h | skip
    case int.int i j =>
      have h3 : GM X.K X.mg W B ρ σ H ((if decide (0 < j) && decide (j < 1073741824) then Res.ok (D.seq .tup [.int (i / j), .int (i % j)]) else .bad).bind fun d => .ok (d, .cl)) Q := h
      split at h3
      · rename_i hc
        simp only [Bool.and_eq_true, decide_eq_true_eq] at hc
        refine ⟨i, j, rfl, hc, fun p hp => ?_⟩
        exact h3 (.ref p) _ (Same.upd hp) (Rep.tup (.of (ar_at S hp)) (.cons (.int _) (.cons (.int _) .nil)))
      · exact False.elim h3
  | x :: y :: z :: xs, h => cases x <;> cases y <;> exact False.elim h
end
end Dm
end

section
set_option Elab.async false
set_option linter.all false
set_option maxRecDepth 100000
set_option maxHeartbeats 4000000
/-! Dm: isinstance, find; what is walked; comprehensions. -/
namespace Dm
open PySem PySem.Spec L2 TL PySem.StrLaws
section
variable {X : Cx} {E : ExE} {W : WX} {pos p p2 : Pos} {a b c e : Expr} {ma mb mc : EM} {es : List Expr} {am : AM}
theorem sql_ty {H : Hp} {q : Addr} {vs : List V} (h : SqL X.K H q vs) : TyX X.K H (.ref q) (.type "list") := by
  rcases h with (h | ⟨o, h⟩) | ⟨o, its, n, h1, h2, _⟩
  · exact .base (.lst h)
  · exact .base (.frz h)
  · exact .kList h1 h2
theorem sqt_ty {H : Hp} {q : Addr} {vs : List V} (h : SqT X.K H q vs) : TyX X.K H (.ref q) (.type "tuple") := by
  rcases h with (h | ⟨o, h⟩) | ⟨o, its, n, h1, h2, _⟩
  · exact .base (.tup h)
  · exact .fTuple h
  · exact .kTuple h1 h2
theorem pm_is {T : String} {x : Str} (hk : ∀ t ∈ ["NoneType", "bool", "int", "str", "tuple", "list", "dict"], kitB t T = some (isT t T)) (ha : PM X E W a ma) (hm : X.mg "isinstance" = none) (hm2 : X.mg x = none) (hv2 : bootBuiltins x = some (.type T))
    (hg : Gl X "isinstance" := by rfl) (hg2 : Gl X x := by rfl) (hn2 : x ≠ "__name__" := by decide) (hd2 : (x == ("__debug__" : Str)) = false := by decide)
    (he : starEach [a, .Name x p2] X.env = (false, eval a X.env) :: starEach [.Name x p2] X.env := by rfl) (he2 : starEach [.Name x p2] X.env = (false, eval (.Name x p2) X.env) :: starEach [] X.env := by rfl) (hpl : (backTo pos (starEach [.Name x p2] X.env)).any (·.1) = false := by rfl) :
    PM X E W (.Call (.Name "isinstance" p) [a, .Name x p2] [] pos) (mIs T ma) :=
  PE.imp (pe_callB call_isi hg hm (by decide +kernel) (pa_cons ha (pa_cons (pe_bltn (v := .ty T) (u := .type T) hg2 hm2 hv2 rfl hn2 hd2) pa_nil he2) he) (he := he) (hpl := hpl)) fun σ H Q ⟨B, ρ, S, h⟩ => GM.bind S h fun x tx vx H1 rx e1 S1 h1 => by
    have rp := rx.rp S1
    have fin : ∀ (t : String), t ∈ ["NoneType", "bool", "int", "str", "tuple", "list", "dict"] → TyX X.K H1 vx (.type t) → GM X.K X.mg W B ρ σ H1 (.ok (.bl (isT t T), .cl)) Q →
        rIsi X.K [vx, .ty T] H1 Q := fun t ht ty g => ⟨vx, .ty T, .type t, .type T, isT t T, rfl, .ty T, ty, kit_ty (hk t ht), GM.sc (d := .bl _) g (.bl _)⟩
    cases rp <;> first | exact False.elim h1 | skip
    case non => exact fin "NoneType" (by simp) (.base .non) h1
    case bl k => exact fin "bool" (by simp) (.base (.bl k)) h1
    case int i => exact fin "int" (by simp) (.base (.int i)) h1
    case str s => exact fin "str" (by simp) (.base (.str _)) h1
    case lst q ds vs hv r => exact fin "list" (by simp) (sql_ty (.of hv)) h1
    case rol q ds vs hv r => exact fin "list" (by simp) (sql_ty hv) h1
    case tup q ds vs hv r => exact fin "tuple" (by simp) (sqt_ty (same_tup S1.sub hv)) h1
    case dic h2 _ _ => exact fin "dict" (by simp) (.base (.dK h2)) h1
theorem find_eq (s : List Nat) (c : Nat) : Txt.find ⟨s.toArray⟩ ⟨#[c]⟩ = findL s c := by
  have hat : ∀ i : Nat, At ⟨s.toArray⟩ ⟨#[c]⟩ (⟨s.toArray⟩ : Str).length i ↔ s[i]? = some c := fun i => by
    have := PySem.StrLaws.subAt_one ⟨s.toArray⟩ c i
    simpa [At] using this
  unfold Txt.find findL
  rcases PySem.StrLaws.occ_head ⟨s.toArray⟩ ⟨#[c]⟩ 1 (Nat.le_refl _) with ⟨h0, hn⟩ | ⟨i, r, h0, h1, hn⟩
  · rw [h0]
    have : s.findIdx? (· == c) = none := by
      rw [List.findIdx?_eq_none_iff]
      intro x hx
      obtain ⟨i, hi⟩ := List.mem_iff_getElem?.mp hx
      have h2 := hn i
      rw [hat i, hi] at h2
      simpa using h2
    rw [this]
  · rw [h0]
    have hi := (hat i).mp h1
    have : s.findIdx? (· == c) = some i := by
      rw [List.findIdx?_eq_some_iff_getElem]
      have hl : i < s.length := (List.getElem?_eq_some_iff.mp hi).1
      refine ⟨hl, ?_, fun j hj => ?_⟩
      · rw [(List.getElem?_eq_some_iff.mp hi).2]
        simp
      · have h2 := hn j hj
        rw [hat j, List.getElem?_eq_getElem (by omega)] at h2
        simpa using h2
    rw [this]
/-- a method of a text, of one argument -/
theorem pm_s1 {id : String} {name : Str} {apos : Pos} {r : V → List V → Hp → VK → Prop} {f : List Nat → D → Res (D × Tg)} (slot : Slot "str" name id) (ty : typeOf (.builtin id) = pure (.type "method_descriptor")) (rule : MtR X id r)
    (hf : ∀ (B : Bs) (ρ : Rho) (σ : St) (H : Hp) (s : List Nat) (y : D) (vy : V) (Q : VK), SR X.K X.mg E B ρ σ H → RP X.K X.mg B ρ σ H y vy → GM X.K X.mg W B ρ σ H (f s y) Q → r (.str ⟨s.toArray⟩) [vy] H Q)
    (ha : PM X E W a ma) (hb : PM X E W b mb) (hs : starEach [b] X.env = [(false, eval b X.env)] := by rfl) (hbase : attributeBase a name X.env (eval a X.env) = eval a X.env := by rfl) (hline : (apos.endLine == pos.line) = true := by rfl) :
    PM X E W (.Call (.Attribute a name apos) [b] [] pos) (mS1 f ma mb) :=
  PE.imp (pe_m1 slot ty rule ha hb hs hbase hline) fun σ H Q ⟨B, ρ, S, h⟩ => GM.bind S h fun x tx vx H1 rx e1 S1 h1 => by
    have rpx := rx.rp S1
    cases rpx <;> first | exact False.elim h1 | skip
    case str s => exact ⟨⟨_, rfl⟩, GM.bind S1 h1 fun y ty vy H2 ry e2 S2 h2 => hf B ρ σ H2 s y vy Q S2 (ry.rp S2) h2⟩
theorem pm_s0 {id : String} {name : Str} {apos : Pos} {r : V → List V → Hp → VK → Prop} {f : List Nat → Res (D × Tg)} (slot : Slot "str" name id) (ty : typeOf (.builtin id) = pure (.type "method_descriptor")) (rule : MtR X id r)
    (hf : ∀ (B : Bs) (ρ : Rho) (σ : St) (H : Hp) (s : List Nat) (Q : VK), SR X.K X.mg E B ρ σ H → GM X.K X.mg W B ρ σ H (f s) Q → r (.str ⟨s.toArray⟩) [] H Q)
    (ha : PM X E W a ma) (hbase : attributeBase a name X.env (eval a X.env) = eval a X.env := by rfl) (hline : (apos.endLine == pos.line) = true := by rfl) :
    PM X E W (.Call (.Attribute a name apos) [] [] pos) (mS0 f ma) :=
  PE.imp (pe_m0 slot ty rule ha hbase hline) fun σ H Q ⟨B, ρ, S, h⟩ => GM.bind S h fun x tx vx H1 rx e1 S1 h1 => by
    have rpx := rx.rp S1
    cases rpx <;> first | exact False.elim h1 | skip
    case str s => exact ⟨⟨_, rfl⟩, hf B ρ σ H1 s Q S1 h1⟩
theorem pm_find {apos : Pos} (ha : PM X E W a ma) (hb : PM X E W b mb) (hs : starEach [b] X.env = [(false, eval b X.env)] := by rfl) (hbase : attributeBase a "find" X.env (eval a X.env) = eval a X.env := by rfl) (hline : (apos.endLine == pos.line) = true := by rfl) :
    PM X E W (.Call (.Attribute a "find" apos) [b] [] pos) (mS1 fFind ma mb) :=
  pm_s1 PySem.F.slot_str_find PySem.F.type_str_find mt_find (fun B ρ σ H s y vy Q S ry h => by
    cases ry <;> first | exact False.elim h | skip
    case str t =>
      match t, h with
      | [c], h =>
        refine ⟨_, _, rfl, rfl, ?_⟩
        rw [show (⟨[c].toArray⟩ : Str) = ⟨#[c]⟩ from rfl, find_eq]
        exact GM.sc (d := .int _) h (.int _)
      | [], h => exact False.elim h
      | _ :: _ :: _, h => exact False.elim h) ha hb hs hbase hline

/-! ### what is walked -/
noncomputable def hid (B : Bs) (ρ : Rho) (σ : St) (H : Hp) : Hp := by
  classical exact fun b => if B.X b ∨ Own ρ σ b then none else H b
theorem hid_sub {B : Bs} {ρ : Rho} {σ : St} {H : Hp} : Same (hid B ρ σ H) H := fun b o h => by
  unfold hid at h
  split at h
  · cases h
  · exact h
/-- what an iterator yields: plain data, in the area A or new -/
structure Wk (K : PySem.W.Frag) (mg : Str → Option Value) (A Hb : Hp) (J : It) (ds : List D) : Prop where
  go : ∀ i H, Same Hb H → i < ds.length → J.go i H
  stop : ∀ i H, Same Hb H → ds.length ≤ i → J.stop i H
  yld : ∀ i H x H', Same Hb H → i < ds.length → J.yld i H x H' → Same H H' ∧ ∃ d, ds[i]? = some d ∧ Rep K mg (fun b => if H b = none then H' b else A b) d x
theorem Wk.mono {K : PySem.W.Frag} {mg : Str → Option Value} {A A' Hb Hb' : Hp} {J : It} {ds : List D} (h : Wk K mg A Hb J ds) (eA : Same A A') (eH : Same Hb Hb') : Wk K mg A' Hb' J ds where
  go := fun i H s => h.go i H (eH.trans s)
  stop := fun i H s => h.stop i H (eH.trans s)
  yld := fun i H x H' s hi y => by
    obtain ⟨h1, d, h2, h3⟩ := h.yld i H x H' (eH.trans s) hi y
    refine ⟨h1, d, h2, h3.mono fun b o e => ?_⟩
    split at e
    · rename_i hn
      rw [if_pos hn]
      exact e
    · rename_i hn
      rw [if_neg hn]
      exact eA _ _ e
theorem gn_of {A H H' : Hp} (hA : Same A H) (s : Same H H') : Same A (fun b => if H b = none then H' b else A b) := fun b o e => by
  show (if H b = none then H' b else A b) = some o
  rw [if_neg (by rw [hA _ _ e]; simp)]
  exact e
theorem SR.frz {K : PySem.W.Frag} {mg : Str → Option Value} {B : Bs} {ρ : Rho} {σ : St} {H : Hp} (S : SR K mg E B ρ σ H) (i : Nat) : SR K mg E B (frz i ρ) σ H := by
  unfold Dm.frz
  split
  case h_2 => exact S
  case h_1 k0 ds e =>
    obtain ⟨a, o0, vs, e1, e2, hk0, e3⟩ := S.ow i k0 ds e
    have hil : i < ρ.length := (List.getElem?_eq_some_iff.mp e).1
    have sub : ∀ b, Own (ρ.set i (.fz (k0.asD ds))) σ b → Own ρ σ b := fun b ⟨j, l, es, h1, h2⟩ => by
      by_cases hj : i = j
      · subst hj
        rw [List.getElem?_set_self hil] at h1
        cases h1
      · rw [List.getElem?_set_ne hj] at h1
        exact ⟨j, l, es, h1, h2⟩
    have hna : ¬ (B.X a ∨ Own (ρ.set i (.fz (k0.asD ds))) σ a) := fun z => by
      rcases z with z | ⟨j, l, es, h1, h2⟩
      · exact S.xo a z ⟨i, k0, ds, e, e1⟩
      · by_cases hj : i = j
        · subst hj
          rw [List.getElem?_set_self hil] at h1
          cases h1
        · rw [List.getElem?_set_ne hj] at h1
          exact hj (S.dj i j a k0 l ds es e h1 e1 h2)
    refine ⟨by rw [List.length_set]; exact S.len, fun j d h => ?_, fun j l es h => ?_, fun j k b l1 l2 es fs h1 h2 h3 h4 => ?_, fun j C h => ?_, S.gh, S.bh, fun b hb => S.new b (hb.imp id (sub b)), fun b hb ho => S.xo b hb (sub b ho), S.xt⟩
    · by_cases hj : i = j
      · subst hj
        rw [List.getElem?_set_self hil] at h
        cases h
        refine ⟨.ref a, e1, hk0.rep ?_ (e3.mono (ar_own sub))⟩
        unfold ar
        rw [if_neg hna, if_pos (S.new a (.inr ⟨i, k0, ds, e, e1⟩))]
        exact e2
      · rw [List.getElem?_set_ne hj] at h
        obtain ⟨v, h1, h2⟩ := S.fz j d h
        exact ⟨v, h1, h2.mono (ar_own sub)⟩
    · by_cases hj : i = j
      · subst hj
        rw [List.getElem?_set_self hil] at h
        cases h
      · rw [List.getElem?_set_ne hj] at h
        obtain ⟨b, o1, ws, h1, h2, hk1, h3⟩ := S.ow j l es h
        exact ⟨b, o1, ws, h1, h2, hk1, h3.mono (ar_own sub)⟩
    · have get : ∀ {l : Nat} {lk : OwK} {gs : List D}, (ρ.set i (.fz (k0.asD ds)))[l]? = some (.oo lk gs) → ρ[l]? = some (.oo lk gs) := fun {l lk gs} h => by
        by_cases hj : i = l
        · subst hj
          rw [List.getElem?_set_self hil] at h
          cases h
        · rw [List.getElem?_set_ne hj] at h
          exact h
      exact S.dj j k b l1 l2 es fs (get h1) (get h2) h3 h4
    · by_cases hj : i = j
      · subst hj
        rw [List.getElem?_set_self hil] at h
        cases h
      · rw [List.getElem?_set_ne hj] at h
        exact S.ex j C h
theorem SR.frzO {K : PySem.W.Frag} {mg : Str → Option Value} {B : Bs} {ρ : Rho} {σ : St} {H : Hp} (S : SR K mg E B ρ σ H) (o : Option Nat) : SR K mg E B (frzO o ρ) σ H := by
  cases o with
  | none => exact S
  | some i => exact S.frz i
def tI (K : PySem.W.Frag) (mg : Str → Option Value) (E : ExE) (W : WX) (m : WM) : TI := fun σ H R => ∃ B ρ, SR K mg E B ρ σ H ∧
  GG mg W σ H (fun p => ∀ J H1, Same H H1 → SR K mg E B ρ σ H1 → Wk K mg (ar B ρ σ H1) (hid B (frzO p.2 ρ) σ H1) J p.1 → R J H1) (m ρ)
abbrev PMI (X : Cx) (E : ExE) (W : WX) (tg e : Expr) (m : WM) : Prop := PI X tg e (tI X.K X.mg E W m)
variable {tg : Expr}
theorem wk_list {K : PySem.W.Frag} {mg : Str → Option Value} {A Hb : Hp} {q : Addr} {ds : List D} {vs : List V} (h : SqL K Hb q vs) (r : Reps K mg A ds vs) (hA : ∀ H, Same Hb H → Same A H) : Wk K mg A Hb (Itl K q) ds where
  go := fun i H s hi => ⟨vs, vs[i]'(by rw [← r.length]; exact hi), s.seq h, by simp⟩
  stop := fun i H s hi => ⟨vs, s.seq h, by rw [← r.length]; exact hi⟩
  yld := fun i H x H' s hi y => by
    obtain ⟨rfl, y⟩ := y
    have hx := y vs (s.seq h)
    obtain ⟨d, h1, h2⟩ := r.get' hx
    exact ⟨Same.refl _, d, h1, h2.mono (gn_of (hA _ s) (Same.refl _))⟩
theorem wk_tup {K : PySem.W.Frag} {mg : Str → Option Value} {A Hb : Hp} {q : Addr} {ds : List D} {vs : List V} (h : SqT K Hb q vs) (r : Reps K mg A ds vs) (hA : ∀ H, Same Hb H → Same A H) : Wk K mg A Hb (Itt K q) ds where
  go := fun i H s hi => ⟨vs, vs[i]'(by rw [← r.length]; exact hi), same_tup s h, by simp⟩
  stop := fun i H s hi => ⟨vs, same_tup s h, by rw [← r.length]; exact hi⟩
  yld := fun i H x H' s hi y => by
    obtain ⟨rfl, y⟩ := y
    have hx := y vs (same_tup s h)
    obtain ⟨d, h1, h2⟩ := r.get' hx
    exact ⟨Same.refl _, d, h1, h2.mono (gn_of (hA _ s) (Same.refl _))⟩
theorem wk_range {K : PySem.W.Frag} {mg : Str → Option Value} {A Hb : Hp} (lo : Int) (n : Nat) : Wk K mg A Hb (Itr lo n) (rangeL lo n) where
  go := fun i H s hi => by
    show i < n
    simpa [rangeL] using hi
  stop := fun i H s hi => by
    show n ≤ i
    simpa [rangeL] using hi
  yld := fun i H x H' s hi y => by
    obtain ⟨rfl, rfl⟩ := y
    have hi' : i < n := by simpa [rangeL] using hi
    exact ⟨Same.refl _, .int (lo + i), by simp [rangeL, hi'], .int _⟩
theorem wk_str {K : PySem.W.Frag} {mg : Str → Option Value} {A Hb : Hp} (s : List Nat) : Wk K mg A Hb (Its ⟨s.toArray⟩) (s.map fun c => .str [c]) where
  go := fun i H s' hi => by
    show i < s.toArray.size
    simpa using hi
  stop := fun i H s' hi => by
    show s.toArray.size ≤ i
    simpa using hi
  yld := fun i H x H' s' hi y => by
    obtain ⟨rfl, c, h1, rfl⟩ := y
    refine ⟨Same.refl _, .str [c], ?_, .str [c]⟩
    have h2 : s[i]? = some c := by simpa using h1
    rw [List.getElem?_map, h2]
    rfl
/-- the area lies in what stays -/
theorem ar_hid {K : PySem.W.Frag} {mg : Str → Option Value} {B : Bs} {ρ ρ' : Rho} {σ : St} {H1 : Hp} (S : SR K mg E B ρ σ H1) (sub : ∀ b, Own ρ' σ b → Own ρ σ b) : Same (ar B ρ σ H1) (hid B ρ' σ H1) := fun b o h => by
  have h1 := S.sub _ _ h
  have hx : ¬ (B.X b ∨ Own ρ σ b) := fun z => by
    unfold ar at h
    rw [if_pos z] at h
    cases h
  unfold hid
  rw [if_neg fun z => hx (z.imp id (sub b))]
  exact h1
theorem own_frz {ρ : Rho} {σ : St} {b : Addr} {i : Nat} (h : Own (frz i ρ) σ b) : Own ρ σ b := by
  unfold Dm.frz at h
  split at h
  · rename_i k ds e
    obtain ⟨j, l, es, h1, h2⟩ := h
    have hil : i < ρ.length := (List.getElem?_eq_some_iff.mp e).1
    by_cases hj : i = j
    · subst hj
      rw [List.getElem?_set_self hil] at h1
      cases h1
    · rw [List.getElem?_set_ne hj] at h1
      exact ⟨j, l, es, h1, h2⟩
  · exact h
theorem own_frzO {ρ : Rho} {σ : St} {b : Addr} {o : Option Nat} (h : Own (frzO o ρ) σ b) : Own ρ σ b := by
  cases o with
  | none => exact h
  | some i => exact own_frz h
theorem pmi_list (ha : PM X E W e ma) : PMI X E W tg e (wmL ma) :=
  PI.imp (pi_list ha) fun σ H R ⟨B, ρ, S, h⟩ => GG.bindE S h fun x tx vx H1 rx e1 S1 h1 => by
    have fin : ∀ (k : SK) (ds : List D) (q : Addr) (vs : List V), x = .seq k ds → k ≠ .tup → vx = .ref q → SqL X.K (hid B (frzO tx.slot ρ) σ H1) q vs → Reps X.K X.mg (ar B ρ σ H1) ds vs → ∃ a, vx = .ref a ∧ (∃ xs, SqL X.K H1 a xs) ∧ R (Itl X.K a) H1 := by
      intro k ds q vs ex hk ev hq r
      subst ex ev
      refine ⟨q, rfl, ⟨vs, hid_sub.seq hq⟩, ?_⟩
      have h2 : ∀ J H1, Same H H1 → SR X.K X.mg E B ρ σ H1 → Wk X.K X.mg (ar B ρ σ H1) (hid B (frzO tx.slot ρ) σ H1) J ds → R J H1 := by
        cases k <;> first | exact h1 | exact absurd rfl hk
      exact h2 _ H1 e1 S1 (wk_list hq r fun H' s => (ar_hid S1 fun _ z => own_frzO z).trans s)
    cases tx with
    | cl =>
      have rr : Rep X.K X.mg (ar B ρ σ H1) x vx := rx
      cases rr <;> first | exact False.elim h1 | skip
      case lst q ds vs hv r => exact fin .lst ds q vs rfl (by simp) rfl (.of (ar_hid S1 (fun _ z => own_frzO z) _ _ hv)) r
      case rol q ds vs hv r => exact fin .rol ds q vs rfl (by simp) rfl ((ar_hid S1 fun _ z => own_frzO z).seq hv) r
    | own i =>
      obtain ⟨k, ds, q1, rfl, q3⟩ := rx
      cases k <;> first | exact h1.elim | skip
      obtain ⟨q, vs, e2, e3, e4⟩ := S1.owl i ds q1
      rw [q3] at e2
      cases e2
      refine fin .lst ds q vs rfl (by simp) rfl (.of ?_) e4
      have S2 := S1.frz i
      have hf : (Dm.frz i ρ)[i]? = some (.fz (.seq .lst ds)) := by
        unfold Dm.frz
        rw [q1]
        exact List.getElem?_set_self (List.getElem?_eq_some_iff.mp q1).1
      obtain ⟨v, h3, h4⟩ := S2.fz i _ hf
      rw [q3] at h3
      cases h3
      cases h4 with
      | lst hv r' =>
        have := S2.sub _ _ hv
        rw [e3] at this
        cases this
        exact ar_hid S2 (fun _ z => z) _ _ hv
    | fr =>
      obtain ⟨q, o, k, ds, vs, rfl, rfl, q3, q4, hk, q5⟩ := rx
      cases k <;> first | exact h1.elim | skip
      cases hk
      refine fin .lst ds q vs rfl (by simp) rfl (.of ?_) (q5.mono ar_add)
      have hx : ¬ (B.X q ∨ Own ρ σ q) := fun z => by
        rcases z with z | z
        · obtain ⟨o, e⟩ := S.xt q z
          rw [q3] at e; cases e
        · obtain ⟨vs, e⟩ := S.there z
          rw [q3] at e; cases e
      show hid B ρ σ H1 q = _
      unfold hid
      rw [if_neg hx]
      exact q4
theorem pmi_tup (ha : PM X E W e ma) : PMI X E W tg e (wmT ma) :=
  PI.imp (pi_tup ha) fun σ H R ⟨B, ρ, S, h⟩ => GG.bindE S h fun x tx vx H1 rx e1 S1 h1 => by
    have rp := rx.rp S1
    cases rp <;> first | exact False.elim h1 | skip
    case tup q ds vs hv r =>
      refine ⟨q, rfl, ⟨vs, same_tup S1.sub hv⟩, ?_⟩
      exact h1 _ H1 e1 S1 (wk_tup (same_tup (ar_hid S1 fun _ z => z) hv) r fun H' s => (ar_hid S1 fun _ z => z).trans s)
theorem pmi_str (ha : PM X E W e ma) : PMI X E W tg e (wmS ma) :=
  PI.imp (pi_str ha) fun σ H R ⟨B, ρ, S, h⟩ => GG.bindE S h fun x tx vx H1 rx e1 S1 h1 => by
    have rp := rx.rp S1
    cases rp <;> first | exact False.elim h1 | skip
    case str s => exact ⟨_, rfl, h1 _ H1 e1 S1 (wk_str s)⟩
theorem rg_ok {i : Int} (h : rgOk i = true) : -(2 ^ 62 : Int) ≤ i ∧ i < 2 ^ 62 := by
  rw [rgOk_def] at h
  simp only [Bool.and_eq_true, decide_eq_true_eq] at h
  omega
theorem pmi_r1 (ha : PM X E W a ma) (hm : X.mg "range" = none) (hg : Gl X "range" := by rfl) (hs : starEach [a] X.env = (false, eval a X.env) :: starEach [] X.env := by rfl) (hs2 : starEach [a] X.env = [(false, eval a X.env)] := by rfl) : PMI X E W tg (.Call (.Name "range" p) [a] [] pos) (wmR1 ma) :=
  PI.imp (pi_range1 hg hm (pa_cons ha pa_nil hs) hs2) fun σ H R ⟨B, ρ, S, h⟩ => GG.bindE S h fun x tx vx H1 rx e1 S1 h1 => by
    have rp := rx.rp S1
    cases rp <;> first | exact False.elim h1 | skip
    case int j =>
      have h2 : GG X.mg W σ H (fun p => ∀ J H1, Same H H1 → SR X.K X.mg E B ρ σ H1 → Wk X.K X.mg (ar B ρ σ H1) (hid B (frzO p.2 ρ) σ H1) J p.1 → R J H1) (if rgOk j then .ok (rangeL 0 j.toNat, none) else .bad) := h1
      split at h2
      · rename_i hr
        obtain ⟨a1, a2⟩ := rg_ok hr
        exact ⟨j, rfl, a1, a2, h2 _ H1 e1 S1 (wk_range 0 j.toNat)⟩
      · exact False.elim h2
theorem pmi_r2 (ha : PM X E W a ma) (hb : PM X E W b mb) (hm : X.mg "range" = none) (hg : Gl X "range" := by rfl) (hs : starEach [a, b] X.env = (false, eval a X.env) :: starEach [b] X.env := by rfl) (hs2 : starEach [b] X.env = (false, eval b X.env) :: starEach [] X.env := by rfl)
    (hs3 : starEach [a, b] X.env = [(false, eval a X.env), (false, eval b X.env)] := by rfl) (hs4 : starEach [b] X.env = [(false, eval b X.env)] := by rfl) : PMI X E W tg (.Call (.Name "range" p) [a, b] [] pos) (wmR2 ma mb) :=
  PI.imp (pi_range2 hg hm (pa_cons ha (pa_cons hb pa_nil hs2) hs) hs3 hs4) fun σ H R ⟨B, ρ, S, h⟩ => GG.bindE S h fun x tx vx H1 rx e1 S1 h1 => by
    have h1' := GG.mono h1 e1 fun _ q => q
    refine GG.bindE S1 h1' fun y ty vy H2 ry e2 S2 h2 => ?_
    have rpx := rx.rp S1
    have rpy := ry.rp S2
    cases rpx <;> cases rpy <;> first | exact False.elim h2 | skip
    case int.int i j =>
      have h3 : GG X.mg W σ H1 (fun p => ∀ J H1, Same H H1 → SR X.K X.mg E B ρ σ H1 → Wk X.K X.mg (ar B ρ σ H1) (hid B (frzO p.2 ρ) σ H1) J p.1 → R J H1) (if rgOk i && rgOk j then .ok (rangeL i (j - i).toNat, none) else .bad) := h2
      split at h3
      · rename_i hr
        rw [Bool.and_eq_true] at hr
        obtain ⟨a1, a2⟩ := rg_ok hr.1
        obtain ⟨b1, b2⟩ := rg_ok hr.2
        exact ⟨i, j, rfl, ⟨a1, a2, b1, b2⟩, h3 _ H2 (e1.trans e2) S2 (wk_range i (j - i).toNat)⟩
      · exact False.elim h3
end
end Dm
end

section
set_option Elab.async false
set_option linter.all false
set_option maxRecDepth 100000
set_option maxHeartbeats 4000000
/-! Dm: the slots' changes; statements. -/
namespace Dm
open PySem PySem.Spec L2 TL
section
variable {K : PySem.W.Frag} {mg : Str → Option Value} {E : ExE} {W : WX} {B : Bs} {ρ : Rho} {σ : St} {H H1 H2 : Hp}
/-- a slot gets plain data, or nothing -/
theorem SR.put (S : SR K mg E B ρ σ H) (i : Nat) {sl : Sl} {o : Option V} (h1 : ∀ k ds, sl ≠ .oo k ds) (h2 : ∀ C, sl = .ex C → ∃ a : Addr, E = some (i, C, a) ∧ o = some (.ref a)) (h3 : ∀ d, sl = .fz d → ∃ v, o = some v ∧ Rep K mg (ar B ρ σ H) d v) : SR K mg E B (ρ.set i sl) (σ.set i o) H := by
  have hlen := S.len
  have gne : ∀ {j : Nat}, i ≠ j → (ρ.set i sl)[j]? = ρ[j]? := fun {j} hj => List.getElem?_set_ne hj
  have sne : ∀ {j : Nat}, i ≠ j → (σ.set i o)[j]? = σ[j]? := fun {j} hj => List.getElem?_set_ne hj
  have geq : ∀ {x : Sl}, (ρ.set i sl)[i]? = some x → x = sl ∧ i < ρ.length := fun {x} h => by
    by_cases hl : i < ρ.length
    · rw [List.getElem?_set_self hl] at h
      cases h
      exact ⟨rfl, hl⟩
    · rw [List.getElem?_eq_none (by rw [List.length_set]; omega)] at h
      cases h
  have seq : i < ρ.length → (σ.set i o)[i]? = some o := fun hl => List.getElem?_set_self (by omega)
  have ow' : ∀ {j : Nat} {l : OwK} {es : List D}, (ρ.set i sl)[j]? = some (.oo l es) → i ≠ j ∧ ρ[j]? = some (.oo l es) := fun {j l es} h => by
    by_cases hj : i = j
    · subst hj
      exact absurd (geq h).1.symm (h1 l es)
    · rw [gne hj] at h
      exact ⟨hj, h⟩
  have sub : ∀ b, Own (ρ.set i sl) (σ.set i o) b → Own ρ σ b := fun b ⟨j, l, es, q1, q2⟩ => by
    obtain ⟨hj, q3⟩ := ow' q1
    rw [sne hj] at q2
    exact ⟨j, l, es, q3, q2⟩
  refine ⟨by rw [List.length_set, List.length_set]; exact hlen, fun j d h => ?_, fun j l es h => ?_, fun j k b l1 l2 es fs q1 q2 q3 q4 => ?_, fun j C h => ?_, S.gh, S.bh, fun b hb => S.new b (hb.imp id (sub b)), fun b hb ho => S.xo b hb (sub b ho), S.xt⟩
  · by_cases hj : i = j
    · subst hj
      obtain ⟨e, hl⟩ := geq h
      obtain ⟨v, e1, r⟩ := h3 d e.symm
      exact ⟨v, by rw [seq hl, e1], r.mono (ar_own sub)⟩
    · rw [gne hj] at h
      obtain ⟨v, e1, r⟩ := S.fz j d h
      exact ⟨v, by rw [sne hj]; exact e1, r.mono (ar_own sub)⟩
  · obtain ⟨hj, q⟩ := ow' h
    obtain ⟨a, o1, vs, e1, e2, hk, r⟩ := S.ow j l es q
    exact ⟨a, o1, vs, by rw [sne hj]; exact e1, e2, hk, r.mono (ar_own sub)⟩
  · obtain ⟨hj, p1⟩ := ow' q1
    obtain ⟨hk, p2⟩ := ow' q2
    rw [sne hj] at q3
    rw [sne hk] at q4
    exact S.dj j k b l1 l2 es fs p1 p2 q3 q4
  · by_cases hj : i = j
    · subst hj
      obtain ⟨e, hl⟩ := geq h
      obtain ⟨a, e1, e2⟩ := h2 C e.symm
      exact ⟨a, e1, by rw [seq hl, e2]⟩
    · rw [gne hj] at h
      rw [sne hj]
      exact S.ex j C h
theorem SR.setFz (S : SR K mg E B ρ σ H) (i : Nat) {d : D} {v : V} (r : Rep K mg (ar B ρ σ H) d v) : SR K mg E B (ρ.set i (.fz d)) (σ.set i (some v)) H :=
  S.put i (fun _ _ z => by cases z) (fun _ z => by cases z) fun d' z => by cases z; exact ⟨v, rfl, r⟩
theorem SR.setNo (S : SR K mg E B ρ σ H) (i : Nat) (o : Option V) : SR K mg E B (ρ.set i .no) (σ.set i o) H :=
  S.put i (fun _ _ z => by cases z) (fun _ z => by cases z) fun d' z => by cases z
/-- a slot gets a new list -/
theorem SR.setOw (S : SR K mg E B ρ σ H) (i : Nat) {k0 : OwK} {ds : List D} {vs : List V} {o0 : HO} {a : Addr} (ha : H a = none) (e : Same H H1) (h1 : H1 a = some o0) (hk0 : HOK mg a k0 vs o0) (r : Reps K mg (ar (B.add a) ρ σ H1) (k0.all ds) vs) : SR K mg E B (ρ.set i (.oo k0 ds)) (σ.set i (some (.ref a))) H1 := by
  have S0 := S.setNo i (some (.ref a))
  have hlen := S.len
  have gne : ∀ {j : Nat} {sl : Sl}, i ≠ j → (ρ.set i sl)[j]? = ρ[j]? := fun {j sl} hj => List.getElem?_set_ne hj
  have sne : ∀ {j : Nat} {o : Option V}, i ≠ j → (σ.set i o)[j]? = σ[j]? := fun {j o} hj => List.getElem?_set_ne hj
  have geq : ∀ {x sl : Sl}, (ρ.set i sl)[i]? = some x → x = sl ∧ i < ρ.length := fun {x sl} h => by
    by_cases hl : i < ρ.length
    · rw [List.getElem?_set_self hl] at h
      cases h
      exact ⟨rfl, hl⟩
    · rw [List.getElem?_eq_none (by rw [List.length_set]; omega)] at h
      cases h
  have seq : ∀ {o : Option V}, i < ρ.length → (σ.set i o)[i]? = some o := fun {o} hl => List.getElem?_set_self (by omega)
  have noOwn : ¬ Own ρ σ a := fun z => by
    obtain ⟨ws, q⟩ := S.there z
    rw [ha] at q; cases q
  have noX : ¬ B.X a := fun z => by
    obtain ⟨o, q⟩ := S.xt a z
    rw [ha] at q; cases q
  have own' : ∀ b, Own (ρ.set i (.oo k0 ds)) (σ.set i (some (.ref a))) b → b = a ∨ (Own ρ σ b ∧ Own (ρ.set i .no) (σ.set i (some (.ref a))) b) := fun b ⟨j, l, es, q1, q2⟩ => by
    by_cases hj : i = j
    · subst hj
      obtain ⟨_, hl⟩ := geq q1
      rw [seq hl] at q2
      cases q2
      exact .inl rfl
    · rw [gne hj] at q1
      rw [sne hj] at q2
      exact .inr ⟨⟨j, l, es, q1, q2⟩, j, l, es, by rw [gne hj]; exact q1, by rw [sne hj]; exact q2⟩
  have arS : ∀ {ρ2 : Rho} {σ2 : St}, (∀ b, Own (ρ.set i (.oo k0 ds)) (σ.set i (some (.ref a))) b → b = a ∨ Own ρ2 σ2 b) → Same (ar (B.add a) ρ2 σ2 H1) (ar B (ρ.set i (.oo k0 ds)) (σ.set i (some (.ref a))) H1) := fun {ρ2 σ2} hs b o h => by
    unfold ar at h ⊢
    split at h
    · cases h
    · rename_i hx
      have hx' : ¬ (B.X b ∨ Own (ρ.set i (.oo k0 ds)) (σ.set i (some (.ref a))) b) := fun z => by
        rcases z with z | z
        · exact hx (.inl (.inr z))
        · rcases hs b z with z | z
          · exact hx (.inl (.inl z))
          · exact hx (.inr z)
      rw [if_neg hx']
      exact h
  have old : Same (ar B (ρ.set i .no) (σ.set i (some (.ref a))) H) (ar B (ρ.set i (.oo k0 ds)) (σ.set i (some (.ref a))) H1) := fun b o h =>
    arS (fun b z => (own' b z).imp id And.right) _ _ (ar_new (S.newB ha) ha e _ _ h)
  refine ⟨by rw [List.length_set, List.length_set]; exact hlen, fun j d h => ?_, fun j l es h => ?_, fun j k b l1 l2 es fs q1 q2 q3 q4 => ?_, fun j C h => ?_, S.gh, S.bh.trans e, fun b hb => ?_, fun b hb ho => ?_, fun b hb => ?_⟩
  · by_cases hj : i = j
    · subst hj
      cases (geq h).1
    · rw [gne hj] at h
      obtain ⟨v, e1, r'⟩ := S0.fz j d (by rw [gne hj]; exact h)
      exact ⟨v, e1, r'.mono old⟩
  · by_cases hj : i = j
    · subst hj
      obtain ⟨q, hl⟩ := geq h
      cases q
      exact ⟨a, o0, vs, seq hl, h1, hk0, r.mono (arS fun b z => (own' b z).imp id And.left)⟩
    · rw [gne hj] at h
      obtain ⟨b, o1, ws, e1, e2, hk, r'⟩ := S0.ow j l es (by rw [gne hj]; exact h)
      exact ⟨b, o1, ws, e1, e _ _ e2, hk, r'.mono old⟩
  · by_cases hj : i = j
    · subst hj
      obtain ⟨_, hl⟩ := geq q1
      rw [seq hl] at q3
      cases q3
      by_cases hk : i = k
      · exact hk
      · rw [gne hk] at q2
        rw [sne hk] at q4
        exact absurd ⟨k, l2, fs, q2, q4⟩ noOwn
    · rw [gne hj] at q1
      rw [sne hj] at q3
      by_cases hk : i = k
      · subst hk
        obtain ⟨_, hl⟩ := geq q2
        rw [seq hl] at q4
        cases q4
        exact absurd ⟨j, l1, es, q1, q3⟩ noOwn
      · rw [gne hk] at q2
        rw [sne hk] at q4
        exact S.dj j k b l1 l2 es fs q1 q2 q3 q4
  · by_cases hj : i = j
    · subst hj
      cases (geq h).1
    · rw [gne hj] at h
      rw [sne hj]
      exact S.ex j C h
  · rcases hb with hb | hb
    · exact S.new b (.inl hb)
    · rcases own' b hb with rfl | hb
      · exact S.newB ha
      · exact S.new b (.inr hb.1)
  · rcases own' b ho with rfl | ho
    · exact noX hb
    · exact S.xo b hb ho.1
  · obtain ⟨o, q⟩ := S.xt b hb
    exact ⟨o, e _ _ q⟩
/-- the list of a slot is written -/
theorem SR.updO (S : SR K mg E B ρ σ H) {i : Nat} {k0 k1 : OwK} {ds ds' : List D} {vs' : List V} {o0 : HO} {a : Addr} (h1 : ρ[i]? = some (.oo k0 ds)) (h2 : σ[i]? = some (some (.ref a))) (hk1 : HOK mg a k1 vs' o0) (r : Reps K mg (ar B ρ σ H) (k1.all ds') vs') : SR K mg E B (ρ.set i (.oo k1 ds')) σ (upd H a o0) := by
  have hl : i < ρ.length := (List.getElem?_eq_some_iff.mp h1).1
  have own' : ∀ b, Own (ρ.set i (.oo k1 ds')) σ b → Own ρ σ b := fun b ⟨j, l, es, q1, q2⟩ => by
    by_cases hj : i = j
    · subst hj
      exact ⟨i, k0, ds, h1, q2⟩
    · rw [List.getElem?_set_ne hj] at q1
      exact ⟨j, l, es, q1, q2⟩
  have oa : Own ρ σ a := ⟨i, k0, ds, h1, h2⟩
  have same : Same (ar B ρ σ H) (ar B (ρ.set i (.oo k1 ds')) σ (upd H a o0)) := by
    have : ar B ρ σ H = ar B ρ σ (upd H a o0) := (ar_upd (.inr oa)).symm
    rw [this]
    exact ar_own own'
  refine ⟨by rw [List.length_set]; exact S.len, fun j d h => ?_, fun j l es h => ?_, fun j k b l1 l2 es fs q1 q2 q3 q4 => ?_, fun j C h => ?_, S.gh, fun b o h => ?_, fun b hb => S.new b (hb.imp id (own' b)), fun b hb ho => S.xo b hb (own' b ho), fun b hb => ?_⟩
  · by_cases hj : i = j
    · subst hj
      rw [List.getElem?_set_self hl] at h
      cases h
    · rw [List.getElem?_set_ne hj] at h
      obtain ⟨v, e1, r'⟩ := S.fz j d h
      exact ⟨v, e1, r'.mono same⟩
  · by_cases hj : i = j
    · subst hj
      rw [List.getElem?_set_self hl] at h
      cases h
      exact ⟨a, o0, vs', h2, upd_same, hk1, r.mono same⟩
    · rw [List.getElem?_set_ne hj] at h
      obtain ⟨b, o1, ws, e1, e2, hk, r'⟩ := S.ow j l es h
      refine ⟨b, o1, ws, e1, ?_, hk, r'.mono same⟩
      have : b ≠ a := fun z => by
        subst z
        exact hj (S.dj i j b k0 l ds es h1 h h2 e1)
      rw [upd_ne this]
      exact e2
  · have get : ∀ {l : Nat} {lk : OwK} {gs : List D}, (ρ.set i (.oo k1 ds'))[l]? = some (.oo lk gs) → ∃ lk' gs', ρ[l]? = some (.oo lk' gs') := fun {l lk gs} h => by
      by_cases hj : i = l
      · subst hj
        exact ⟨k0, ds, h1⟩
      · rw [List.getElem?_set_ne hj] at h
        exact ⟨lk, gs, h⟩
    obtain ⟨m1, g1, p1⟩ := get q1
    obtain ⟨m2, g2, p2⟩ := get q2
    exact S.dj j k b m1 m2 g1 g2 p1 p2 q3 q4
  · by_cases hj : i = j
    · subst hj
      rw [List.getElem?_set_self hl] at h
      cases h
    · rw [List.getElem?_set_ne hj] at h
      exact S.ex j C h
  · have : b ≠ a := fun z => by
      subst z
      rw [S.new b (.inr oa)] at h
      cases h
    rw [upd_ne this]
    exact S.bh _ _ h
  · obtain ⟨o, q⟩ := S.xt b hb
    have : b ≠ a := fun z => by
      subst z
      exact S.xo b hb oa
    exact ⟨o, by rw [upd_ne this]; exact q⟩
theorem SR.updOw (S : SR K mg E B ρ σ H) {i : Nat} {ds ds' : List D} {vs' : List V} {a : Addr} (h1 : ρ[i]? = some (.ow ds)) (h2 : σ[i]? = some (some (.ref a))) (r : Reps K mg (ar B ρ σ H) ds' vs') : SR K mg E B (ρ.set i (.ow ds')) σ (upd H a (.lst vs')) := S.updO h1 h2 (k1 := .lst) rfl r
/-- what is written besides -/
theorem SR.updX (S : SR K mg E B ρ σ H) {a : Addr} {o : HO} (h : B.X a) : SR K mg E B ρ σ (upd H a o) := by
  have same : ar B ρ σ (upd H a o) = ar B ρ σ H := ar_upd (.inl h)
  refine ⟨S.len, fun j d h => ?_, fun j l es h' => ?_, S.dj, S.ex, S.gh, fun b o' h' => ?_, S.new, S.xo, fun b hb => ?_⟩
  · rw [same]
    exact S.fz j d h
  · rw [same]
    obtain ⟨b, o1, ws, e1, e2, hk, r'⟩ := S.ow j l es h'
    have : b ≠ a := fun z => by
      subst z
      exact S.xo b h ⟨j, l, es, h', e1⟩
    exact ⟨b, o1, ws, e1, by rw [upd_ne this]; exact e2, hk, r'⟩
  · have : b ≠ a := fun z => by
      subst z
      rw [S.new b (.inl h)] at h'
      cases h'
    rw [upd_ne this]
    exact S.bh _ _ h'
  · by_cases e : b = a
    · subst e
      exact ⟨o, upd_same⟩
    · obtain ⟨o', q⟩ := S.xt b hb
      exact ⟨o', by rw [upd_ne e]; exact q⟩
theorem SR.wipe (S : SR K mg E B ρ σ H) : ∀ vs : List Nat, SR K mg E B (wipeR ρ vs) (wipe σ vs) H
  | [] => S
  | v :: vs => (S.wipe vs).setNo v none

theorem ar_none {B : Bs} {ρ : Rho} {σ : St} {H : Hp} {b : Addr} (hx : ¬ (B.X b ∨ Own ρ σ b)) (hn : B.H b = none) : ar B ρ σ H b = H b := by
  unfold ar
  rw [if_neg hx, if_pos hn]
theorem ar_some {B : Bs} {ρ : Rho} {σ : St} {H : Hp} {b : Addr} (hx : ¬ (B.X b ∨ Own ρ σ b)) (hn : ¬ B.H b = none) : ar B ρ σ H b = B.G b := by
  unfold ar
  rw [if_neg hx, if_neg hn]
theorem ar_out {B : Bs} {ρ : Rho} {σ : St} {H : Hp} {b : Addr} (hx : B.X b ∨ Own ρ σ b) : ar B ρ σ H b = none := by
  unfold ar
  rw [if_pos hx]
/-! ### a new start, for a loop's turns -/
noncomputable def Bs.re (B : Bs) (ρ : Rho) (σ : St) (H : Hp) : Bs := ⟨ar B ρ σ H, hid B ρ σ H, B.X⟩
theorem SR.re (S : SR K mg E B ρ σ H) : SR K mg E (B.re ρ σ H) ρ σ H := by
  have e : ar (B.re ρ σ H) ρ σ H = ar B ρ σ H := by
    funext b
    by_cases hx : B.X b ∨ Own ρ σ b
    · have hx' : (B.re ρ σ H).X b ∨ Own ρ σ b := hx
      rw [ar_out hx, ar_out hx']
    · have hx' : ¬ ((B.re ρ σ H).X b ∨ Own ρ σ b) := hx
      have hh : (B.re ρ σ H).H b = H b := by
        show hid B ρ σ H b = H b
        unfold hid
        rw [if_neg hx]
      by_cases hn : H b = none
      · rw [ar_none hx' (hh.trans hn), ar_none hx (S.newB hn)]
      · rw [ar_some hx' (fun z => hn (hh.symm.trans z))]
        rfl
  refine ⟨S.len, fun j d h => ?_, fun j l es h => ?_, S.dj, S.ex, fun b o h => ?_, hid_sub, fun b hb => ?_, S.xo, S.xt⟩
  · rw [e]; exact S.fz j d h
  · rw [e]; exact S.ow j l es h
  · exact ar_hid S (fun _ z => z) _ _ h
  · show hid B ρ σ H b = none
    have hb' : B.X b ∨ Own ρ σ b := hb
    unfold hid
    rw [if_pos hb']
theorem ar_back {ρ' : Rho} {σ' : St} {H' : Hp} (S : SR K mg E B ρ σ H) (e : Same (hid B ρ σ H) H') : Same (ar (B.re ρ σ H) ρ' σ' H') (ar B ρ' σ' H') := fun b o h => by
  unfold ar at h
  split at h
  · cases h
  · rename_i hx
    have hx' : ¬ (B.X b ∨ Own ρ' σ' b) := hx
    split at h
    · rename_i hn
      have hn : hid B ρ σ H b = none := hn
      have : B.H b = none := by
        by_cases z : B.X b ∨ Own ρ σ b
        · exact S.new b z
        · unfold hid at hn
          rw [if_neg z] at hn
          exact S.newB hn
      rw [ar_none hx' this]
      exact h
    · have h' : ar B ρ σ H b = some o := h
      have hh := ar_hid S (fun _ z => z) _ _ h'
      unfold ar at h'
      split at h'
      · cases h'
      · split at h'
        · rename_i hn
          rw [ar_none hx' hn]
          exact e _ _ hh
        · rename_i hn
          rw [ar_some hx' hn]
          exact h'
theorem bh_back {H' : Hp} (S : SR K mg E B ρ σ H) (e : Same (hid B ρ σ H) H') : Same B.H H' := fun b o h => by
  refine e _ _ ?_
  have hx : ¬ (B.X b ∨ Own ρ σ b) := fun z => by
    rw [S.new b z] at h
    cases h
  unfold hid
  rw [if_neg hx]
  exact S.bh _ _ h
theorem SR.back {ρ' : Rho} {σ' : St} {H' : Hp} (S : SR K mg E B ρ σ H) (T : SR K mg E (B.re ρ σ H) ρ' σ' H') : SR K mg E B ρ' σ' H' where
  len := T.len
  fz := fun i d h => let ⟨v, h1, h2⟩ := T.fz i d h; ⟨v, h1, h2.mono (ar_back S T.bh)⟩
  ow := fun i k d h => let ⟨a, o, vs, h1, h2, hk, h3⟩ := T.ow i k d h; ⟨a, o, vs, h1, h2, hk, h3.mono (ar_back S T.bh)⟩
  dj := T.dj
  ex := T.ex
  gh := S.gh
  bh := bh_back S T.bh
  new := fun b hb => by
    have hn : hid B ρ σ H b = none := T.new b hb
    by_cases z : B.X b ∨ Own ρ σ b
    · exact S.new b z
    · unfold hid at hn
      rw [if_neg z] at hn
      exact S.newB hn
  xo := T.xo
  xt := T.xt
end
end Dm
end

section
set_option Elab.async false
set_option linter.all false
set_option maxRecDepth 100000
set_option maxHeartbeats 4000000
/-! Dm: statements; the rule of a def. -/
namespace Dm
open PySem PySem.Spec L2 TL
open PyProof.Rows (envOfC)

def GS (K : PySem.W.Frag) (mg : Str → Option Value) (E : ExE) (W : WX) (B : Bs) (D : Ends) : Res Out → Prop
  | .ok (.nx ρ) => ∀ σ H, SR K mg E B ρ σ H → D.nx σ H
  | .ok (.rt d fr) => ∀ v H, Same B.H H → RF K mg B.G B.H H d fr v → D.rt v H
  | .ok (.bk ρ) => ∀ σ H, SR K mg E B ρ σ H → D.bk σ H
  | .ok (.ct ρ) => ∀ σ H, SR K mg E B ρ σ H → D.ct σ H
  | .ok (.ex C ρ) => ∀ σ H, SR K mg E B ρ σ H → W (clsV mg C) none σ H
  | .ex _ => False
  | .bad => False
def tS (K : PySem.W.Frag) (mg : Str → Option Value) (E : ExE) (W : WX) (m : SM) : TS := fun D σ H => ∃ B ρ, SR K mg E B ρ σ H ∧ GS K mg E W B D (m ρ)
abbrev PSM (X : Cx) (E : ExE) (W : WX) (s : Stmt) (m : SM) : Prop := PS X s (tS X.K X.mg E W m)
abbrev PSsM (X : Cx) (E : ExE) (W : WX) (s : List Stmt) (m : SM) : Prop := PSs X s (tS X.K X.mg E W m)
section
variable {K : PySem.W.Frag} {mg : Str → Option Value} {E : ExE} {W : WX} {B : Bs} {ρ : Rho} {σ : St} {H H1 H2 : Hp} {D : Ends} {α : Type}
/-- an expression ahead of a statement's rest -/
theorem GS.bindE {m : EM} {f : Val → Res Out} {R : VK} (S : SR K mg E B ρ σ H) (h : GS K mg E W B D ((m ρ).st ρ f))
    (k : ∀ (d : Dm.D) (t : Tg) (v : V) (H1 : Hp), RT K mg B ρ σ H H1 d t v → Same H H1 → SR K mg E B ρ σ H1 → GS K mg E W B D (f (d, t)) → R v H1) : tE K mg E W m σ H R := by
  refine ⟨B, ρ, S, ?_⟩
  cases e : m ρ with
  | ok x =>
    rw [e] at h
    exact fun v H' s r => k x.1 x.2 v H' r s (S.mono s) h
  | ex C =>
    rw [e] at h
    exact fun H' s => h σ H' (S.mono s)
  | bad =>
    rw [e] at h
    exact h
theorem GS.bindT {m : TM} {f : Bool → Res Out} {R : Bool → Hp → Prop} (S : SR K mg E B ρ σ H) (h : GS K mg E W B D ((m ρ).st ρ f))
    (k : ∀ (b : Bool) (H1 : Hp), Same H H1 → SR K mg E B ρ σ H1 → GS K mg E W B D (f b) → R b H1) : tT K mg E W m σ H R := by
  refine ⟨B, ρ, S, ?_⟩
  cases e : m ρ with
  | ok x =>
    rw [e] at h
    exact fun H' s => k x H' s (S.mono s) h
  | ex C =>
    rw [e] at h
    exact fun H' s => h σ H' (S.mono s)
  | bad =>
    rw [e] at h
    exact h
theorem GS.bindI {m : WM} {f : List Dm.D × Option Nat → Res Out} {R : It → Hp → Prop} (S : SR K mg E B ρ σ H) (h : GS K mg E W B D ((m ρ).st ρ f))
    (k : ∀ (p : List Dm.D × Option Nat) (J : It) (H1 : Hp), Same H H1 → SR K mg E B ρ σ H1 → Wk K mg (ar B ρ σ H1) (hid B (frzO p.2 ρ) σ H1) J p.1 → GS K mg E W B D (f p) → R J H1) : tI K mg E W m σ H R := by
  refine ⟨B, ρ, S, ?_⟩
  cases e : m ρ with
  | ok x =>
    rw [e] at h
    exact fun J H' s S' w => k x J H' s S' w h
  | ex C =>
    rw [e] at h
    exact fun H' s => h σ H' (S.mono s)
  | bad =>
    rw [e] at h
    exact h
/-- a value is laid into a slot -/
theorem putV_ok {i : Nat} {d : Dm.D} {t : Tg} {v : V} {ρ' : Rho} (S : SR K mg E B ρ σ H) (e : Same H H1) (r : RT K mg B ρ σ H H1 d t v) (h : putV i (d, t) ρ = .ok ρ') : SR K mg E B ρ' (σ.set i (some v)) H1 := by
  cases t with
  | cl =>
    cases h
    exact (S.mono e).setFz i r
  | own j =>
    obtain ⟨k, ds, h1, rfl, h3⟩ := r
    have h' : Res.ok ((Dm.frz j ρ).set i (.fz (k.asD ds))) = .ok ρ' := by cases k <;> exact h
    cases h'
    have S2 := (S.mono e).frz j
    have hf : (Dm.frz j ρ)[j]? = some (.fz (k.asD ds)) := by
      unfold Dm.frz
      rw [h1]
      exact List.getElem?_set_self (List.getElem?_eq_some_iff.mp h1).1
    obtain ⟨u, h4, h5⟩ := S2.fz j _ hf
    rw [h3] at h4
    cases h4
    exact S2.setFz i h5
  | fr =>
    obtain ⟨a, o, k, ds, vs, rfl, rfl, q3, q4, hk, q5⟩ := r
    have h' : Res.ok (ρ.set i (.oo k ds)) = .ok ρ' := by cases k <;> exact h
    cases h'
    exact S.setOw i q3 e q4 hk q5
theorem putAll_ok : ∀ {is : List Nat} {ds : List Dm.D} {vs : List V} {ρ ρ' : Rho} {σ : St}, SR K mg E B ρ σ H → Reps K mg (ar B ρ σ H) ds vs → putAll is ds ρ = .ok ρ' → is.length = vs.length ∧ SR K mg E B ρ' ((is.zip vs).foldl (fun s p => s.set p.1 (some p.2)) σ) H := by
  intro is
  induction is with
  | nil =>
    intro ds vs ρ ρ' σ S r h
    cases r with
    | nil =>
      cases h
      exact ⟨rfl, S⟩
    | cons _ _ => cases h
  | cons i is ih =>
    intro ds vs ρ ρ' σ S r h
    cases r with
    | nil => cases h
    | cons r1 r2 =>
      rename_i d v ds vs
      have S' := S.setFz i r1
      have sub : ∀ b, Own (ρ.set i (.fz d)) (σ.set i (some v)) b → Own ρ σ b := fun b ⟨j, l, es, q1, q2⟩ => by
        by_cases hj : i = j
        · subst hj
          by_cases hl : i < ρ.length
          · rw [List.getElem?_set_self hl] at q1
            cases q1
          · rw [List.getElem?_eq_none (by rw [List.length_set]; omega)] at q1
            cases q1
        · rw [List.getElem?_set_ne hj] at q1 q2
          exact ⟨j, l, es, q1, q2⟩
      obtain ⟨e1, e2⟩ := ih S' (r2.mono (ar_own sub)) h
      exact ⟨by rw [List.length_cons, List.length_cons, e1], e2⟩
/-- a result leaves the def -/
theorem rt_ok {d : Dm.D} {t : Tg} {v : V} (S : SR K mg E B ρ σ H) (e : Same H H1) (r : RT K mg B ρ σ H H1 d t v) : RF K mg B.G B.H H1 d (match t with | .cl => false | _ => true) v := by
  have S1 := S.mono e
  have key : ∀ {B2 : Bs}, (∀ b, B2.X b → B.X b ∨ Own ρ σ b) → B2.G = B.G → B2.H = B.H → Same (ar B ρ σ H1) (ar B2 [] [] H1) := fun {B2} hx eG eH b o h => by
    by_cases hz : B.X b ∨ Own ρ σ b
    · rw [ar_out hz] at h
      cases h
    · have hz2 : ¬ (B2.X b ∨ Own [] [] b) := fun z => z.elim (fun q => hz (hx b q)) own_nil
      by_cases hn : B.H b = none
      · rw [ar_none hz hn] at h
        rw [ar_none hz2 (by rw [eH]; exact hn)]
        exact h
      · rw [ar_some hz hn] at h
        rw [ar_some hz2 (by rw [eH]; exact hn), eG]
        exact h
  cases t with
  | cl => exact Rep.mono (key (B2 := Bs.of B.G B.H) (fun b z => z.elim) rfl rfl) r
  | own i =>
    obtain ⟨k, ds, h1, rfl, h3⟩ := r
    obtain ⟨a, o, vs, e1, e2, hk, e3⟩ := S1.ow i k ds h1
    rw [h3] at e1
    cases e1
    have oa : Own ρ σ a := ⟨i, k, ds, h1, h3⟩
    exact ⟨a, o, k, ds, vs, rfl, rfl, S.new a (.inr oa), e2, hk, e3.mono (key (B2 := (Bs.of B.G B.H).add a) (fun b z => z.elim (fun q => .inr (q ▸ oa)) (fun q => q.elim)) rfl rfl)⟩
  | fr =>
    obtain ⟨a, o, k, ds, vs, rfl, rfl, q3, q4, hk, q5⟩ := r
    refine ⟨a, o, k, ds, vs, rfl, rfl, S.newB q3, q4, hk, q5.mono fun b o h => ?_⟩
    have hb : b ≠ a := fun z => by
      rw [ar_out (.inl (show (B.add a).X b from .inl z))] at h
      cases h
    have h2 := key (B2 := Bs.of B.G B.H) (fun b z => z.elim) rfl rfl b o (ar_add b o h)
    rw [ar_add_ne (a := a) hb] at h2
    exact h2
end
section
variable {X : Cx} {E : ExE} {W : WX} {pos p : Pos} {a b c e : Expr} {ma mb mc : EM} {ta : TM} {st : Stmt} {sts : List Stmt} {m1 m2 : SM}
theorem psm_nil : PSsM X E W [] smSkip := PSs.imp pss_nil fun D σ H ⟨B, ρ, S, h⟩ => h σ H S
theorem psm_cons (h1 : PSM X E W st m1) (h2 : PSsM X E W sts m2) : PSsM X E W (st :: sts) (smSeq m1 m2) :=
  PSs.imp (pss_cons h1 h2) fun D σ H ⟨B, ρ, S, h⟩ => by
    refine ⟨B, ρ, S, ?_⟩
    unfold smSeq at h
    cases e : m1 ρ with
    | ok o =>
      rw [e] at h
      cases o with
      | nx ρ' => exact fun σ' H' S' => ⟨B, ρ', S', h⟩
      | rt d fr => exact h
      | bk ρ' => exact h
      | ct ρ' => exact h
      | ex C ρ' => exact h
    | ex C => rw [e] at h; exact h.elim
    | bad => rw [e] at h; exact h
theorem psm_one (h1 : PSM X E W st m1) : PSsM X E W [st] m1 := PSs.imp (pss_one h1) fun D σ H h => h
theorem psm_pass : PSM X E W (.Pass pos) smSkip := PS.imp ps_pass fun D σ H ⟨B, ρ, S, h⟩ => h σ H S
theorem psm_break : PSM X E W (.Break pos) smBreak := PS.imp ps_break fun D σ H ⟨B, ρ, S, h⟩ => h σ H S
theorem psm_cont : PSM X E W (.Continue pos) smCont := PS.imp ps_continue fun D σ H ⟨B, ρ, S, h⟩ => h σ H S
theorem psm_never : PSM X E W st smNever := PS.imp ps_never fun D σ H ⟨B, ρ, S, h⟩ => h
theorem psm_expr (ha : PM X E W a ma) (hs : swapsWith a none pos.line X.env = pure false := by rfl) : PSM X E W (.Expr a pos) (smExpr ma) :=
  PS.imp (ps_expr ha hs) fun D σ H ⟨B, ρ, S, h⟩ => GS.bindE S h fun x tx vx H1 rx e1 S1 h1 => h1 σ H1 S1
theorem psm_ret (ha : PM X E W a ma) : PSM X E W (.Return (some a) pos) (smRet ma) :=
  PS.imp (ps_ret ha) fun D σ H ⟨B, ρ, S, h⟩ => GS.bindE S h fun x tx vx H1 rx e1 S1 h1 => by
    have r := rt_ok S e1 rx
    cases tx <;> exact h1 vx H1 S1.bh r
theorem psm_retN : PSM X E W (.Return none pos) smRetN := PS.imp ps_retN fun D σ H ⟨B, ρ, S, h⟩ => h .non H S.bh Rep.non
theorem psm_if {s1 s2 : List Stmt} (hc : PMT X E W c ta) (ha : PSsM X E W s1 m1) (hb : PSsM X E W s2 m2) : PSM X E W (.If c s1 s2 pos) (smIf ta m1 m2) :=
  PS.imp (ps_if hc ha hb) fun D σ H ⟨B, ρ, S, h⟩ => GS.bindT S h fun k H1 e1 S1 h1 => by
    cases k with
    | true => exact iteT ⟨B, ρ, S1, h1⟩
    | false => exact iteF ⟨B, ρ, S1, h1⟩
theorem psm_set (i : Nat) {x : Str} {pos' : Pos} (hN : X.N.Nodup) (ha : PM X E W a ma) (hi : X.N[i]? = some x := by rfl) (hx : Loc X.env.scope x := by first | exact Or.inl rfl | exact Or.inr rfl)
    (hs : swapsWith a (some (.Name x pos')) pos.line X.env = pure false := by rfl) (hf : X.fn x = true ∨ X.env.scope.names.lookup x = some .local := by first | exact .inl rfl | exact .inr rfl) : PSM X E W (.Assign [.Name x pos'] a pos) (smSet i ma) :=
  PS.imp (ps_set hN hi hx ha hs hf) fun D σ H ⟨B, ρ, S, h⟩ => GS.bindE S h fun x tx vx H1 rx e1 S1 h1 => by
    show D.nx (σ.set i (some vx)) H1
    cases e : putV i (x, tx) ρ with
    | ok ρ' =>
      rw [e] at h1
      exact h1 _ H1 (putV_ok S e1 rx e)
    | ex C => rw [e] at h1; exact h1.elim
    | bad => rw [e] at h1; exact h1.elim
/-! targets -/
def PutOk (K : PySem.W.Frag) (mg : Str → Option Value) (E : ExE) (g : TG) (put : Dm.D → Rho → Res Rho) : Prop := ∀ (B : Bs) (ρ ρ' : Rho) (σ : St) (H : Hp) (d : Dm.D) (v : V) (Q : St → Hp → Prop),
  SR K mg E B ρ σ H → Rep K mg (ar B ρ σ H) d v → put d ρ = .ok ρ' → (∀ σ', SR K mg E B ρ' σ' H → Q σ' H) → g v σ H Q
theorem put1_ok {K : PySem.W.Frag} {mg : Str → Option Value} (i : Nat) : PutOk K mg E (gName i) (put1 i) := fun B ρ ρ' σ H d v Q S r h k => by
  cases h
  exact k _ (S.setFz i r)
/-- the targets' slots, one by one -/
def gNames : List Nat → TGs
  | [] => gNil
  | i :: is => gCons (gName i) (gNames is)
theorem gNames_run : ∀ {is : List Nat} {vs : List V} {σ : St} {H : Hp} {Q : St → Hp → Prop}, is.length = vs.length → Q ((is.zip vs).foldl (fun s p => s.set p.1 (some p.2)) σ) H → gNames is vs σ H Q
  | [], [], σ, H, Q, _, h => ⟨rfl, h⟩
  | i :: is, v :: vs, σ, H, Q, hl, h => ⟨v, vs, rfl, gNames_run (by simpa using hl) h⟩
  | [], _ :: _, _, _, _, hl, _ => by cases hl
  | _ :: _, [], _, _, _, hl, _ => by cases hl
theorem putT_ok {K : PySem.W.Frag} {mg : Str → Option Value} (is : List Nat) (n : Nat) (hn : is.length = n) : PutOk K mg E (gTup K n (gNames is)) (putT is) := fun B ρ ρ' σ H d v Q S r h k => by
  unfold putT at h
  split at h
  · rename_i ds
    cases r with
    | tup hv r =>
      obtain ⟨e1, e2⟩ := putAll_ok S r h
      exact ⟨_, _, rfl, same_tup S.sub hv, by rw [← e1]; exact hn, gNames_run e1 (k _ e2)⟩
  · cases h
theorem psm_unp {is : List Nat} {es : List Expr} {n k : Nat} {tpos : Pos} (ha : PM X E W a ma) (hn : is.length = n) (hg : PG X (.Tuple es k tpos) (gTup X.K n (gNames is))) (hs : swapsWithSole [.Tuple es k tpos] a pos.line X.env = pure false := by rfl) (hw : swappedStores [.Tuple es k tpos] a X.env = pure none := by rfl) :
    PSM X E W (.Assign [.Tuple es k tpos] a pos) (smUnp is ma) :=
  PS.imp (ps_asg ha hg hs hw) fun D σ H ⟨B, ρ, S, h⟩ => GS.bindE S h fun x tx vx H1 rx e1 S1 h1 => by
    have rp := rx.rp S1
    cases rp <;> first | exact False.elim h1 | skip
    case tup q ds vs hv r =>
      have h2 : GS X.K X.mg E W B D ((putAll is ds ρ).bind fun ρ' => .ok (.nx ρ')) := h1
      cases e : putAll is ds ρ with
      | ok ρ' =>
        rw [e] at h2
        obtain ⟨q1, q2⟩ := putAll_ok S1 r e
        exact ⟨q, vs, rfl, same_tup S1.sub hv, by rw [← q1]; exact hn, gNames_run q1 (h2 _ H1 q2)⟩
      | ex C => rw [e] at h2; exact h2.elim
      | bad => rw [e] at h2; exact h2.elim
theorem GS.bindA {X : Cx} {E : ExE} {W : WX} {B : Bs} {ρ : Rho} {σ : St} {H : Hp} {D : Ends} {m : AM} {f : List Val → Res Out} {R : List V → Hp → Prop} (S : SR X.K X.mg E B ρ σ H) (h : GS X.K X.mg E W B D ((m ρ).st ρ f))
    (k : ∀ (xs : List Val) (vs : List V) (H1 : Hp), RTs X.K X.mg B ρ σ H H1 xs vs → Same H H1 → SR X.K X.mg E B ρ σ H1 → GS X.K X.mg E W B D (f xs) → R vs H1) : tA X.K X.mg E W m σ H R := by
  refine ⟨B, ρ, S, ?_⟩
  cases e : m ρ with
  | ok x =>
    rw [e] at h
    exact fun vs H' s r => k x vs H' r s (S.mono s) h
  | ex C =>
    rw [e] at h
    exact fun H' s => h σ H' (S.mono s)
  | bad =>
    rw [e] at h
    exact h
theorem psm_par (i j : Nat) {x y : Str} {am : AM} {c d : Expr} {px py pt : Pos} {kt k2 pt2} (hN : X.N.Nodup) (ha : PMA X E W [c, d] am) (hi : X.N[i]? = some x := by rfl) (hj : X.N[j]? = some y := by rfl) (hij : i ≠ j := by decide) (hc : X.calm = true := by rfl)
    (hx : X.env.scope.names.lookup x = some .local := by rfl) (hy : X.env.scope.names.lookup y = some .local := by rfl)
    (hw : swappedStores [.Tuple [.Name x px, .Name y py] kt pt] (.Tuple [c, d] k2 pt2) X.env = pure (some [x, y]) := by rfl)
    (hs : swapsWithSole [.Tuple [.Name x px, .Name y py] kt pt] (.Tuple [c, d] k2 pt2) pos.line X.env = pure false := by rfl) :
    PSM X E W (.Assign [.Tuple [.Name x px, .Name y py] kt pt] (.Tuple [c, d] k2 pt2) pos) (smPar [i, j] am) :=
  PS.imp (ps_par hc hN hi hj hij hx hy ha hw hs) fun D σ H ⟨B, ρ, S, h⟩ => GS.bindA S h fun xs vs H1 rs e1 S1 h1 => by
    cases ek : kept xs with
    | ok ds =>
      rw [ek] at h1
      obtain ⟨h0, hk⟩ := kept_ok ek
      subst h0
      have r := rs.keep S e1 hk
      have h2 : GS X.K X.mg E W B D ((putAll [i, j] (xs.map (·.1)) ρ).bind fun ρ' => .ok (.nx ρ')) := h1
      cases e : putAll [i, j] (xs.map (·.1)) ρ with
      | ok ρ' =>
        rw [e] at h2
        obtain ⟨q1, q2⟩ := putAll_ok S1 r e
        match vs, q1, q2 with
        | [v, w], _, q2 => exact ⟨v, w, rfl, h2 _ H1 q2⟩
      | ex C => rw [e] at h2; exact h2.elim
      | bad => rw [e] at h2; exact h2.elim
    | ex C => rw [ek] at h1; exact h1.elim
    | bad => rw [ek] at h1; exact h1.elim
/-! a list of one's own -/
theorem psm_app (i : Nat) {x : Str} {p1 p2 : Pos} (ha : PM X E W a ma) (hN : X.N[i]? = some x := by rfl) (hv : Vis X.env.scope x := by first | exact Or.inl rfl | exact Or.inr (Or.inl rfl) | exact Or.inr (Or.inr rfl)) (hd : (x == ("__debug__" : Str)) = false := by decide)
    (hcd : (x == ("__classdict__" : Str)) = false := by decide) (hbase : attributeBase (.Name x p1) "append" X.env (eval (.Name x p1) X.env) = eval (.Name x p1) X.env := by rfl)
    (hfew : ((backTo p (starEach [a] X.env)).all (fun x => !x.1) && (backToKw p (keywordEach [] X.env)).all (fun x => x.1.isSome) && decide ([a].length + ([] : List Keyword).length + (if ([] : List Keyword).isEmpty then 0 else 1) < 30)) = true := by rfl)
    (hline : (p2.endLine == p.line) = true := by rfl) (hs1 : starEach [a] X.env = (false, eval a X.env) :: starEach [] X.env := by rfl) (hplain : (backTo p (starEach [] X.env)).any (·.1) = false := by rfl)
    (hs : swapsWith (.Call (.Attribute (.Name x p1) "append" p2) [a] [] p) none pos.line X.env = pure false := by rfl) :
    PSM X E W (.Expr (.Call (.Attribute (.Name x p1) "append" p2) [a] [] p) pos) (smApp i ma) :=
  PS.imp (ps_expr (pe_bm PySem.F.plainAttrs_list PySem.F.slot_list_append PySem.F.type_list_append mt_append (pe_var hN hv hd hcd) (pa_cons ha pa_nil hs1) hbase hfew hline hs1 hplain) hs) fun D σ H ⟨B, ρ, S, h⟩ => by
    unfold smApp at h
    split at h
    · rename_i ds e
      obtain ⟨l, vs, e1, e2, e3⟩ := S.owl i ds e
      refine ⟨.ref l, e1, .inl ⟨rfl, vs, .of e2⟩, GS.bindE S h fun y ty vy H1 ry s1 S1 h1 => ?_⟩
      have h2 : GS X.K X.mg E W B D (if (ty.free || y.sc) && decide (ds.length < lim) then .ok (.nx (ρ.set i (.ow (ds ++ [y])))) else .bad) := h1
      split at h2
      · rename_i hc
        rw [Bool.and_eq_true, Bool.or_eq_true, decide_eq_true_eq] at hc
        refine ⟨l, vs, vy, rfl, rfl, s1 _ _ e2, by rw [← e3.length, lim_eq]; exact hc.2, h2 σ _ ?_⟩
        exact S1.updOw e e1 ((e3.mono (ar_mono s1)).app (.cons (ry.keep S s1 hc.1) .nil))
      · exact h2.elim
    · exact h.elim

theorem psm_clear (i : Nat) {x : Str} {p1 p2 : Pos} (hN : X.N[i]? = some x := by rfl) (hv : Vis X.env.scope x := by first | exact Or.inl rfl | exact Or.inr (Or.inl rfl) | exact Or.inr (Or.inr rfl)) (hd : (x == ("__debug__" : Str)) = false := by decide)
    (hcd : (x == ("__classdict__" : Str)) = false := by decide) (hbase : attributeBase (.Name x p1) "clear" X.env (eval (.Name x p1) X.env) = eval (.Name x p1) X.env := by rfl) (hline : (p2.endLine == p.line) = true := by rfl)
    (hs : swapsWith (.Call (.Attribute (.Name x p1) "clear" p2) [] [] p) none pos.line X.env = pure false := by rfl) :
    PSM X E W (.Expr (.Call (.Attribute (.Name x p1) "clear" p2) [] [] p) pos) (smClear i) :=
  PS.imp (ps_expr (pe_bm0 PySem.F.plainAttrs_list PySem.F.slot_list_clear PySem.F.type_list_clear mt_clear (pe_var hN hv hd hcd) hbase hline) hs) fun D σ H ⟨B, ρ, S, h⟩ => by
    unfold smClear at h
    split at h
    · rename_i ds e
      obtain ⟨l, vs, e1, e2, e3⟩ := S.owl i ds e
      exact ⟨.ref l, e1, .inl ⟨rfl, vs, .of e2⟩, l, vs, rfl, rfl, e2, h σ _ (S.updOw e e1 .nil)⟩
    · exact h.elim

/-! loops -/
theorem GS.re {K : PySem.W.Frag} {mg : Str → Option Value} {B : Bs} {ρ : Rho} {σ : St} {H : Hp} {D : Ends} (S : SR K mg E B ρ σ H) {r : Res Out} (h : GS K mg E W B D r) : GS K mg E W (B.re ρ σ H) D r := by
  cases r with
  | ok o =>
    cases o with
    | nx ρ' => exact fun σ' H' T => h σ' H' (S.back T)
    | bk ρ' => exact fun σ' H' T => h σ' H' (S.back T)
    | ct ρ' => exact fun σ' H' T => h σ' H' (S.back T)
    | ex C ρ' => exact fun σ' H' T => h σ' H' (S.back T)
    | rt d fr =>
      intro v H' s r
      have s' : Same (hid B ρ σ H) H' := s
      refine h v H' (bh_back S s') ?_
      -- the area behind
      have key : ∀ {B1 B2 : Bs}, (∀ b, B2.X b → B1.X b) → B1.G = ar B ρ σ H → B1.H = hid B ρ σ H → B2.G = B.G → B2.H = B.H → Same (ar B1 [] [] H') (ar B2 [] [] H') := by
        intro B1 B2 hx g1 g2 g3 g4 b o hb
        by_cases hz : B1.X b ∨ Own [] [] b
        · rw [ar_out hz] at hb
          cases hb
        · have hz2 : ¬ (B2.X b ∨ Own [] [] b) := fun z => hz (z.imp (hx b) id)
          by_cases hn : B1.H b = none
          · have hBn : B.H b = none := by
              rw [g2] at hn
              by_cases z : B.X b ∨ Own ρ σ b
              · exact S.new b z
              · unfold hid at hn
                rw [if_neg z] at hn
                exact S.newB hn
            rw [ar_none hz hn] at hb
            rw [ar_none hz2 (by rw [g4]; exact hBn)]
            exact hb
          · rw [ar_some hz hn, g1] at hb
            have hh := ar_hid S (fun _ z => z) _ _ hb
            by_cases hBn : B.H b = none
            · rw [ar_none hz2 (by rw [g4]; exact hBn)]
              exact s' _ _ hh
            · rw [ar_some hz2 (by rw [g4]; exact hBn), g3]
              have hzz : ¬ (B.X b ∨ Own ρ σ b) := fun z => by
                rw [ar_out z] at hb
                cases hb
              rw [ar_some hzz hBn] at hb
              exact hb
      cases fr with
      | false => exact Rep.mono (key (B1 := Bs.of (ar B ρ σ H) (hid B ρ σ H)) (B2 := Bs.of B.G B.H) (fun _ z => z) rfl rfl rfl rfl) r
      | true =>
        obtain ⟨a, o, k, ds, vs, q1, q2, q3, q4, hk, q5⟩ := r
        refine ⟨a, o, k, ds, vs, q1, q2, ?_, q4, hk, q5.mono (key (B1 := (Bs.of (ar B ρ σ H) (hid B ρ σ H)).add a) (B2 := (Bs.of B.G B.H).add a) (fun _ z => z) rfl rfl rfl rfl)⟩
        have hn : hid B ρ σ H a = none := q3
        by_cases z : B.X a ∨ Own ρ σ a
        · exact S.new a z
        · unfold hid at hn
          rw [if_neg z] at hn
          exact S.newB hn
  | ex C => exact h.elim
  | bad => exact h
theorem psm_for {tg iter : Expr} {body : List Stmt} {wm : WM} {g : TG} {put : Dm.D → Rho → Res Rho} {mb : SM} (hp : PassesOwn (model X.prog X.w) X.A X.env X.xe) (hc : X.calm = true) (hi : PMI X E W tg iter wm) (hg : PG X tg g) (hput : PutOk X.K X.mg E g put) (hb : PSsM X E W body mb)
    (hs : ∀ x, foldedSetIterable iter X.env x = pure x := by intro _; rfl) : PSM X E W (.For tg iter body [] pos) (smFor put wm mb) :=
  PS.imp (ps_for hp hc hi hg hb hs) fun D σ H ⟨B, ρ, S, h⟩ => GS.bindI S h fun q J H1 e1 S1 wk h1 => by
    obtain ⟨ds, o⟩ := q
    have S2 := S1.frzO o
    have T := S2.re
    have h2 := GS.re S2 h1
    refine ⟨fun i m σ' H' => m = ds.length - i ∧ i ≤ ds.length ∧ ∃ ρ', SR X.K X.mg E (B.re (frzO o ρ) σ H1) ρ' σ' H' ∧ GS X.K X.mg E W (B.re (frzO o ρ) σ H1) D (turns put mb (ds.drop i) ρ'), ⟨ds.length, by simp, Nat.zero_le _, frzO o ρ, T, h2⟩, ?_⟩
    rintro i m σ' H' ⟨rfl, hi, ρ', S', h'⟩
    have hbH : Same (hid B (frzO o ρ) σ H1) H' := S'.bh
    by_cases hlt : i < ds.length
    · refine .inr ⟨wk.go i H' hbH hlt, ?_⟩
      have hd : ds.drop i = ds[i] :: ds.drop (i + 1) := List.drop_eq_getElem_cons hlt
      rw [hd] at h'
      refine ⟨fun σ2 H2 => ∃ ρ2, SR X.K X.mg E (B.re (frzO o ρ) σ H1) ρ2 σ2 H2 ∧ GS X.K X.mg E W (B.re (frzO o ρ) σ H1) D (turns put mb (ds.drop (i + 1)) ρ2), fun σ2 H2 n => ⟨ds.length - (i + 1), by omega, rfl, hlt, n⟩, fun x H2 y => ?_⟩
      obtain ⟨s2, d, ed, rd⟩ := wk.yld i H' x H2 hbH hlt y
      rw [List.getElem?_eq_getElem hlt] at ed
      cases ed
      have S3 := S'.mono s2
      have rd' : Rep X.K X.mg (ar (B.re (frzO o ρ) σ H1) ρ' σ' H2) ds[i] x := rd.mono fun b ob hb => by
        have nb : ∀ {u : HO}, H' b = some u → True := fun _ => trivial
        by_cases hn : H' b = none
        · have hb' : H2 b = some ob := by simpa [hn] using hb
          have hx : ¬ ((B.re (frzO o ρ) σ H1).X b ∨ Own ρ' σ' b) := fun z => by
            rcases z with z | z
            · obtain ⟨u, q⟩ := S'.xt b z
              rw [hn] at q; cases q
            · obtain ⟨u, q⟩ := S'.there z
              rw [hn] at q; cases q
          rw [ar_none hx (S'.newB hn)]
          exact hb'
        · have hb' : ar B ρ σ H1 b = some ob := by simpa [hn] using hb
          have hb2 : ar B (frzO o ρ) σ H1 b = some ob := ar_own (fun _ z => own_frzO z) _ _ hb'
          have hb3 : hid B (frzO o ρ) σ H1 b = some ob := ar_hid S2 (fun _ z => z) _ _ hb2
          have hx : ¬ ((B.re (frzO o ρ) σ H1).X b ∨ Own ρ' σ' b) := fun z => by
            have := S'.new b z
            rw [show (B.re (frzO o ρ) σ H1).H b = hid B (frzO o ρ) σ H1 b from rfl, hb3] at this
            cases this
          rw [ar_some hx (by rw [show (B.re (frzO o ρ) σ H1).H b = hid B (frzO o ρ) σ H1 b from rfl, hb3]; simp)]
          exact hb2
      unfold turns at h'
      cases ep : put ds[i] ρ' with
      | ok ρ2 =>
        rw [ep] at h'
        refine hput _ ρ' ρ2 σ' H2 ds[i] x _ S3 rd' ep fun σ3 S4 => ⟨_, ρ2, S4, ?_⟩
        rw [Res.bind_ok] at h'
        cases eb : mb ρ2 with
        | ok out =>
          rw [eb, Res.bind_ok] at h'
          cases out with
          | nx ρ3 => exact fun σ4 H4 S5 => ⟨ρ3, S5, h'⟩
          | ct ρ3 => exact fun σ4 H4 S5 => ⟨ρ3, S5, h'⟩
          | bk ρ3 => exact h'
          | rt d fr => exact h'
          | ex C ρ3 => exact h'
        | ex C => rw [eb] at h'; exact h'.elim
        | bad => rw [eb] at h'; exact h'
      | ex C => rw [ep] at h'; exact h'.elim
      | bad => rw [ep] at h'; exact h'.elim
    · have hi' : i = ds.length := by omega
      subst hi'
      refine .inl ⟨wk.stop _ H' hbH (Nat.le_refl _), ?_⟩
      rw [List.drop_length] at h'
      exact h' σ' H' S'
theorem psm_while {body : List Stmt} {mb : SM} (n : Nat) (hp : PassesOwn (model X.prog X.w) X.A X.env X.xe) (hc : PMT X E W c ta) (hb : PSsM X E W body mb) : PSM X E W (.While c body [] pos) (smWhile ta mb n) :=
  PS.imp (ps_while hp hc hb) fun D σ H ⟨B, ρ, S, h⟩ => by
    refine ⟨fun m σ' H' => ∃ ρ', SR X.K X.mg E B ρ' σ' H' ∧ GS X.K X.mg E W B D (smWhile ta mb m ρ'), ⟨n, ρ, S, h⟩, ?_⟩
    rintro m σ' H' ⟨ρ', S', h'⟩
    cases m with
    | zero => exact h'.elim
    | succ m =>
      unfold smWhile at h'
      refine GS.bindT S' h' fun k H1 e1 S1 h1 => ?_
      cases k with
      | false => exact iteF (h1 σ' H1 S1)
      | true =>
        refine iteT ⟨fun σ2 H2 => ∃ ρ2, SR X.K X.mg E B ρ2 σ2 H2 ∧ GS X.K X.mg E W B D (smWhile ta mb m ρ2), fun σ2 H2 q => ⟨m, Nat.lt_succ_self _, q⟩, B, ρ', S1, ?_⟩
        have h2 : GS X.K X.mg E W B D ((mb ρ').bind fun o => o.turn (smWhile ta mb m)) := h1
        cases eb : mb ρ' with
        | ok out =>
          rw [eb, Res.bind_ok] at h2
          cases out with
          | nx ρ3 => exact fun σ4 H4 S5 => ⟨ρ3, S5, h2⟩
          | ct ρ3 => exact fun σ4 H4 S5 => ⟨ρ3, S5, h2⟩
          | bk ρ3 => exact h2
          | rt d fr => exact h2
          | ex C ρ3 => exact h2
        | ex C => rw [eb] at h2; exact h2.elim
        | bad => rw [eb] at h2; exact h2
/-! raise -/
theorem psm_raise {C : String} (hc : X.calm = true) (tk : Takes X W) (he : PMk X e (fun _ H Q => Q (clsV X.mg C) none H)) : PSM X E W (.Raise (some e) none pos) (smRaise C) :=
  PS.imp (ps_raise hc tk he) fun D σ H ⟨B, ρ, S, h⟩ => h σ H S

/-! ### THE RULE of a def -/
theorem reps_start {K : PySem.W.Frag} {mg : Str → Option Value} {G H : Hp} {ds : List Dm.D} {vs : List V} (gh : Same G H) (r : Reps K mg G ds vs) (n : Nat) : SR K mg none (Bs.of G H) (ds.map .fz ++ List.replicate n .no) (vs.map some ++ List.replicate n none) H := by
  have hl := r.length
  have noow : ∀ {i : Nat} {l : OwK} {es : List Dm.D}, ¬ (ds.map Sl.fz ++ List.replicate n .no)[i]? = some (.oo l es) := fun {i l es} h => by
    by_cases hi : i < ds.length
    · rw [List.getElem?_append_left (by simpa using hi), List.getElem?_map, List.getElem?_eq_getElem hi] at h
      cases h
    · rw [List.getElem?_append_right (by simpa using hi)] at h
      rw [List.getElem?_replicate] at h
      split at h <;> cases h
  have noOwn : ∀ b, ¬ Own (ds.map Sl.fz ++ List.replicate n .no) (vs.map some ++ List.replicate n none) b := fun b ⟨i, l, es, h, _⟩ => noow h
  have same : Same G (ar (Bs.of G H) (ds.map Sl.fz ++ List.replicate n .no) (vs.map some ++ List.replicate n none) H) := fun b o h => by
    have hz : ¬ ((Bs.of G H).X b ∨ Own (ds.map Sl.fz ++ List.replicate n .no) (vs.map some ++ List.replicate n none) b) := fun z => z.elim (fun q => q) (noOwn b)
    rw [ar_some hz (by rw [show (Bs.of G H).H b = H b from rfl, gh _ _ h]; simp)]
    exact h
  refine ⟨by simp [hl], fun i d h => ?_, fun i l es h => absurd h noow, fun i j a l1 l2 es fs h => absurd h noow, fun i C h => ?_, gh, Same.refl H, fun b z => (z.elim (fun q => q.elim) (noOwn b)).elim, fun b z => z.elim, fun b z => z.elim⟩
  · by_cases hi : i < ds.length
    · rw [List.getElem?_append_left (by simpa using hi), List.getElem?_map] at h
      cases e : ds[i]? with
      | none => rw [e] at h; cases h
      | some d' =>
        rw [e] at h
        cases h
        obtain ⟨v, h1, h2⟩ := r.get e
        refine ⟨v, ?_, h2.mono same⟩
        rw [List.getElem?_append_left (by rw [List.length_map]; omega), List.getElem?_map, h1]
        rfl
    · rw [List.getElem?_append_right (by simpa using hi), List.getElem?_replicate] at h
      split at h <;> cases h
  · by_cases hi : i < ds.length
    · rw [List.getElem?_append_left (by simpa using hi), List.getElem?_map, List.getElem?_eq_getElem hi] at h
      cases h
    · rw [List.getElem?_append_right (by simpa using hi), List.getElem?_replicate] at h
      split at h <;> cases h
theorem fn_m {CX : CXT} {P : Program} {w : World} {K : PySem.W.Frag} {mg : Str → Option Value} {base : Heap} {x qual : Str} {st : Stmt} {f : Addr} {fd : FuncData} {N ps : List Str} {k np nl : Nat} {m : SM} (F : Fun K x qual st f fd) (S : FnScope N ps (defScope st)) (hps : ps.length = np) (hN : N.length = np + nl)
    (hbody : ∀ (cdv : Value) (A : Around) (outer : List Env) (s : Shared) (H : Hp) (E : XK), Room k (A.deeper (envOfC qual (defScope st) s.heap.objs.size f cdv)) →
      PSsM (cxOf CX P w K mg base N qual (defScope st) f cdv A outer s H E) none (fun cls d _ H => E cls d H) (defBody st) m) :
    FnOk P w K mg base CX (k + 1) f fd ps (spM K mg np (mFn np nl m)) := by
  obtain ⟨oc, od, kV, doc, pm, an, cdv, ct, osl, rfl, lk, hcd⟩ := F.ex
  refine fn_of lk hcd S (fun vs H Q E h => by rw [hps]; exact h.1) (fun A outer s H vs Q E hr h => ?_)
  obtain ⟨hl, G, ds, gh, r, h⟩ := h
  refine ⟨_, hbody cdv A outer s H E hr, Bs.of G H, ds.map .fz ++ List.replicate nl .no, ?_, ?_⟩
  · have : L2.start N vs = vs.map some ++ List.replicate nl none := by
      unfold L2.start
      rw [hN, hl, Nat.add_sub_cancel_left]
    rw [this]
    exact reps_start gh r nl
  · unfold mFn at h
    rw [if_pos (by rw [r.length]; exact hl)] at h
    show GS K mg none _ (Bs.of G H) _ (m (ds.map .fz ++ List.replicate nl .no))
    cases e : m (ds.map .fz ++ List.replicate nl .no) with
    | ok o =>
      rw [e] at h
      cases o with
      | nx ρ' => exact fun σ' H' S' => h .non H' S'.bh Rep.non
      | rt d fr => exact fun v H' s rf => h v H' s rf
      | bk ρ' => exact h.elim
      | ct ρ' => exact h.elim
      | ex C ρ' => exact fun σ' H' S' => h H' S'.bh
    | ex C =>
      rw [e] at h
      exact h.elim
    | bad => rw [e] at h; exact h.elim
end
end Dm
end

section
set_option Elab.async false
set_option linter.all false
set_option maxRecDepth 100000
set_option maxHeartbeats 4000000
/-! Dm: comprehensions; try. -/
namespace Dm
open PySem PySem.Spec L2 TL
abbrev W0 : WX := fun _ _ _ _ => False
section
variable {K : PySem.W.Frag} {mg : Str → Option Value} {E : ExE} {W : WX} {B : Bs} {ρ : Rho} {σ : St} {H H1 H2 : Hp}
theorem wipe_get {σ : St} {k : Nat} : ∀ {vs : List Nat}, (wipe σ vs)[k]? = if k ∈ vs then (if k < σ.length then some none else none) else σ[k]?
  | [] => by simp [wipe]
  | v :: vs => by
    unfold wipe
    by_cases hk : v = k
    · subst hk
      rw [List.getElem?_set]
      simp [wipe_length]
    · rw [List.getElem?_set_ne hk, wipe_get]
      have hk' : ¬ k = v := fun z => hk z.symm
      simp [hk']
theorem wipe_set {σ : St} {vs : List Nat} {j : Nat} {o : Option V} (hj : j ∈ vs) : wipe ((wipe σ vs).set j o) vs = wipe σ vs := by
  apply List.ext_getElem?
  intro k
  rw [wipe_get, wipe_get, List.length_set, wipe_length]
  by_cases hk : k ∈ vs
  · simp [hk]
  · have : j ≠ k := fun z => hk (z ▸ hj)
    simp only [hk, if_false]
    rw [List.getElem?_set_ne this, wipe_get]
    simp [hk]
theorem wipe_sets {σ : St} {vs : List Nat} : ∀ {ps : List (Nat × V)} {τ : St}, wipe τ vs = wipe σ vs → (∀ p ∈ ps, p.1 ∈ vs) → wipe (ps.foldl (fun s p => s.set p.1 (some p.2)) τ) vs = wipe σ vs
  | [], τ, h, _ => h
  | p :: ps, τ, h, hp => by
    rw [List.foldl_cons]
    refine wipe_sets ?_ fun q hq => hp q (List.mem_cons_of_mem _ hq)
    rw [← h]
    apply List.ext_getElem?
    intro k
    rw [wipe_get, wipe_get, List.length_set]
    have hm := hp p (List.mem_cons_self ..)
    by_cases hk : k ∈ vs
    · simp [hk]
    · have : p.1 ≠ k := fun z => hk (z ▸ hm)
      simp only [hk, if_false]
      rw [List.getElem?_set_ne this]
theorem wipe_wipe {σ : St} {vs : List Nat} : wipe (wipe σ vs) vs = wipe σ vs := by
  apply List.ext_getElem?
  intro k
  rw [wipe_get, wipe_length]
  by_cases hk : k ∈ vs
  · rw [wipe_get]; simp [hk]
  · simp [hk]
/-- a target of a comprehension: it lays into the block's own slots -/
def PutC (K : PySem.W.Frag) (mg : Str → Option Value) (E : ExE) (g : TG) (put : D → Rho → Res Rho) (own : List Nat) : Prop := ∀ (B : Bs) (ρ ρ' : Rho) (σ : St) (H : Hp) (d : D) (v : V) (Q : St → Hp → Prop),
  SR K mg E B ρ (wipe σ own) H → (∀ i ∈ own, ∀ l ds, ρ[i]? ≠ some (.oo l ds)) → Rep K mg (ar B ρ (wipe σ own) H) d v → put d ρ = .ok ρ' → (∀ σ', wipe σ' own = wipe σ own → SR K mg E B ρ' σ' H → (∀ b, Own ρ (wipe σ own) b → Own ρ' σ' b) → Q σ' H) → g v (wipe σ own) H Q
theorem putC1 {own : List Nat} {i : Nat} (hi : i ∈ own) : PutC K mg E (gName i) (put1 i) own := fun B ρ ρ' σ H d v Q S hno r h k => by
  cases h
  refine k _ (wipe_set hi) (S.setFz i r) fun b ⟨j, l, es, q1, q2⟩ => ?_
  have hj : i ≠ j := fun z => hno i hi l es (z ▸ q1)
  exact ⟨j, l, es, by rw [List.getElem?_set_ne hj]; exact q1, by rw [List.getElem?_set_ne hj]; exact q2⟩
theorem putAll_own {own : List Nat} : ∀ {is : List Nat} {ds : List D} {vs : List V} {ρ ρ' : Rho} {σ : St}, is.length = vs.length → (∀ i ∈ is, i ∈ own) → (∀ i ∈ own, ∀ l es, ρ[i]? ≠ some (.oo l es)) → putAll is ds ρ = .ok ρ' →
    ∀ b, Own ρ σ b → Own ρ' ((is.zip vs).foldl (fun s p => s.set p.1 (some p.2)) σ) b := by
  intro is
  induction is with
  | nil =>
    intro ds vs ρ ρ' σ hl _ _ h b ho
    cases ds with
    | nil => cases h; exact ho
    | cons _ _ => cases h
  | cons i is ih =>
    intro ds vs ρ ρ' σ hl hi hno h b ho
    cases ds with
    | nil => cases h
    | cons d ds =>
      cases vs with
      | nil => cases hl
      | cons v vs =>
        obtain ⟨j, l, es, q1, q2⟩ := ho
        have hj : i ≠ j := fun z => hno i (hi i (List.mem_cons_self ..)) l es (z ▸ q1)
        refine ih (by simpa using hl) (fun k hk => hi k (List.mem_cons_of_mem _ hk)) (fun k hk l' es' z => ?_) h b ⟨j, l, es, by rw [List.getElem?_set_ne hj]; exact q1, by rw [List.getElem?_set_ne hj]; exact q2⟩
        by_cases hk' : i = k
        · subst hk'
          by_cases hl : i < ρ.length
          · rw [List.getElem?_set_self hl] at z
            cases z
          · rw [List.getElem?_eq_none (by rw [List.length_set]; omega)] at z
            cases z
        · rw [List.getElem?_set_ne hk'] at z
          exact hno k hk l' es' z
theorem putCT {own : List Nat} (is : List Nat) (n : Nat) (hn : is.length = n) (ho : ∀ i ∈ is, i ∈ own) : PutC K mg E (gTup K n (gNames is)) (putT is) own := fun B ρ ρ' σ H d v Q S hno r h k => by
  unfold putT at h
  split at h
  · rename_i ds
    cases r with
    | tup hv r =>
      obtain ⟨e1, e2⟩ := putAll_ok S r h
      refine ⟨_, _, rfl, same_tup S.sub hv, by rw [← e1]; exact hn, gNames_run e1 (k _ (wipe_sets wipe_wipe fun p hp => ho _ (List.of_mem_zip hp).1) e2 (putAll_own e1 ho hno h))⟩
  · cases h
theorem wipeR_no {ρ : Rho} : ∀ {vs : List Nat} {i : Nat} {l : OwK} {ds : List D}, i ∈ vs → (wipeR ρ vs)[i]? ≠ some (.oo l ds)
  | v :: vs, i, l, ds, h, z => by
    unfold wipeR at z
    by_cases hv : v = i
    · subst hv
      by_cases hl : v < (wipeR ρ vs).length
      · rw [List.getElem?_set_self hl] at z
        cases z
      · rw [List.getElem?_eq_none (by rw [List.length_set]; omega)] at z
        cases z
    · rw [List.getElem?_set_ne hv] at z
      rcases List.mem_cons.mp h with e | h
      · exact hv e.symm
      · exact wipeR_no h z
theorem wipeR_keep {ρ : Rho} : ∀ {vs : List Nat} {i : Nat}, i ∉ vs → (wipeR ρ vs)[i]? = ρ[i]?
  | [], i, _ => rfl
  | v :: vs, i, h => by
    rw [List.mem_cons, not_or] at h
    unfold wipeR
    rw [List.getElem?_set_ne (fun z => h.1 z.symm), wipeR_keep h.2]
theorem own_wipe {ρ : Rho} {σ : St} {vs : List Nat} {b : Addr} (hno : noOw vs ρ = true) (h : Own ρ σ b) : Own (wipeR ρ vs) (wipe σ vs) b := by
  obtain ⟨i, l, ds, h1, h2⟩ := h
  have hi : i ∉ vs := fun z => by
    have := List.all_eq_true.mp hno i z
    rw [h1] at this
    cases this
  refine ⟨i, l, ds, by rw [wipeR_keep hi]; exact h1, ?_⟩
  rw [wipe_get, if_neg hi]
  exact h2
theorem wipeR_own {ρ : Rho} {σ : St} {vs : List Nat} {b : Addr} (h : Own (wipeR ρ vs) (wipe σ vs) b) : Own ρ σ b := by
  induction vs with
  | nil => exact h
  | cons v vs ih =>
    obtain ⟨i, l, ds, h1, h2⟩ := h
    refine ih ⟨i, l, ds, ?_, ?_⟩
    · by_cases hv : v = i
      · subst hv
        unfold wipeR at h1
        by_cases hl : v < (wipeR ρ vs).length
        · rw [List.getElem?_set_self hl] at h1
          cases h1
        · rw [List.getElem?_eq_none (by rw [List.length_set]; omega)] at h1
          cases h1
      · unfold wipeR at h1
        rw [List.getElem?_set_ne hv] at h1
        exact h1
    · by_cases hv : v = i
      · subst hv
        unfold wipe at h2
        by_cases hl : v < (wipe σ vs).length
        · rw [List.getElem?_set_self hl] at h2
          cases h2
        · rw [List.getElem?_eq_none (by rw [List.length_set]; omega)] at h2
          cases h2
      · unfold wipe at h2
        rw [List.getElem?_set_ne hv] at h2
        exact h2
theorem lc_read {wm : WM} {g : TG} {put : Dm.D → Rho → Res Rho} {own : List Nat} {mt : TM} {me : EM} {Q : VK} (hput : PutC K mg E g put own) (h : tE K mg E W (mComp put own wm mt me) σ H Q) :
    tLc (tI K mg E W wm) g (tT K mg E W0 mt) (tE K mg E W0 me) own σ H Q := by
  obtain ⟨B, ρ, S, h⟩ := h
  refine ⟨B, ρ, S, ?_⟩
  have h := h.gg
  unfold mComp at h
  cases e : wm ρ with
  | ex C => rw [e] at h; exact h
  | bad => rw [e] at h; exact h
  | ok p =>
    obtain ⟨ds, o⟩ := p
    rw [e, Res.bind_ok] at h
    have hno : noOw own ρ = true := by
      cases en : noOw own ρ with
      | true => rfl
      | false =>
        rw [en] at h
        exact h.elim
    rw [hno] at h
    intro J H1 e1 S1 wk D hD
    have h2 : ∃ ys, comp put mt me (wipeR ρ own) ds = .ok ys ∧ ds.length < lim ∧ ∀ v H', Same H H' → RT K mg B ρ σ H H' (.seq .lst ys) .fr v → Q v H' := by
      cases ec : comp put mt me (wipeR ρ own) ds with
      | ok ys =>
        rw [ec] at h
        have h3 : GG mg W σ H (PV K mg B ρ σ H Q) (if ds.length < lim then .ok (.seq .lst ys, .fr) else .bad) := h
        split at h3
        · rename_i hl
          exact ⟨ys, rfl, hl, h3⟩
        · exact h3.elim
      | ex C =>
        exfalso
        have nex : ∀ (l : List Dm.D) C, comp put mt me (wipeR ρ own) l ≠ .ex C := by
          intro l
          induction l with
          | nil => intro C z; cases z
          | cons x xs ih =>
            intro C z
            unfold comp at z
            have ne1 : ∀ {α β : Type} (r : Res α) (f : α → Res β), (noEx r).bind f = .ex C → ∃ a, r = .ok a ∧ f a = .ex C := fun {α β} r f q => by
              cases r with
              | ok a => exact ⟨a, rfl, q⟩
              | ex C' => cases q
              | bad => cases q
            obtain ⟨ρ', _, z⟩ := ne1 _ _ z
            obtain ⟨k, _, z⟩ := ne1 _ _ z
            split at z
            · obtain ⟨y, _, z⟩ := ne1 _ _ z
              split at z
              · cases ec : comp put mt me (wipeR ρ own) xs with
                | ok ys => rw [ec] at z; cases z
                | ex C' => exact ih C' ec
                | bad => rw [ec] at z; cases z
              · cases z
            · exact ih C z
        exact nex ds C ec
      | bad => rw [ec] at h; exact h.elim
    obtain ⟨ys, hys, hlen, hQ⟩ := h2
    have SD : SR K mg E (B.add D) (wipeR ρ own) (wipe σ own) (upd H1 D (.lst [])) := (S1.add hD (Same.upd hD) upd_same).wipe own
    have hHD : ∀ {H' : Hp}, Same H1 H' → H' D = H' D := fun _ => rfl
    refine ⟨fun i m H' => m = ds.length - i ∧ i ≤ ds.length ∧ Same H1 H' ∧ SR K mg E (B.add D) (wipeR ρ own) (wipe σ own) H' ∧ ∃ ys1 ys2 vs1, H' D = some (.lst vs1) ∧ vs1.length ≤ i ∧ Reps K mg (ar (B.add D) ρ σ H') ys1 vs1 ∧ comp put mt me (wipeR ρ own) (ds.drop i) = .ok ys2 ∧ ys1 ++ ys2 = ys,
      ⟨ds.length, by simp, Nat.zero_le _, Same.upd hD, SD, [], ys, [], upd_same, Nat.le_refl _, .nil, hys, rfl⟩, ?_⟩
    rintro i m H' ⟨rfl, hi, sH, S', ys1, ys2, vs1, hv1, hl1, r1, hc, hy⟩
    have hb : Same (hid B (frzO o ρ) σ H1) H' := hid_sub.trans sH
    by_cases hlt : i < ds.length
    · refine .inr ⟨wk.go i H' hb hlt, ?_⟩
      have hdr : ds.drop i = ds[i] :: ds.drop (i + 1) := List.drop_eq_getElem_cons hlt
      rw [hdr] at hc
      refine ⟨fun H2 => Same H1 H2 ∧ SR K mg E (B.add D) (wipeR ρ own) (wipe σ own) H2 ∧ ∃ ys1 ys2 vs1, H2 D = some (.lst vs1) ∧ vs1.length ≤ i + 1 ∧ Reps K mg (ar (B.add D) ρ σ H2) ys1 vs1 ∧ comp put mt me (wipeR ρ own) (ds.drop (i + 1)) = .ok ys2 ∧ ys1 ++ ys2 = ys,
        fun H2 n => ⟨ds.length - (i + 1), by omega, rfl, hlt, n⟩, fun x H2 y => ?_⟩
      obtain ⟨s2, d, ed, rd⟩ := wk.yld i H' x H2 hb hlt y
      rw [List.getElem?_eq_getElem hlt] at ed
      cases ed
      have S2 := S'.mono s2
      have hneD : ∀ {u : HO}, ar B ρ σ H1 D ≠ some u := fun {u} z => by
        have := S1.sub _ _ z
        rw [hD] at this
        cases this
      have rd' : Rep K mg (ar (B.add D) (wipeR ρ own) (wipe σ own) H2) ds[i] x := rd.mono fun b ob q => by
        by_cases hn : H' b = none
        · have hb' : H2 b = some ob := by simpa [hn] using q
          have hx : ¬ ((B.add D).X b ∨ Own (wipeR ρ own) (wipe σ own) b) := fun z => by
            rcases z with z | z
            · obtain ⟨u, q⟩ := S'.xt b z
              rw [hn] at q; cases q
            · obtain ⟨u, q⟩ := S'.there z
              rw [hn] at q; cases q
          rw [ar_none hx (S'.newB hn)]
          exact hb'
        · have hb' : ar B ρ σ H1 b = some ob := by simpa [hn] using q
          have hbD : b ≠ D := fun z => by subst z; exact hneD hb'
          have h4 : ar (B.add D) ρ σ H1 b = some ob := by rw [← ar_add_ne hbD]; exact hb'
          exact ar_own (fun _ z => wipeR_own z) _ _ (ar_mono (sH.trans s2) _ _ h4)
      unfold comp at hc
      cases ep : put ds[i] (wipeR ρ own) with
      | ex C => rw [ep] at hc; cases hc
      | bad => rw [ep] at hc; cases hc
      | ok ρ2 =>
        rw [ep] at hc
        replace hc : (noEx (mt ρ2)).bind (fun k => if k then (noEx (me ρ2)).bind fun y => if y.2.free || y.1.sc then (comp put mt me (wipeR ρ own) (ds.drop (i + 1))).bind fun ys => .ok (y.1 :: ys) else .bad else comp put mt me (wipeR ρ own) (ds.drop (i + 1))) = .ok ys2 := hc
        refine hput (B.add D) (wipeR ρ own) ρ2 σ H2 ds[i] x _ S2 (fun k hk _ es => wipeR_no hk) rd' ep fun σ3 ew S3 hown => ⟨ew, ?_⟩
        cases et : mt ρ2 with
        | ex C => rw [et] at hc; cases hc
        | bad => rw [et] at hc; cases hc
        | ok k =>
          rw [et] at hc
          refine ⟨B.add D, ρ2, S3, ?_⟩
          rw [et]
          intro H3 s3
          have S3' : SR K mg E (B.add D) (wipeR ρ own) (wipe σ own) H3 := S2.mono s3
          have hv3 : H3 D = some (.lst vs1) := s3 _ _ (s2 _ _ hv1)
          have r3 : Reps K mg (ar (B.add D) ρ σ H3) ys1 vs1 := r1.mono (ar_mono (s2.trans s3))
          cases k with
          | false =>
            refine iteF ⟨(sH.trans s2).trans s3, S3', ys1, ys2, vs1, hv3, Nat.le_succ_of_le hl1, r3, hc, hy⟩
          | true =>
            replace hc : (noEx (me ρ2)).bind (fun y => if y.2.free || y.1.sc then (comp put mt me (wipeR ρ own) (ds.drop (i + 1))).bind fun ys => .ok (y.1 :: ys) else .bad) = .ok ys2 := hc
            refine iteT ?_
            cases ee : me ρ2 with
            | ex C => rw [ee] at hc; cases hc
            | bad => rw [ee] at hc; cases hc
            | ok y =>
              obtain ⟨dy, ty⟩ := y
              rw [ee] at hc
              replace hc : (if ty.free || dy.sc then (comp put mt me (wipeR ρ own) (ds.drop (i + 1))).bind fun ys => .ok (dy :: ys) else .bad) = Res.ok ys2 := hc
              split at hc
              · rename_i hk
                cases ec : comp put mt me (wipeR ρ own) (ds.drop (i + 1)) with
                | ex C => rw [ec] at hc; cases hc
                | bad => rw [ec] at hc; cases hc
                | ok ys3 =>
                  rw [ec] at hc
                  cases hc
                  refine ⟨B.add D, ρ2, S3.mono s3, ?_⟩
                  rw [ee]
                  intro v H4 s4 rt
                  have hv4 : H4 D = some (.lst vs1) := s4 _ _ hv3
                  refine ⟨vs1, hv4, by rw [lim_eq]; omega, ?_⟩
                  have S4 : SR K mg E (B.add D) (wipeR ρ own) (wipe σ own) H4 := S3'.mono s4
                  have S5 : SR K mg E (B.add D) (wipeR ρ own) (wipe σ own) (upd H4 D (.lst (vs1 ++ [v]))) := S4.updX (.inl rfl)
                  have sD : Same H1 (upd H4 D (.lst (vs1 ++ [v]))) := fun b o q => by
                    have : b ≠ D := ne_of_none q hD
                    rw [upd_ne this]
                    exact s4 _ _ (s3 _ _ (s2 _ _ (sH _ _ q)))
                  have are : ar (B.add D) ρ σ (upd H4 D (.lst (vs1 ++ [v]))) = ar (B.add D) ρ σ H4 := ar_upd (.inl (.inl rfl))
                  refine ⟨sD, S5, ys1 ++ [dy], ys3, vs1 ++ [v], upd_same, by rw [List.length_append]; simp; omega, ?_, rfl, by rw [← hy]; simp⟩
                  rw [are]
                  refine (r3.mono (ar_mono s4)).app (.cons ?_ .nil)
                  have q := rt.keep (S3.mono s3) s4 (by simpa using hk)
                  exact q.mono (ar_own fun b ho => hown b (own_wipe hno ho))
              · cases hc
    · have hi' : i = ds.length := by omega
      subst hi'
      refine .inl ⟨wk.stop _ H' hb (Nat.le_refl _), ?_⟩
      rw [List.drop_length] at hc
      cases hc
      rw [List.append_nil] at hy
      subst hy
      refine hQ (.ref D) H' (e1.trans sH) ⟨D, _, .lst, ys1, vs1, rfl, rfl, ?_, hv1, rfl, r1⟩
      exact e1.free hD
end
end Dm
namespace Dm
open PySem PySem.Spec L2 TL
section
variable {X : Cx} {E : ExE} {W : WX} {elt tg iter c : Expr} {ifs : List Expr} {scope : Scope} {own : List (Str × Nat)} {pos : Pos} {g : TG} {put : D → Rho → Res Rho} {wm : WM} {mt : TM} {me : EM}
theorem PTs.imp {X : Cx} {ifs : List Expr} {t t' : TT} (h : PTs X ifs t) (k : ∀ σ H Q, t' σ H Q → t σ H Q) : PTs X ifs t' := ⟨fun pins s σ H Q I h' => h.run pins s σ H Q I (k σ H Q h')⟩
theorem ptsm_nil : PTs X [] (tT X.K X.mg E W tmYes) := PTs.imp pts_nil fun σ H Q ⟨B, ρ, S, h⟩ => h H (Same.refl H)
theorem ptsm_one (h : PMT X E W c mt) : PTs X [c] (tT X.K X.mg E W mt) := pts_one h
theorem pm_lc (hc : X.calm = true) (hN : X.N.Nodup) (hi : PMI X E W tg iter wm) (ok : BlkOk X.N X.env.scope scope own) (hput : PutC X.K X.mg E g put (own.map (·.2)))
    (hg : ∀ (s : Shared) (H : Hp) (C : Addr) (cl : List (Str × Addr)) (fp : List Addr), PG (X.blk s H scope (compEnvC scope cl C X.env) fp) tg g)
    (ht : ∀ (s : Shared) (H : Hp) (C : Addr) (cl : List (Str × Addr)) (fp : List Addr), PTs (X.blk s H scope (compEnvC scope cl C X.env) fp) ifs (tT X.K X.mg E W0 mt))
    (he : ∀ (s : Shared) (H : Hp) (C : Addr) (cl : List (Str × Addr)) (fp : List Addr), PE (X.blk s H scope (compEnvC scope cl C X.env) fp) elt (tE X.K X.mg E W0 me))
    (hs : ∀ x, foldedSetIterable iter X.env x = pure x := by intro _; rfl) :
    PM X E W (.ListComp elt [⟨tg, iter, ifs, 0⟩] scope pos) (mComp put (own.map (·.2)) wm mt me) :=
  PE.imp (pe_lc hc hN hi ok hg ht he hs) fun σ H Q h => lc_read hput h
theorem psm_setLc (i : Nat) {y : Str} {py spos : Pos} (hc : X.calm = true) (hN : X.N.Nodup) (hsw : swapsWith (.ListComp elt [⟨tg, iter, ifs, 0⟩] scope pos) (some (.Name y py)) spos.line X.env = pure true) (hi : PMI X E W tg iter wm) (ok : BlkOk X.N X.env.scope scope own) (hput : PutC X.K X.mg E g put (own.map (·.2)))
    (hg : ∀ (s : Shared) (H : Hp) (C : Addr) (cl : List (Str × Addr)) (fp : List Addr), PG (X.blk s H scope (compEnvC scope cl C X.env) fp) tg g)
    (ht : ∀ (s : Shared) (H : Hp) (C : Addr) (cl : List (Str × Addr)) (fp : List Addr), PTs (X.blk s H scope (compEnvC scope cl C X.env) fp) ifs (tT X.K X.mg E W0 mt))
    (he : ∀ (s : Shared) (H : Hp) (C : Addr) (cl : List (Str × Addr)) (fp : List Addr), PE (X.blk s H scope (compEnvC scope cl C X.env) fp) elt (tE X.K X.mg E W0 me))
    (hy : X.N[i]? = some y := by rfl) (hyl : X.env.scope.names.lookup y = some .local := by rfl) (hs : ∀ x, foldedSetIterable iter X.env x = pure x := by intro _; rfl) :
    PSM X E W (.Assign [.Name y py] (.ListComp elt [⟨tg, iter, ifs, 0⟩] scope pos) spos) (smSet i (mComp put (own.map (·.2)) wm mt me)) :=
  PS.imp (ps_setLc hc hN hy hyl hsw hi ok hg ht he hs) fun D σ H ⟨B, ρ, S, h⟩ => by
    refine lc_read hput (GS.bindE S h fun x tx vx H1 rx e1 S1 h1 => ?_)
    show D.nx (σ.set i (some vx)) H1
    cases e : putV i (x, tx) ρ with
    | ok ρ' =>
      rw [e] at h1
      exact h1 _ H1 (putV_ok S e1 rx e)
    | ex C => rw [e] at h1; exact h1.elim
    | bad => rw [e] at h1; exact h1.elim
end
end Dm
end

section
set_option Elab.async false
set_option linter.all false
set_option maxRecDepth 100000
set_option maxHeartbeats 4000000
/-! Dm: a def as a fact; the last words. -/
namespace Dm
open PySem PySem.Spec L2 TL

/-- what a def's exceptions are: any (false); such without a context (true) -/
def CXm (m : Bool) (P : Program) (w : World) : CXT := match m with
  | true => L2N.CX P w
  | false => L2.CX P w
def Tks (m : Bool) (X : Cx) (W : WX) : Prop := match m with
  | true => L2N.Takes X W
  | false => L2.Takes X W
theorem Tks.pass {m : Bool} {X : Cx} {W : WX} (tk : Tks m X W) : ∀ σ, PassesAt (CXm m X.prog X.w) X σ (WE W σ) := by
  cases m
  · exact fun σ => L2.passAt tk σ
  · exact fun σ => L2N.passAt tk σ
theorem tks0 {m : Bool} {X : Cx} : Tks m X (fun _ _ _ _ => False) := by
  cases m
  · exact L2.takes0
  · exact fun _ _ x => by
      obtain ⟨_, _, _, _, _, _, _, _, _, _, _, _, _, _, _, _, z⟩ := x
      exact z.elim
theorem takes_m {m : Bool} {X : Cx} {E : XK} (hs : X.stack = X.env :: X.outer) (hf : X.env.frame = some X.env.locals) (hex : X.ex = []) {E₁ : Value → Shared → Prop}
    (hx : X.xe = fun e s' => wpAny (model X.prog X.w) X.A (leaving X.env e) (fun _ s'' => CXm m X.prog X.w X.outer X.H_0 X.s_0 E e s'') E₁ s') : Tks m X (fun cls d _ H => E cls d H) := by
  cases m
  · exact L2.takes_of hs hf hex hx
  · exact L2N.takes_of hs hf hex hx
/-- a def stands behind the module's name x and does what its mirror does -/
structure DefOk (P : Program) (w : World) (K : PySem.W.Frag) (mg : Str → Option Value) (base : Heap) (b : Bool) (x : Str) (k : Nat) (n : Nat) (m : FM) : Prop where
  ex : ∃ (f : Addr) (fd : FuncData) (ps : List Str), mg x = some (.ref f) ∧ PySem.W.keepIn K (.ref f) = true ∧ Binds K fd ps [] ∧ FnOk P w K mg base (CXm b P w) k f fd ps (spM K mg n m)
/-- an exception class of the program, without an own __init__, over ValueError -/
structure ExcOk (K : PySem.W.Frag) (mg : Str → Option Value) (C : String) : Prop where
  ex : ∃ c : Addr, mg (C : Str) = some (.ref c) ∧ PySem.W.excIn K c [.type "ValueError", .type "Exception", .type "BaseException", .type "object"] "ValueError.__new__" = true ∧ PySem.W.keepIn K (.ref c) = true ∧
    PySem.W.subIn K (.ref c) (.type "BaseException") = some true ∧ PySem.W.typeIn K (.ref c) = some (.type "type")
section
variable {X : Cx} {E : ExE} {W : WX} {pos p : Pos} {a b c e : Expr} {ma mb mc : EM} {es : List Expr} {am : AM} {ta : TM}
theorem pm_def {m : Bool} {k k' n : Nat} {g : FM} {x : Str} (G : DefOk X.prog X.w X.K X.mg X.base m x k n g) (tk : Tks m X W) (hr : Room k' X.A) (ha : PMA X E W (e :: es) am) (hn : AMn am n) (hk : k ≤ k' := by decide) (hg : Gl X x := by rfl) (hdb : (x == ("__debug__" : Str)) = false := by decide)
    (he : starEach (e :: es) X.env = (false, eval e X.env) :: starEach es X.env := by rfl) (hpl : (backTo pos (starEach es X.env)).any (·.1) = false := by rfl) :
    PM X E W (.Call (.Name x p) (e :: es) [] pos) (mCall g am) := by
  obtain ⟨f, fd, ps, hm, hkp, hb, F⟩ := G.ex
  exact pm_call F tk.pass (hr.mono hk) hm hkp hb ha hn hg hdb he hpl
theorem psm_raiseC {mo : Bool} {C : String} {m : Str} {j : Nat} {p2 pos2 : Pos} (T : ExcOk X.K X.mg C) (hc : X.calm = true) (tk : Tks mo X W) (hg : Gl X (C : Str) := by rfl) (hdb : ((C : Str) == ("__debug__" : Str)) = false := by decide) :
    PSM X E W (.Raise (some (.Call (.Name (C : Str) p) [.Constant (.str m) j p2] [] pos2)) none pos) (smRaise C) := by
  obtain ⟨c, gC, xC, kC, bC, tC⟩ := T.ex
  have e : clsV X.mg C = .ref c := by
    unfold clsV
    rw [gC]
    rfl
  cases mo
  · refine psm_raise hc tk ?_
    rw [e]
    exact pmk_own PySem.F.excBase_ValueError xC gC kC (raises_own bC tC) hg hdb
  · refine PS.imp (L2N.ps_raise (t := fun _ H Q => Q (clsV X.mg C) none H) hc tk ?_) fun D σ H ⟨B, ρ, S, h⟩ => h σ H S
    rw [e]
    exact L2N.pmk_own PySem.F.excBase_ValueError xC gC kC (raises_own bC tC) hg hdb
theorem mTB_gm {K : PySem.W.Frag} {mg : Str → Option Value} {B : Bs} {ρ : Rho} {σ : St} {H : Hp} {m : EM} {Q : Bool → Hp → Prop} (h : GG mg W σ H (fun b => ∀ H', Same H H' → Q b H') (mTB m ρ)) : GM K mg W B ρ σ H (m ρ) (fun v H' => ∃ k, v = .bl k ∧ Q k H') := by
  unfold mTB at h
  cases e : m ρ with
  | ok x =>
    rw [e] at h
    intro v H' s r
    obtain ⟨d, t⟩ := x
    replace h : GG mg W σ H (fun b => ∀ H', Same H H' → Q b H') d.isB := h
    cases d <;> first | exact h.elim | skip
    case bl k =>
      cases t with
      | cl => cases r; exact ⟨k, rfl, h H' s⟩
      | own i => obtain ⟨l, _, _, z, _⟩ := r; cases l <;> cases z
      | fr => obtain ⟨_, _, l, _, _, z, _⟩ := r; cases l <;> cases z
  | ex C => rw [e] at h; exact h
  | bad => rw [e] at h; exact h
theorem pmt_cmp {op : CmpOp} {r : R2} {f : D → D → Res Bool} (ho : OpR X (compareOp op) r) (hf : CmpM X E W r f) (hm : Mild f) (ha : PM X E W a ma) (hb : PM X E W b mb) (hb' : behindInMarks op b = false) :
    PMT X E W (.Compare a [op] [b] pos) (mTB (mCmp f ma mb)) :=
  PT.imp (pt_cmpR ho ha hb hb') fun σ H Q ⟨B, ρ, S, h⟩ => by
    refine GM.bind S (mTB_gm (K := X.K) (B := B) h) fun x tx vx H1 rx e1 S1 h1 => GM.bind S1 h1 fun y ty vy H2 ry e2 S2 h2 => ?_
    refine hf B ρ σ H2 x y vx vy _ S2 ((rx.rp S1).mono e2) (ry.rp S2) (fun k e => ?_) (mild_ok hm h2)
    rw [e] at h2
    exact GM.sc (d := .bl k) h2 (.bl k)
theorem pmt_chain {op op' : CmpOp} {r r' : R2} {f f' : D → D → Res Bool} (ho : OpR X (compareOp op) r) (ho' : OpR X (compareOp op') r') (hf : CmpM X E W r f) (hf' : CmpM X E W r' f') (hm : Mild f) (hm' : Mild f')
    (ha : PM X E W a ma) (hb : PM X E W b mb) (hc : PM X E W c mc) (hl : lastMarks [op, op'] [b, c] = false := by with_unfolding_all rfl) :
    PMT X E W (.Compare a [op, op'] [b, c] pos) (mTB (mChain f f' ma mb mc)) :=
  PT.imp (pt_chain ho ho' ha hb hc hl) fun σ H Q ⟨B, ρ, S, h⟩ => by
    refine GM.bind S (mTB_gm (K := X.K) (B := B) h) fun x tx vx H1 rx e1 S1 h1 => GM.bind S1 h1 fun y ty vy H2 ry e2 S2 h2 => ?_
    refine hf B ρ σ H2 x y vx vy _ S2 ((rx.rp S1).mono e2) (ry.rp S2) (fun k e => ⟨k, rfl, ?_⟩) (mild_ok hm h2)
    rw [e] at h2
    cases k with
    | false => exact GM.sc (d := .bl false) h2 (.bl false)
    | true =>
      refine GM.bind S2 h2 fun z tz vz H3 rz e3 S3 h3 => ?_
      refine hf' B ρ σ H3 y z vy vz _ S3 ((ry.rp S2).mono e3) (rz.rp S3) (fun l e => ?_) (mild_ok hm' h3)
      rw [e] at h3
      exact GM.sc (d := .bl l) h3 (.bl l)
theorem pmt_lt (ha : PM X E W a ma) (hb : PM X E W b mb) : PMT X E W (.Compare a [.Lt] [b] pos) (mTB (mCmp cLt ma mb)) := pmt_cmp (OpR.or op_lt op_lt_str) cm_lt mild_lt ha hb (nomark _)
theorem pmt_le (ha : PM X E W a ma) (hb : PM X E W b mb) : PMT X E W (.Compare a [.LtE] [b] pos) (mTB (mCmp cLe ma mb)) := pmt_cmp (OpR.or op_le op_le_str) cm_le mild_le ha hb (nomark _)
theorem pmt_gt (ha : PM X E W a ma) (hb : PM X E W b mb) : PMT X E W (.Compare a [.Gt] [b] pos) (mTB (mCmp cGt ma mb)) := pmt_cmp (OpR.or op_gt op_gt_str) cm_gt mild_gt ha hb (nomark _)
theorem pmt_ge (ha : PM X E W a ma) (hb : PM X E W b mb) : PMT X E W (.Compare a [.GtE] [b] pos) (mTB (mCmp cGe ma mb)) := pmt_cmp (OpR.or op_ge op_ge_str) cm_ge mild_ge ha hb (nomark _)
theorem pmt_eq (hu : X.A.units + 64 < cLine) (ha : PM X E W a ma) (hb : PM X E W b mb) : PMT X E W (.Compare a [.Eq] [b] pos) (mTB (mCmp cEq ma mb)) := pmt_cmp (OpR.or op_eq (op_eqD hu)) cm_eq mild_eq ha hb (nomark _)
theorem pmt_ne (hu : X.A.units + 64 < cLine) (ha : PM X E W a ma) (hb : PM X E W b mb) : PMT X E W (.Compare a [.NotEq] [b] pos) (mTB (mCmp cNe ma mb)) := pmt_cmp (OpR.or op_ne (op_neD hu)) cm_ne mild_ne ha hb (nomark _)
theorem pmt_isN (ha : PM X E W a ma) (hb : PM X E W b mb) : PMT X E W (.Compare a [.Is] [b] pos) (mTB (mCmp cIsN ma mb)) := pmt_cmp op_isN cm_isN mild_isN ha hb (nomark _)
theorem pmt_notN (ha : PM X E W a ma) (hb : PM X E W b mb) : PMT X E W (.Compare a [.IsNot] [b] pos) (mTB (mCmp cNotN ma mb)) := pmt_cmp op_notN cm_notN mild_notN ha hb (nomark _)
theorem pmt_in (hu : X.A.units + 65 < cLine) (ha : PM X E W a ma) (hb : PM X E W b mb) (hm : behindInMarks .In b = false := by rfl) : PMT X E W (.Compare a [.In] [b] pos) (mTB (mCmp cIn ma mb)) := pmt_cmp (OpR.or op_in_sign (OpR.or op_in_seq (op_inD hu))) cm_in mild_in ha hb hm
theorem pmt_notIn (hu : X.A.units + 65 < cLine) (ha : PM X E W a ma) (hb : PM X E W b mb) (hm : behindInMarks .NotIn b = false := by rfl) : PMT X E W (.Compare a [.NotIn] [b] pos) (mTB (mCmp cNotIn ma mb)) := pmt_cmp (OpR.or op_notIn_sign (OpR.or op_notIn_seq (op_notInD hu))) cm_notIn mild_notIn ha hb hm
/-! a walk over a list, a tuple or a text -/
def iAny (K : PySem.W.Frag) (tl : TE) : TI := fun σ H R => tl σ H fun x H1 => (∃ a, x = .ref a ∧ (∃ xs, SqL K H1 a xs) ∧ R (Itl K a) H1) ∨ (∃ a, x = .ref a ∧ (∃ xs, SqT K H1 a xs) ∧ R (Itt K a) H1) ∨ ∃ z, x = .str z ∧ R (Its z) H1
variable {tg : Expr}
theorem pi_any {l : Expr} {tl : TE} (hl : PE X l tl) : PI X tg l (iAny X.K tl) := by
  refine ⟨fun pins s σ H R I h => ?_⟩
  refine thn (hl.run pins s σ H _ I h) fun v s1 ⟨x, H1, I1, r1, q1⟩ => ?_
  rcases q1 with ⟨a, e, ⟨xs, hq⟩, q⟩ | ⟨a, e, ⟨xs, hq⟩, q⟩ | ⟨z, e, q⟩
  · subst e
    cases r1
    obtain ⟨its, rv, p, hz⟩ := I1.list hq
    refine wpAny_pyIter_list p.isList ?_
    refine ⟨s1.heap.objs.size, [s1.heap.objs.size], _, _, H1, rfl, I1.kept (t' := s1.toks) fun b o e => Heap.get?_push_of_some _ e, turn_list a _, ⟨_, Heap.get?_push_size _ rfl, rfl, rfl⟩, fun b hb => ?_, q⟩
    have e : b = s1.heap.objs.size := by simpa using hb
    subst e
    exact I1.fpOk (Nat.le_refl _) (I1.hok.fresh (Nat.le_refl _))
  · subst e
    cases r1
    obtain ⟨its, rv, p, hz⟩ := I1.tuple hq
    refine wpAny_pyIter_tuple (show s1.heap.IsTuple a its.toArray from p) ?_
    refine ⟨s1.heap.objs.size, [s1.heap.objs.size], _, _, H1, rfl, I1.kept (t' := s1.toks) fun b o e => Heap.get?_push_of_some _ e, turn_tuple a _, ⟨_, Heap.get?_push_size _ rfl, rfl, rfl⟩, fun b hb => ?_, q⟩
    have e : b = s1.heap.objs.size := by simpa using hb
    subst e
    exact I1.fpOk (Nat.le_refl _) (I1.hok.fresh (Nat.le_refl _))
  · subst e
    obtain ⟨t, rfl⟩ := r1
    cases ha : z.cps.all (· < 128)
    · exact wpAny_pyIter_wide ha (pi_one (tk := s1.toks) I1 _ (turn_str _ z t "str_iterator" (.inr rfl)) ⟨_, Heap.get?_push_size _ rfl, rfl, rfl⟩ q)
    · exact wpAny_pyIter_ascii ha (pi_one (tk := s1.toks) I1 _ (turn_str _ z t "str_ascii_iterator" (.inl rfl)) ⟨_, Heap.get?_push_size _ rfl, rfl, rfl⟩ q)
theorem pmi_any (ha : PM X E W e ma) : PMI X E W tg e (wmA ma) :=
  PI.imp (pi_any ha) fun σ H R ⟨B, ρ, S, h⟩ => GG.bindE S h fun x tx vx H1 rx e1 S1 h1 => by
    have fin : ∀ (k : SK) (ds : List D) (q : Addr) (vs : List V), x = .seq k ds → k ≠ .tup → vx = .ref q → SqL X.K (hid B (frzO tx.slot ρ) σ H1) q vs → Reps X.K X.mg (ar B ρ σ H1) ds vs →
        ((∃ a, vx = .ref a ∧ (∃ xs, SqL X.K H1 a xs) ∧ R (Itl X.K a) H1) ∨ (∃ a, vx = .ref a ∧ (∃ xs, SqT X.K H1 a xs) ∧ R (Itt X.K a) H1) ∨ ∃ z, vx = .str z ∧ R (Its z) H1) := by
      intro k ds q vs ex hk ev hq r
      subst ex ev
      refine .inl ⟨q, rfl, ⟨vs, hid_sub.seq hq⟩, ?_⟩
      have h2 : ∀ J H1, Same H H1 → SR X.K X.mg E B ρ σ H1 → Wk X.K X.mg (ar B ρ σ H1) (hid B (frzO tx.slot ρ) σ H1) J ds → R J H1 := by
        cases k <;> first | exact h1 | exact absurd rfl hk
      exact h2 _ H1 e1 S1 (wk_list hq r fun H' s => (ar_hid S1 fun _ z => own_frzO z).trans s)
    cases tx with
    | cl =>
      have rr : Rep X.K X.mg (ar B ρ σ H1) x vx := rx
      cases rr <;> first | exact False.elim h1 | skip
      case lst q ds vs hv r => exact fin .lst ds q vs rfl (by simp) rfl (.of (ar_hid S1 (fun _ z => own_frzO z) _ _ hv)) r
      case rol q ds vs hv r => exact fin .rol ds q vs rfl (by simp) rfl ((ar_hid S1 fun _ z => own_frzO z).seq hv) r
      case tup q ds vs hv r => exact .inr (.inl ⟨q, rfl, ⟨vs, same_tup S1.sub hv⟩, h1 _ H1 e1 S1 (wk_tup (same_tup (ar_hid S1 fun _ z => z) hv) r fun H' s => (ar_hid S1 fun _ z => z).trans s)⟩)
      case str s => exact .inr (.inr ⟨_, rfl, h1 _ H1 e1 S1 (wk_str s)⟩)
    | own i =>
      obtain ⟨l, ds, q1, rfl, q3⟩ := rx
      cases l <;> first | exact h1.elim | skip
      obtain ⟨q, vs, e2, e3, e4⟩ := S1.owl i ds q1
      rw [q3] at e2
      cases e2
      refine fin .lst ds q vs rfl (by simp) rfl (.of ?_) e4
      have S2 := S1.frz i
      have hf : (Dm.frz i ρ)[i]? = some (.fz (.seq .lst ds)) := by
        unfold Dm.frz
        rw [q1]
        exact List.getElem?_set_self (List.getElem?_eq_some_iff.mp q1).1
      obtain ⟨v, h3, h4⟩ := S2.fz i _ hf
      rw [q3] at h3
      cases h3
      cases h4 with
      | lst hv r' =>
        have := S2.sub _ _ hv
        rw [e3] at this
        cases this
        exact ar_hid S2 (fun _ z => z) _ _ hv
    | fr =>
      obtain ⟨q, o, l, ds, vs, rfl, rfl, q3, q4, hk, q5⟩ := rx
      cases l <;> first | exact h1.elim | skip
      cases hk
      refine fin .lst ds q vs rfl (by simp) rfl (.of ?_) (q5.mono ar_add)
      have hx : ¬ (B.X q ∨ Own ρ σ q) := fun z => by
        rcases z with z | z
        · obtain ⟨o, e⟩ := S.xt q z
          rw [q3] at e; cases e
        · obtain ⟨vs, e⟩ := S.there z
          rw [q3] at e; cases e
      show hid B ρ σ H1 q = _
      unfold hid
      rw [if_neg hx]
      exact q4
end

/-! ### the law -/
theorem ints_rep {K : PySem.W.Frag} {mg : Str → Option Value} {G : Hp} : ∀ ns : List Int, Reps K mg G (ns.map .int) (ns.map .int)
  | [] => .nil
  | n :: ns => .cons (.int n) (ints_rep ns)
/-- what the law's call promises -/
theorem law_sp {K : PySem.W.Frag} {mg : Str → Option Value} {m : FM} {H : Hp} {a : Addr} {ns : List Int} (h : m [.seq .rol (ns.map .int)] = .ok (.bl true, false)) (hS : SqL K H a (ns.map V.int)) :
    spM K mg 1 m [.ref a] H (fun v _ => v = .bl true) fun _ _ _ => False := by
  refine ⟨rfl, H, [.seq .rol (ns.map .int)], Same.refl H, .cons (.rol hS (ints_rep ns)) .nil, ?_⟩
  rw [h]
  intro v H' s r
  have r' : Rep K mg _ (.bl true) v := r
  cases r'
  rfl
theorem law_cx {P : Program} {w : World} {H : Hp} {s : Shared} {e : Value} {s' : Shared} (h : L2.CX P w [] H s (fun _ _ _ => False) e s') : False := by
  obtain ⟨_, _, _, _, _, _, _, _, _, _, _, _, z⟩ := h
  exact z
end Dm
end

section
set_option Elab.async false
set_option linter.all false
set_option maxRecDepth 100000
set_option maxHeartbeats 4000000
/-! Dm: small words for the printed text. -/
namespace Dm
open PySem PySem.Spec L2 TL
theorem hu65_of {A : Around} {k : Nat} (r : Room k A) : A.units + 65 < cLine := by have := r.un; omega
theorem is_int : ∀ t ∈ ["NoneType", "bool", "int", "str", "tuple", "list", "dict"], kitB t "int" = some (isT t "int") := by decide +kernel
theorem is_bool : ∀ t ∈ ["NoneType", "bool", "int", "str", "tuple", "list", "dict"], kitB t "bool" = some (isT t "bool") := by decide +kernel
theorem is_str : ∀ t ∈ ["NoneType", "bool", "int", "str", "tuple", "list", "dict"], kitB t "str" = some (isT t "str") := by decide +kernel
theorem is_tuple : ∀ t ∈ ["NoneType", "bool", "int", "str", "tuple", "list", "dict"], kitB t "tuple" = some (isT t "tuple") := by decide +kernel
theorem is_list : ∀ t ∈ ["NoneType", "bool", "int", "str", "tuple", "list", "dict"], kitB t "list" = some (isT t "list") := by decide +kernel
theorem is_dict : ∀ t ∈ ["NoneType", "bool", "int", "str", "tuple", "list", "dict"], kitB t "dict" = some (isT t "dict") := by decide +kernel
/-- a whole number, a text, of the module -/
def GInt (mg : Str → Option Value) (x : Str) (i : Int) : Prop := ∃ t, mg x = some (.int i t)
def GStr (mg : Str → Option Value) (x : Str) (s : List Nat) : Prop := ∃ t, mg x = some (.str ⟨s.toArray⟩ t)
theorem gstr_mk {mg : Str → Option Value} {x z : Str} {s : List Nat} {t : Tok} (h : mg x = some (.str z t)) (e : z = ⟨s.toArray⟩) : GStr mg x s := by
  subst e
  exact ⟨t, h⟩
section
variable {X : Cx} {E : ExE} {W : WX} {pos : Pos} {x : Str}
theorem GInt.pm {i : Int} (g : GInt X.mg x i) (hg : Gl X x) (hd : (x == ("__debug__" : Str)) = false := by decide) : PM X E W (.Name x pos) (mC (.int i)) := by
  obtain ⟨t, h⟩ := g
  exact pm_glob (v := .int i) hg h ⟨t, rfl⟩ (.int i) hd
theorem GStr.pm {s : List Nat} (g : GStr X.mg x s) (hg : Gl X x) (hd : (x == ("__debug__" : Str)) = false := by decide) : PM X E W (.Name x pos) (mC (.str s)) := by
  obtain ⟨t, h⟩ := g
  exact pm_glob (v := .str ⟨s.toArray⟩) hg h ⟨t, rfl⟩ (.str s) hd
end
/-- law's: a list of at most 63 ints is handed in, True comes out -/
def spLaw (K : PySem.W.Frag) : Sp := fun vs H Q _ => ∃ (a : Addr) (ns : List Int), vs = [.ref a] ∧ SqL K H a (ns.map V.int) ∧ ns.length ≤ 63 ∧ ∀ H', Q (.bl true) H'
theorem law_fn {P : Program} {w : World} {K : PySem.W.Frag} {mg : Str → Option Value} {base : Heap} {k : Nat} {f : Addr} {fd : FuncData} {ps : List Str} {m : FM} (F : FnOk P w K mg base (L2.CX P w) k f fd ps (spM K mg 1 m))
    (h : ∀ ns : List Int, ns.length ≤ 63 → m [.seq .rol (ns.map .int)] = .ok (.bl true, false)) : FnOk P w K mg base (L2.CX P w) k f fd ps (spLaw K) :=
  F.imp fun vs H Q E ⟨a, ns, ev, hS, hl, q⟩ => by
    subst ev
    refine ⟨rfl, H, [.seq .rol (ns.map .int)], Same.refl H, .cons (.rol hS (ints_rep ns)) .nil, ?_⟩
    rw [h ns hl]
    intro v H' s r
    have r' : Rep K mg _ (.bl true) v := r
    cases r'
    exact q H'
end Dm
end

section
set_option Elab.async false
set_option linter.all false
set_option maxRecDepth 100000
set_option maxHeartbeats 4000000
/-! Dm: try with a clause 'except C as e'. -/
namespace Dm
open PySem PySem.Spec L2 TL
section
variable {K : PySem.W.Frag} {mg : Str → Option Value} {B : Bs} {ρ : Rho} {σ : St} {H : Hp}
/-- the exception comes into slot i -/
theorem SR.come (S : SR K mg none B ρ σ H) (i : Nat) (C : String) (a : Addr) : SR K mg (some (i, C, a)) B (ρ.set i (.ex C)) (σ.set i (some (.ref a))) H := by
  have S' : SR K mg (some (i, C, a)) B ρ σ H := ⟨S.len, S.fz, S.ow, S.dj, (fun j D h => by
    obtain ⟨b, e, _⟩ := S.ex j D h
    cases e), S.gh, S.bh, S.new, S.xo, S.xt⟩
  exact S'.put i (fun _ _ e => nomatch e) (fun D e => by cases e; exact ⟨a, rfl, rfl⟩) (fun _ e => nomatch e)
/-- and goes -/
theorem SR.gone {i : Nat} {C : String} {a : Addr} (S : SR K mg (some (i, C, a)) B ρ σ H) : SR K mg none B (ρ.set i .no) (σ.set i none) H := by
  have T := S.setNo i none
  refine ⟨T.len, T.fz, T.ow, T.dj, fun j D h => ?_, T.gh, T.bh, T.new, T.xo, T.xt⟩
  obtain ⟨b, e, h2⟩ := T.ex j D h
  cases e
  exfalso
  by_cases hl : i < ρ.length
  · rw [List.getElem?_set_self hl] at h; cases h
  · rw [List.getElem?_eq_none (by simpa using hl)] at h; cases h
end
section
variable {X : Cx} {W : WX} {pos pos' np : Pos} {x n : Str} {c : Value} {body suite : List Stmt} {b₀ : Stmt} {mb mh : SM} {U cs : List String}
def tHand (K : PySem.W.Frag) (mg : Str → Option Value) (i : Nat) (U : List String) (mh : SM) : Addr → Value → Option Addr → TS := fun a cls d D σ H =>
  ∃ C, C ∈ U ∧ cls = clsV mg C ∧ d = none ∧ tS K mg (some (i, C, a)) (fun _ _ _ _ => False) mh D σ H
theorem psm_tryAs (i : Nat) (hN : X.N.Nodup) (tk : Takes X W) (hc : Names X x c) (hx : ∀ C ∈ U, PySem.W.exmOne X.K (clsV X.mg C) c = some (cs.contains C))
    (hb : ∀ (W' : WX) (pn : List (Addr × Obj)) (xe : Value → Shared → Prop), Takes (X.tr pn xe) W' → PassesOwn (model X.prog X.w) X.A X.env xe → PSsM (X.tr pn xe) none W' body mb)
    (hsu : ∀ C ∈ U, ∀ (a : Addr) (oe : Obj) (pn : List (Addr × Obj)), Zc (clsV X.mg C) none oe → (∃ vs, oe.data = .fields vs) → PSsM (X.suite a ((a, oe) :: pn)) (some (i, C, a)) (fun _ _ _ _ => False) (b₀ :: suite) mh)
    (hs : X.stack = X.env :: X.outer := by rfl) (hf : X.env.frame = some X.env.locals := by rfl) (hi : X.N[i]? = some n := by rfl) (hln : X.env.kindOf n = some .local := by rfl) :
    PSM X none W (.Try body [.ExceptHandler (some (.Name x np)) (some n) (b₀ :: suite) pos'] [] [] pos) (smTry U cs i mb mh) :=
  PS.imp (ps_try_as (i := i) (ts := tHand X.K X.mg i U mh) (tb := fun W' => tS X.K X.mg none W' mb) hs hf hN hi hln hc tk hb fun a oe cls d pn hz hv => ⟨fun pins s σ H D I h => by
      obtain ⟨C, hC, rfl, rfl, q⟩ := h
      exact (hsu C hC a oe pn hz hv).run pins s σ H D I q⟩) fun D σ H ⟨B, ρ, S, h⟩ => by
    refine ⟨B, ρ, S, ?_⟩
    unfold smTry at h
    cases e : mb ρ with
    | bad => rw [e] at h; exact h
    | ex C => rw [e] at h; exact h.elim
    | ok o =>
      rw [e, Res.bind_ok] at h
      cases o with
      | nx ρ' => exact h
      | rt d fr => exact h
      | bk ρ' => exact h
      | ct ρ' => exact h
      | ex C ρ' =>
        intro σ1 H1 S1
        replace h : GS X.K X.mg none W B D (if U.contains C then (if cs.contains C then (mh (ρ'.set i (.ex C))).bind (smEnd i) else .ok (.ex C ρ')) else .bad) := h
        by_cases hU : U.contains C = true
        · rw [if_pos hU] at h
          have hC : C ∈ U := by simpa using hU
          refine ⟨cs.contains C, hx C hC, fun hk a ha => ⟨C, hC, rfl, rfl, B, _, S1.come i C a, ?_⟩, fun hk => ?_⟩
          · rw [if_pos hk] at h
            cases e2 : mh (ρ'.set i (.ex C)) with
            | bad => rw [e2] at h; exact h
            | ex C => rw [e2] at h; exact h.elim
            | ok o =>
              rw [e2, Res.bind_ok] at h
              cases o with
              | nx ρ2 => exact fun σ2 H2 S2 => h _ _ S2.gone
              | rt d fr => exact h
              | bk ρ2 => exact fun σ2 H2 S2 => h _ _ S2.gone
              | ct ρ2 => exact fun σ2 H2 S2 => h _ _ S2.gone
              | ex C2 ρ2 => exact h.elim
          · rw [if_neg (by rw [hk]; exact Bool.false_ne_true)] at h
            exact h σ1 H1 S1
        · rw [if_neg hU] at h
          exact h.elim
end
/-! isinstance of the exception that a suite holds -/
section
variable {X : Cx}
theorem call_isET {a D : Addr} {oe : Obj} {pn : List (Addr × Obj)} (C : ExcC X.K D) (hz : Zc (.ref D) none oe) (hf : ∃ vs, oe.data = .fields vs) : CallR (X.suite a ((a, oe) :: pn)) (.builtin "isinstance")
    (fun xs H Q => ∃ (tp : Addr) (cs : List V) (us : List Value) (b : Bool), xs = [.ref a, .ref tp] ∧ H tp = some (.tup cs) ∧ Paired ClsV cs us ∧ PySem.W.kitAny X.K (.ref D) us = some b ∧ Q (.bl b) H) := by
  intro pins s σ H xs us Q I r h
  obtain ⟨tp, cs, ws, b, rfl, hT, k, e, q⟩ := h
  obtain ⟨u1, u2, rfl, r1, r2⟩ := vals2 r
  cases (show u1 = Value.ref a from r1)
  cases (show u2 = Value.ref tp from r2)
  obtain ⟨hget, _⟩ := I.pin (a, oe) (List.mem_append.mpr (.inl List.mem_cons_self))
  obtain ⟨vs, hv⟩ := hf
  have J : PySem.W.InstAt s.heap a oe D none := by
    obtain ⟨oc, od, oda, osl⟩ := oe
    obtain ⟨h1, h2⟩ := hz
    dsimp only at h1 h2 hv
    subst h1 h2 hv
    exact ⟨hget, rfl, rfl, trivial⟩
  obtain ⟨_, its, rv, o, h1, h2, n, h3⟩ := (show ObjOk X.prog X.w H s.heap tp (.tup cs) from I.hok tp _ hT)
  have e3 := ClsV.all k rv
  subst e3
  obtain ⟨oc, od, dt, sl⟩ := o
  simp only at h2 h3
  subst h2 h3
  exact PySem.W.kia_tup (PySem.W.handS_kitx_exc C.hg C.hk C.hs C.hd C.ha C.hn C.ht C.hm) I.kIn J h1 e (fun z => nomatch z) fun tk => ⟨.bl b, H, I.tok tk, rfl, q⟩
end
/-- the class C of the program is one whose instances isinstance asks rightly -/
structure ExD (K : PySem.W.Frag) (mg : Str → Option Value) (C : String) : Prop where
  ex : ∃ c : Addr, mg (C : Str) = some (.ref c) ∧ ExcC K c
/-- expressions that stand for classes -/
structure ClsP (X : Cx) (es : List Expr) (vs : List V) (us : List Value) : Prop where
  pa : PA X es (fun _ H Q => Q vs H)
  cl : Paired ClsV vs us
section
variable {X : Cx} {E : ExE} {W : WX} {e : Expr} {es : List Expr} {v : V} {u : Value} {vs : List V} {us : List Value} {pos p p1 p2 : Pos} {n : Str}
theorem clp_nil : ClsP X [] [] [] := ⟨PA.imp pa_nil fun _ _ _ h => h, .nil⟩
theorem clp_cons (he : PE X e (tC v)) (hc : ClsV v u) (hr : ClsP X es vs us) (hs : starEach (e :: es) X.env = (false, eval e X.env) :: starEach es X.env := by rfl) : ClsP X (e :: es) (v :: vs) (u :: us) :=
  ⟨PA.imp (pa_cons he hr.pa hs) fun _ _ _ h => h, .cons hc hr.cl⟩
theorem cl_own {x : Str} {c : Addr} {pos : Pos} (hm : X.mg x = some (.ref c)) (hg : Gl X x := by rfl) (hd : (x == ("__debug__" : Str)) = false := by decide) : PE X (.Name x pos) (tC (.ref c)) := pe_glob hg hm rfl hd
theorem cl_blt {x : Str} {T : String} {pos : Pos} (hm : X.mg x = none) (hv : bootBuiltins x = some (.type T)) (hg : Gl X x := by rfl) (hn : x ≠ "__name__" := by decide) (hd : (x == ("__debug__" : Str)) = false := by decide) : PE X (.Name x pos) (tC (.ty T)) := pe_bltn hg hm hv rfl hn hd
/-- isinstance(e, C), e the exception of the suite -/
theorem pm_exIs {i : Nat} {C : String} {a : Addr} {oe : Obj} {pn : List (Addr × Obj)} {tb : List (String × Bool)} {b : Bool} (F : ExD X.K X.mg C) (hz : Zc (clsV X.mg C) none oe) (hf : ∃ ws, oe.data = .fields ws)
    (he0 : PE (X.suite a ((a, oe) :: pn)) e (tC v)) (hcl : ClsV v u) (kit : PySem.W.kitOne X.K (clsV X.mg C) u = some b) (hb : tb.lookup C = some b) (hm : X.mg "isinstance" = none) (hg : Gl X "isinstance" := by rfl)
    (hN : X.N[i]? = some n := by rfl) (hv : Vis X.env.scope n := by first | exact Or.inl rfl | exact Or.inr (Or.inl rfl) | exact Or.inr (Or.inr rfl)) (hd : (n == ("__debug__" : Str)) = false := by decide) (hcd : (n == ("__classdict__" : Str)) = false := by decide)
    (he : starEach [.Name n p1, e] X.env = (false, eval (.Name n p1) X.env) :: starEach [e] X.env := by rfl) (he2 : starEach [e] X.env = (false, eval e X.env) :: starEach [] X.env := by rfl) (hpl : (backTo pos (starEach [e] X.env)).any (·.1) = false := by rfl) :
    PM (X.suite a ((a, oe) :: pn)) (some (i, C, a)) W (.Call (.Name "isinstance" p) [.Name n p1, e] [] pos) (mExIs i tb) := by
  obtain ⟨c, gC, xC⟩ := F.ex
  have ec : clsV X.mg C = .ref c := by
    unfold clsV
    rw [gC]
    rfl
  rw [ec] at hz kit
  refine PE.imp (pe_callB (X := X.suite a ((a, oe) :: pn)) (call_isE xC hz hf) hg hm (by decide +kernel) (pa_cons (pe_var hN hv hd hcd) (pa_cons he0 pa_nil he2) he) (he := he) (hpl := hpl)) fun σ H Q ⟨B, ρ, S, h⟩ => ?_
  unfold mExIs at h
  split at h
  · rename_i C' e'
    obtain ⟨a', e1, e2⟩ := S.ex i C' e'
    cases e1
    rw [hb] at h
    exact ⟨_, e2, v, u, b, rfl, fun w r => hcl.eq r, kit, GM.sc (d := .bl b) h (.bl b)⟩
  · exact h.elim
theorem pm_exIsT {i : Nat} {C : String} {a : Addr} {oe : Obj} {pn : List (Addr × Obj)} {tb : List (String × Bool)} {b : Bool} {x1 : Nat} {p3 : Pos} (F : ExD X.K X.mg C) (hz : Zc (clsV X.mg C) none oe) (hf : ∃ ws, oe.data = .fields ws)
    (hcl : ClsP (X.suite a ((a, oe) :: pn)) es vs us) (kit : PySem.W.kitAny X.K (clsV X.mg C) us = some b) (hb : tb.lookup C = some b) (hl : vs.length ≤ 1000) (hm : X.mg "isinstance" = none) (hg : Gl X "isinstance" := by rfl)
    (hN : X.N[i]? = some n := by rfl) (hv : Vis X.env.scope n := by first | exact Or.inl rfl | exact Or.inr (Or.inl rfl) | exact Or.inr (Or.inr rfl)) (hd : (n == ("__debug__" : Str)) = false := by decide) (hcd : (n == ("__classdict__" : Str)) = false := by decide)
    (he : starEach [.Name n p1, .Tuple es x1 p3] X.env = (false, eval (.Name n p1) X.env) :: starEach [.Tuple es x1 p3] X.env := by rfl) (he2 : starEach [.Tuple es x1 p3] X.env = (false, eval (.Tuple es x1 p3) X.env) :: starEach [] X.env := by rfl) (hpl : (backTo pos (starEach [.Tuple es x1 p3] X.env)).any (·.1) = false := by rfl) :
    PM (X.suite a ((a, oe) :: pn)) (some (i, C, a)) W (.Call (.Name "isinstance" p) [.Name n p1, .Tuple es x1 p3] [] pos) (mExIs i tb) := by
  obtain ⟨c, gC, xC⟩ := F.ex
  have ec : clsV X.mg C = .ref c := by
    unfold clsV
    rw [gC]
    rfl
  rw [ec] at hz kit
  refine PE.imp (pe_callB (X := X.suite a ((a, oe) :: pn)) (call_isET xC hz hf) hg hm (by decide +kernel) (pa_cons (pe_var hN hv hd hcd) (pa_cons (pe_tup hcl.pa) pa_nil he2) he) (he := he) (hpl := hpl)) fun σ H Q ⟨B, ρ, S, h⟩ => ?_
  unfold mExIs at h
  split at h
  · rename_i C' e'
    obtain ⟨a', e1, e2⟩ := S.ex i C' e'
    cases e1
    rw [hb] at h
    refine ⟨_, e2, by rw [sizeLine_eq]; omega, fun q hq => ⟨q, vs, us, b, rfl, upd_same, hcl.cl, kit, ?_⟩⟩
    have h2 : GM X.K X.mg W B ρ σ H (.ok (.bl b, .cl)) Q := h
    exact h2 (.bl b) _ (Same.upd hq) (.bl b)
  · exact h.elim
end
/-! the facts of the classes, and the rule for the printed walk -/
def ClsN (mg : Str → Option Value) (D : String) : Prop := ∃ d : Addr, mg (D : Str) = some (.ref d)
def clsW (mg : Str → Option Value) (D : String) : V := match mg (D : Str) with
  | some (.ref d) => .ref d
  | _ => .non
theorem clsV_of {mg : Str → Option Value} {D : String} {d : Addr} (h : mg (D : Str) = some (.ref d)) : clsV mg D = .ref d := by
  unfold clsV
  rw [h]
  rfl
theorem clsW_of {mg : Str → Option Value} {D : String} {d : Addr} (h : mg (D : Str) = some (.ref d)) : clsW mg D = .ref d := by
  unfold clsW
  rw [h]
theorem cl_n {X : Cx} {D : String} {pos : Pos} (h : ClsN X.mg D) (hg : Gl X (D : Str) := by rfl) (hd : ((D : Str) == ("__debug__" : Str)) = false := by decide) : PE X (.Name (D : Str) pos) (tC (clsW X.mg D)) := by
  obtain ⟨d, h⟩ := h
  rw [clsW_of h]
  exact cl_own h hg hd
theorem cv_n {mg : Str → Option Value} {D : String} (h : ClsN mg D) : ClsV (clsW mg D) (clsV mg D) := by
  obtain ⟨d, h⟩ := h
  rw [clsW_of h, clsV_of h]
  exact .own d
theorem fa_nil {P : String → Prop} : ∀ C ∈ ([] : List String), P C := fun _ h => nomatch h
theorem fa_cons {P : String → Prop} {x : String} {xs : List String} (h : P x) (t : ∀ C ∈ xs, P C) : ∀ C ∈ x :: xs, P C := fun C hC => by
  rcases List.mem_cons.mp hC with rfl | hC
  · exact h
  · exact t C hC
theorem kan_nil {K : PySem.W.Frag} {t : Value} : PySem.W.kitAny K t [] = some false := rfl
theorem kan_f {K : PySem.W.Frag} {t c : Value} {cs : List Value} {b : Bool} (h : PySem.W.kitOne K t c = some false) (r : PySem.W.kitAny K t cs = some b) : PySem.W.kitAny K t (c :: cs) = some b := by
  unfold PySem.W.kitAny
  rw [h]
  exact r
theorem kan_t {K : PySem.W.Frag} {t c : Value} {cs : List Value} (h : PySem.W.kitOne K t c = some true) : PySem.W.kitAny K t (c :: cs) = some true := by
  unfold PySem.W.kitAny
  rw [h]
theorem psm_try {X : Cx} {W : WX} {pos pos' np : Pos} {n : Str} {P : String} {body suite : List Stmt} {b₀ : Stmt} {mb mh : SM} (U cs : List String) (i : Nat) (hN : X.N.Nodup) (tk : Takes X W) (hP : ClsN X.mg P) (hx : ∀ C ∈ U, PySem.W.exmOne X.K (clsV X.mg C) (clsV X.mg P) = some (cs.contains C))
    (hb : ∀ (W' : WX) (pn : List (Addr × Obj)) (xe : Value → Shared → Prop), Takes (X.tr pn xe) W' → PassesOwn (model X.prog X.w) X.A X.env xe → PSsM (X.tr pn xe) none W' body mb)
    (hsu : ∀ C ∈ U, ∀ (a : Addr) (oe : Obj) (pn : List (Addr × Obj)), Zc (clsV X.mg C) none oe → (∃ vs, oe.data = .fields vs) → PSsM (X.suite a ((a, oe) :: pn)) (some (i, C, a)) (fun _ _ _ _ => False) (b₀ :: suite) mh)
    (hg : Gl X (P : Str) := by rfl) (hd : ((P : Str) == ("__debug__" : Str)) = false := by decide)
    (hs : X.stack = X.env :: X.outer := by rfl) (hf : X.env.frame = some X.env.locals := by rfl) (hi : X.N[i]? = some n := by rfl) (hln : X.env.kindOf n = some .local := by rfl) :
    PSM X none W (.Try body [.ExceptHandler (some (.Name (P : Str) np)) (some n) (b₀ :: suite) pos'] [] [] pos) (smTry U cs i mb mh) := by
  obtain ⟨q, h⟩ := hP
  refine psm_tryAs i hN tk (c := clsV X.mg P) ⟨hg, hd, .inl ?_⟩ hx hb hsu hs hf hi hln
  rw [clsV_of h]
  exact h
theorem kit_of {K : PySem.W.Frag} {C D : Addr} {b : Bool} (hd : PySem.W.hasDictIn K D = true) (ty : PySem.W.typeIn K (.ref D) = some (.type "type")) (su : PySem.W.subIn K (.ref C) (.ref D) = some b) (ss : PySem.W.subIn K (.ref C) (.ref C) = some true) : PySem.W.kitOne K (.ref C) (.ref D) = some b := by
  unfold PySem.W.kitOne
  by_cases h : (Value.ref C == Value.ref D) = true
  · rw [if_pos h]
    have e : C = D := by
      have := eq_of_beq h
      injection this
    subst e
    rw [ss] at su
    exact su
  · rw [if_neg h]
    obtain ⟨cd, hc, _⟩ := PySem.W.any_some hd
    have e2 : ((PySem.W.clsIn K D).isSome && PySem.W.typeIn K (.ref D) == some (.type "type")) = true := by rw [hc, ty] <;> rfl
    show (if ((PySem.W.clsIn K D).isSome && PySem.W.typeIn K (.ref D) == some (.type "type")) = true then PySem.W.subIn K (.ref C) (.ref D) else none) = some b
    rw [if_pos e2]
    exact su
theorem kit_ty_of {K : PySem.W.Frag} {C : Addr} {T : String} {b : Bool} (hm : PySem.W.kitMeta T = true) (su : PySem.W.subIn K (.ref C) (.type T) = some b) : PySem.W.kitOne K (.ref C) (.type T) = some b := by
  unfold PySem.W.kitOne
  have e : (Value.ref C == Value.type T) = false := beq_eq_false_iff_ne.mpr (fun z => nomatch z)
  rw [e]
  show (if PySem.W.kitMeta T = true then PySem.W.subIn K (.ref C) (.type T) else none) = some b
  rw [if_pos hm]
  exact su
end Dm
end

section
set_option Elab.async false
set_option linter.all false
set_option maxRecDepth 100000
set_option maxHeartbeats 4000000
/-! Dm: try with clauses that have no name; a suite that raises. -/
namespace Dm
open PySem PySem.Spec L2 TL
section
variable {X : Cx} {W : WX} {pos pos' np : Pos} {P : String} {body suite : List Stmt} {b₀ : Stmt} {mb mh : SM} {U cs : List String} {K : PySem.W.Frag} {mg : Str → Option Value} {B : Bs} {D : Ends}
/-- what flies on, or is caught: the body's word -/
theorem try_read {C2 : Out → Res Out} {W' : WX} {σ : St} {H : Hp} (hnx : ∀ ρ, C2 (.nx ρ) = .ok (.nx ρ)) (hrt : ∀ d f, C2 (.rt d f) = .ok (.rt d f)) (hbk : ∀ ρ, C2 (.bk ρ) = .ok (.bk ρ)) (hct : ∀ ρ, C2 (.ct ρ) = .ok (.ct ρ))
    (hex : ∀ (B : Bs) (C : String) (ρ' : Rho) (σ1 : St) (H1 : Hp), SR K mg none B ρ' σ1 H1 → GS K mg none W B D (C2 (.ex C ρ')) → W' (clsV mg C) none σ1 H1)
    (h : tS K mg none W (fun ρ => (mb ρ).bind C2) D σ H) : tS K mg none W' mb D σ H := by
  obtain ⟨B, ρ, S, h⟩ := h
  refine ⟨B, ρ, S, ?_⟩
  replace h : GS K mg none W B D ((mb ρ).bind C2) := h
  cases e : mb ρ with
  | bad => rw [e] at h; exact h
  | ex C => rw [e] at h; exact h.elim
  | ok o =>
    rw [e, Res.bind_ok] at h
    cases o with
    | nx ρ' => rw [hnx] at h; exact h
    | rt d fr => rw [hrt] at h; exact h
    | bk ρ' => rw [hbk] at h; exact h
    | ct ρ' => rw [hct] at h; exact h
    | ex C ρ' => exact fun σ1 H1 S1 => hex B C ρ' σ1 H1 S1 h
theorem psm_tryX {N : String} {m : Str} {j : Nat} {p p2 pos2 pos3 : Pos} {E₁ : Value → Shared → Prop} {Kx : Value → Shared → Prop} (tk : Tks false X W) (hP : ClsN X.mg P) (hx : ∀ C ∈ U, PySem.W.exmOne X.K (clsV X.mg C) (clsV X.mg P) = some (cs.contains C)) (T : ExcOk X.K X.mg N)
    (hxe : X.xe = fun e s' => wpAny (model X.prog X.w) X.A (leaving X.env e) (fun _ s'' => Kx e s'') E₁ s')
    (hb : ∀ (W' : WX) (pn : List (Addr × Obj)) (xe : Value → Shared → Prop), Tks true (X.tr pn xe) W' → PassesOwn (model X.prog X.w) X.A X.env xe → PSsM (X.tr pn xe) none W' body mb)
    (hg : Gl X (P : Str) := by rfl) (hd : ((P : Str) == ("__debug__" : Str)) = false := by decide)
    (hgN : Gl X (N : Str) := by rfl) (hdN : ((N : Str) == ("__debug__" : Str)) = false := by decide)
    (hs : X.stack = X.env :: X.outer := by rfl) (hf : X.env.frame = some X.env.locals := by rfl) :
    PSM X none W (.Try body [.ExceptHandler (some (.Name (P : Str) np)) none [.Raise (some (.Call (.Name (N : Str) p) [.Constant (.str m) j p2] [] pos2)) none pos3] pos'] [] [] pos) (smTryX U cs N mb) := by
  obtain ⟨q, hq⟩ := hP
  obtain ⟨c, gC, xC, kC, bC, tC⟩ := T.ex
  have e : clsV X.mg N = .ref c := by
    unfold clsV
    rw [gC]
    rfl
  refine PS.imp (L2H.ps_try_onlyX (c := clsV X.mg P) (ts := fun _ _ _ _ σ H => W (clsV X.mg N) none σ H) (tb := fun W' => tS X.K X.mg none W' mb) hs hf ⟨hg, hd, .inl ?_⟩ (fun hd => L2H.passesAt_of hxe hd) tk (fun W' pn xe t1 _ po => hb W' pn xe t1 po) ?_) ?_
  · rw [clsV_of hq]
    exact hq
  · intro a oe cls d pn _ _ tkS hot
    refine pss_one (PS.imp (L2H.ps_raiseH (t := fun _ H Q => Q (.ref c) none H) hot tkS (L2N.pmk_own PySem.F.excBase_ValueError xC gC kC (raises_own bC tC) hgN hdN)) ?_)
    intro D σ H h
    rw [e] at h
    exact h
  · intro D σ H h
    refine try_read (C2 := smCatchX U cs N) (fun _ => rfl) (fun _ _ => rfl) (fun _ => rfl) (fun _ => rfl) (fun B C ρ' σ1 H1 S1 g => ?_) h
    replace g : GS X.K X.mg none W B D (if U.contains C then (if cs.contains C then .ok (.ex N ρ') else .ok (.ex C ρ')) else .bad) := g
    by_cases hU : U.contains C = true
    · rw [if_pos hU] at g
      have hC : C ∈ U := by simpa using hU
      refine ⟨cs.contains C, hx C hC, fun hk a ha => ?_, fun hk => ?_⟩
      · rw [if_pos hk] at g
        exact g σ1 H1 S1
      · rw [if_neg (by rw [hk]; exact Bool.false_ne_true)] at g
        exact g σ1 H1 S1
    · rw [if_neg hU] at g
      exact g.elim
/-- clauses without a name -/
inductive HdM (X : Cx) (U : List String) : List ExceptHandler → List (List String × SM) → List (Value × (Addr → Value → Option Addr → TS)) → Prop
  | nil : HdM X U [] [] []
  | cons {P : String} {cs : List String} {b₀ : Stmt} {suite : List Stmt} {mh : SM} {np pos' : Pos} {hds : List ExceptHandler} {cl : List (List String × SM)} {l : List (Value × (Addr → Value → Option Addr → TS))} (hP : ClsN X.mg P)
      (hx : ∀ C ∈ U, PySem.W.exmOne X.K (clsV X.mg C) (clsV X.mg P) = some (cs.contains C)) (hg : Gl X (P : Str)) (hd : ((P : Str) == ("__debug__" : Str)) = false)
      (hsu : ∀ (a : Addr) (oe : Obj) (pn : List (Addr × Obj)), PSsM (X.suite a ((a, oe) :: pn)) none (fun _ _ _ _ => False) (b₀ :: suite) mh) (r : HdM X U hds cl l) :
      HdM X U (.ExceptHandler (some (.Name (P : Str) np)) none (b₀ :: suite) pos' :: hds) ((cs, mh) :: cl) ((clsV X.mg P, fun _ _ _ => tS X.K X.mg none (fun _ _ _ _ => False) mh) :: l)
theorem HdM.ok {hds : List ExceptHandler} {cl : List (List String × SM)} {l : List (Value × (Addr → Value → Option Addr → TS))} (h : HdM X U hds cl l) : HdsOk X hds l := by
  induction h with
  | nil => exact .nil
  | cons hP hx hg hd hsu r ih =>
    refine .cons ⟨hg, hd, .inl ?_⟩ (fun a oe cls d pn _ _ => hsu a oe pn) ih
    obtain ⟨q, hq⟩ := hP
    rw [clsV_of hq]
    exact hq
theorem HdM.read {hds : List ExceptHandler} {cl : List (List String × SM)} {l : List (Value × (Addr → Value → Option Addr → TS))} (h : HdM X U hds cl l) {C : String} (hC : C ∈ U) {ρ' : Rho} {σ1 : St} {H1 : Hp} (S1 : SR X.K X.mg none B ρ' σ1 H1)
    (g : GS X.K X.mg none W B D (catchM cl C ρ')) : wMany X.K W D l (clsV X.mg C) none σ1 H1 := by
  induction h with
  | nil => exact g σ1 H1 S1
  | cons hP hx hg hd hsu r ih =>
    rename_i cs _ _ mh _ _ _ cl _
    replace g : GS X.K X.mg none W B D (if cs.contains C then (mh ρ').bind noExO else catchM cl C ρ') := g
    refine ⟨cs.contains C, hx C hC, fun hk a ha => ⟨B, ρ', S1, ?_⟩, fun hk => ih ?_⟩
    · rw [if_pos hk] at g
      cases e2 : mh ρ' with
      | bad => rw [e2] at g; exact g
      | ex C => rw [e2] at g; exact g.elim
      | ok o =>
        rw [e2, Res.bind_ok] at g
        cases o with
        | ex C2 ρ2 => exact g.elim
        | _ => exact g
    · rw [if_neg (by rw [hk]; exact Bool.false_ne_true)] at g
      exact g
theorem psm_tryM {h₀ : ExceptHandler} {hds : List ExceptHandler} {cl : List (List String × SM)} {l : List (Value × (Addr → Value → Option Addr → TS))} (U : List String) (tk : Tks false X W)
    (hb : ∀ (W' : WX) (pn : List (Addr × Obj)) (xe : Value → Shared → Prop), Tks false (X.tr pn xe) W' → PassesOwn (model X.prog X.w) X.A X.env xe → PSsM (X.tr pn xe) none W' body mb)
    (hh : HdM X U (h₀ :: hds) cl l) (hs : X.stack = X.env :: X.outer := by rfl) (hf : X.env.frame = some X.env.locals := by rfl) :
    PSM X none W (.Try body (h₀ :: hds) [] [] pos) (smTryM U cl mb) := by
  refine PS.imp (ps_try_many (tb := fun W' => tS X.K X.mg none W' mb) hs hf tk hb hh.ok) ?_
  intro D σ H h
  refine try_read (C2 := smCatchM U cl) (fun _ => rfl) (fun _ _ => rfl) (fun _ => rfl) (fun _ => rfl) (fun B C ρ' σ1 H1 S1 g => ?_) h
  replace g : GS X.K X.mg none W B D (if U.contains C then catchM cl C ρ' else .bad) := g
  by_cases hU : U.contains C = true
  · rw [if_pos hU] at g
    exact hh.read (by simpa using hU) S1 g
  · rw [if_neg hU] at g
    exact g.elim
end
end Dm
end

section
set_option Elab.async false
set_option linter.all false
set_option maxRecDepth 100000
set_option maxHeartbeats 4000000
/-! Dm: the module's own dicts, which are only read. -/
namespace Dm
open PySem PySem.Spec L2 TL
/-- entries with texts as keys -/
def entsW (w : World) : List Str → List Tok → List Value → List DictEntry
  | k :: ks, t :: ts, v :: vs => ⟨PyData.keyHash w.params k, .str k t, v⟩ :: entsW w ks ts vs
  | _, _, _ => []
inductive ValsD (K : PySem.W.Frag) (mg : Str → Option Value) : List Value → List D → List V → Prop
  | nil : ValsD K mg [] [] []
  | cons {u : Value} {d : D} {v : V} {us : List Value} {ds : List D} {vs : List V} : RelV v u → Rep K mg (fun _ => none) d v → ValsD K mg us ds vs → ValsD K mg (u :: us) (d :: ds) (v :: vs)
/-- the module's dict behind the name x -/
structure GDic (P : Program) (w : World) (K : PySem.W.Frag) (mg : Str → Option Value) (x : Str) (ks : List (List Nat)) (ds : List D) : Prop where
  ex : ∃ (d : Addr) (vs : List V) (us : List (Key × Value)), mg x = some (.ref d) ∧ (d == sysModules) = false ∧ vs.length = ks.length ∧ Reps K mg (fun _ => none) ds vs ∧ KV ((ks.map fun k => (Sum.inr ⟨k.toArray⟩ : Key)).zip vs) us ∧
    ∀ h : Heap, K.In h → h.DictOf (mixKind P w) d us
theorem entsW_ok {P : Program} {w : World} : ∀ {ks : List Str} {ts : List Tok} {us : List Value}, ts.length = ks.length → us.length = ks.length →
    KeysOf (mixKind P w) (entsW w ks ts us).toArray ∧ Pairs (mixKind P w) (entsW w ks ts us) ((ks.map fun k => (Sum.inr k : Key)).zip us)
  | [], _, _, _, _ => ⟨fun e he => by simp [entsW] at he, .nil⟩
  | k :: ks, [], _, h, _ => by simp at h
  | k :: ks, _ :: _, [], _, h => by simp at h
  | k :: ks, t :: ts, u :: us, h1, h2 => by
    obtain ⟨a, b⟩ := entsW_ok (P := P) (w := w) (ks := ks) (ts := ts) (us := us) (by simpa using h1) (by simpa using h2)
    refine ⟨fun e he => ?_, .cons (mixKind_str P w k t) rfl b⟩
    have he' : e ∈ (⟨PyData.keyHash w.params k, .str k t, u⟩ : DictEntry) :: entsW w ks ts us := by simpa [entsW] using he
    rcases List.mem_cons.mp he' with rfl | he'
    · exact ⟨Sum.inr k, mixKind_str P w k t, rfl⟩
    · exact a e (by simpa using he')
theorem vals_kv {K : PySem.W.Frag} {mg : Str → Option Value} : ∀ {ks : List Key} {us : List Value} {ds : List D} {vs : List V}, us.length = ks.length → ValsD K mg us ds vs → vs.length = ks.length ∧ Reps K mg (fun _ => none) ds vs ∧ KV (ks.zip vs) (ks.zip us)
  | [], _, _, _, h, r => by
    cases r with
    | nil => exact ⟨rfl, .nil, .nil⟩
    | cons _ _ _ => simp at h
  | k :: ks, _, _, _, h, r => by
    cases r with
    | nil => simp at h
    | cons a b c =>
      obtain ⟨x, y, z⟩ := vals_kv (ks := ks) (by simpa using h) c
      exact ⟨by simp [x], .cons b y, .cons ⟨rfl, a⟩ z⟩
theorem gdic_mk {P : Program} {w : World} {K : PySem.W.Frag} {mg : Str → Option Value} {x : Str} {d : Addr} {n : Nat} {Ks : List Str} {ks : List (List Nat)} {ts : List Tok} {us : List Value} {ds : List D} {vs : List V} (hm : mg x = some (.ref d))
    (lk : K.lookup d = some { cls := .type "dict", data := .dict (entsW w Ks ts us).toArray n }) (hd : (d == sysModules) = false) (hk : Ks = ks.map fun k => ⟨k.toArray⟩) (hn : Ks.Nodup) (ht : ts.length = Ks.length) (hu : us.length = Ks.length) (r : ValsD K mg us ds vs) : GDic P w K mg x ks ds := by
  obtain ⟨a, b⟩ := entsW_ok (P := P) (w := w) ht hu
  obtain ⟨e1, e2, e3⟩ := vals_kv (ks := Ks.map fun k => (Sum.inr k : Key)) (by simpa using hu) r
  refine ⟨d, vs, _, hm, hd, by rw [e1, hk]; simp, e2, ?_, fun h hh => ⟨_, _, _, hh _ _ lk, ⟨rfl, rfl, rfl⟩, rfl, a, b, ?_⟩⟩
  · rw [show (ks.map fun k => (Sum.inr ⟨k.toArray⟩ : Key)) = Ks.map fun k => (Sum.inr k : Key) by rw [hk, List.map_map]; rfl]
    exact e3
  · have : ((Ks.map fun k => (Sum.inr k : Key)).zip us).map (·.1) = Ks.map fun k => (Sum.inr k : Key) := by
      rw [List.map_fst_zip]
      rw [List.length_map, hu]
      exact Nat.le_refl _
    rw [this]
    exact List.Pairwise.map _ (fun a b hab z => hab (by injection z)) hn
section
variable {X : Cx} {E : ExE} {W : WX} {pos p : Pos} {i : Expr} {mi : EM} {ks : List (List Nat)} {ds : List D} {x : Str} {ti : TE}
theorem pe_dixK {d : Addr} {kvs : List (Key × V)} {us : List (Key × Value)} (hu : X.A.units + 1 < cLine) (hg : Gl X x) (hm : X.mg x = some (.ref d)) (hv : KV kvs us) (kd : ∀ h : Heap, X.K.In h → h.DictOf (mixKind X.prog X.w) d us) (hi : PE X i ti) (hs : NoSl i)
    (hd : (x == ("__debug__" : Str)) = false := by decide) : PE X (.Subscript (.Name x p) i pos) (fun σ H Q => ti σ H fun y H2 => ∃ k v, y = kV k ∧ valV kvs k = some v ∧ Q v H2) := by
  refine ⟨fun pins s σ H Q I h => ?_⟩
  refine subD_of PySem.F.slot_dict_getitem.lookup hs (thn ((pe_glob (v := .ref d) (pos := p) hg hm rfl hd).run pins s σ H (fun x H1 => x = .ref d ∧ H1 = H) I ⟨rfl, rfl⟩) fun u s1 ⟨x1, H1, I1, rx, ex, eH⟩ => ?_)
  subst ex
  obtain rfl : u = Value.ref d := rx
  rw [eH] at I1
  refine thn (hi.run pins s1 σ H _ I1 h) fun iv s2 ⟨y, H2, I2, ry, k, v, ey, e, q2⟩ => ?_
  subst ey
  have dd := kd _ I2.kIn
  obtain ⟨w', hw, rw'⟩ := RelO.some_of (v := v) (o := valueAt us k) (by rw [← e]; exact hv.val k)
  exact ⟨dd.typeIs, wpAny_getItem_of (kV_is ry) dd.mapOf hw ⟨v, H2, I2.tok _, rw', q2⟩⟩
theorem keyD_eqv (k j : Key) : D.eqv (keyD k) (keyD j) = decide (k = j) := by
  cases k with
  | inl i =>
    cases j with
    | inl l =>
      have : D.eqv (keyD (.inl i)) (keyD (.inl l)) = (i == l) := rfl
      rw [this]
      by_cases h : i = l <;> simp [h]
    | inr l => rw [decide_eq_false (by simp)]; rfl
  | inr i =>
    cases j with
    | inl l => rw [decide_eq_false (by simp)]; rfl
    | inr l =>
      have : D.eqv (keyD (.inr i)) (keyD (.inr l)) = (i.cps.toList == l.cps.toList) := rfl
      rw [this]
      by_cases h : i = l
      · subst h; simp
      · rw [decide_eq_false (by simpa using h)]
        simp only [beq_eq_false_iff_ne, ne_eq]
        intro z
        apply h
        obtain ⟨i⟩ := i
        obtain ⟨l⟩ := l
        have z' : i.toList = l.toList := z
        rw [Array.toList_inj.mp z']
theorem dFind_val {K : PySem.W.Frag} {mg : Str → Option Value} {G : Hp} (j : Key) : ∀ {kk : List Key} {ds : List D} {vs : List V} {o : Option D}, vs.length = kk.length → Reps K mg G ds vs → dFind (kk.map keyD) ds (keyD j) = o →
    (∀ d, o = some d → ∃ v, valV (kk.zip vs) j = some v ∧ Rep K mg G d v) ∧ (o = none → valV (kk.zip vs) j = none)
  | [], ds, vs, o, _, r, h => by
    have h' : none = o := by rw [← h]; cases ds <;> rfl
    subst h'
    exact ⟨fun d e => (nomatch e), fun _ => rfl⟩
  | k :: kk, ds, vs, o, hl, r, h => by
    cases r with
    | nil => simp at hl
    | cons r1 r2 =>
      rename_i d1 v1 ds vs
      have h' : (if D.eqv (keyD k) (keyD j) then some d1 else dFind (kk.map keyD) ds (keyD j)) = o := h
      rw [keyD_eqv] at h'
      by_cases hk : k = j
      · subst hk
        rw [decide_eq_true rfl, if_pos rfl] at h'
        subst h'
        exact ⟨fun d e => by cases e; exact ⟨v1, valV_pos rfl, r1⟩, fun e => (nomatch e)⟩
      · rw [decide_eq_false hk, if_neg (by simp)] at h'
        have e0 : valV ((k :: kk).zip (v1 :: vs)) j = valV (kk.zip vs) j := valV_neg hk
        rw [e0]
        exact dFind_val j (by simpa using hl) r2 h'
theorem key_rep {K : PySem.W.Frag} {mg : Str → Option Value} {B : Bs} {ρ : Rho} {σ : St} {H : Hp} {y : D} {v : V} (r : RP K mg B ρ σ H y v) (h : y.key = true) : ∃ j : Key, y = keyD j ∧ v = kV j := by
  cases r <;> first | (simp [D.key] at h; done) | skip
  case int i => exact ⟨.inl i, rfl, rfl⟩
  case str s => exact ⟨.inr ⟨s.toArray⟩, by simp [keyD], rfl⟩
theorem dGet_mild {x y : D} {C : String} : dGet x y ≠ .ex C := by
  unfold dGet
  split
  · split
    · split <;> simp
    · simp
  · simp
theorem pm_dix (g : GDic X.prog X.w X.K X.mg x ks ds) (hu : X.A.units + 64 < cLine) (hi : PM X E W i mi) (hs : NoSl i := by intro _ _; rfl) (hg : Gl X x := by rfl) (hd : (x == ("__debug__" : Str)) = false := by decide) :
    PM X E W (.Subscript (.Name x p) i pos) (mDix ks ds mi) := by
  obtain ⟨d, vs, us, hm, _, hl, hr, hv, kd⟩ := g.ex
  refine PE.imp (pe_dixK (Nat.lt_of_le_of_lt (by omega) hu) hg hm hv kd hi hs hd) fun σ H Q ⟨B, ρ, S, h⟩ => GM.bind S h fun y ty vy H1 ry e1 S1 h1 => ?_
  replace h1 : GM X.K X.mg W B ρ σ H1 ((if y.key then (match dFind (ks.map .str) ds y with | some d => Res.ok d | none => .bad) else .bad).bind fun d => .ok (d, .cl)) Q := h1
  by_cases hy : y.key = true
  · rw [if_pos hy] at h1
    obtain ⟨j, rfl, rfl⟩ := key_rep (ry.rp S1) hy
    have ek : ks.map D.str = (ks.map fun k => (Sum.inr ⟨k.toArray⟩ : Key)).map keyD := by
      rw [List.map_map]
      exact List.map_congr_left fun k _ => by simp [keyD]
    rw [ek] at h1
    cases e : dFind ((ks.map fun k => (Sum.inr ⟨k.toArray⟩ : Key)).map keyD) ds (keyD j) with
    | none => rw [e] at h1; exact h1.elim
    | some r =>
      rw [e] at h1
      obtain ⟨v, q1, q2⟩ := (dFind_val j (by rw [List.length_map]; exact hl) hr e).1 r rfl
      exact ⟨j, v, rfl, q1, h1.sc q2⟩
  · rw [if_neg hy] at h1
    exact h1.elim
end
end Dm
end

section
set_option Elab.async false
set_option linter.all false
set_option maxRecDepth 100000
set_option maxHeartbeats 4000000
/-! Dm: dicts of one's own. -/
namespace Dm
open PySem PySem.Spec L2 TL
section
variable {X : Cx} {E : ExE} {W : WX} {pos p : Pos} {a b c e : Expr} {ma mb mc : EM} {es : List Expr} {am : AM}
/-- d[k] -/
theorem pm_ixd (hu : X.A.units + 64 < cLine) (ha : PM X E W a ma) (hb : PM X E W b mb) (hs : NoSl b := by intro _ _; rfl) : PM X E W (.Subscript a b pos) (mIxD ma mb) :=
  PE.imp (pe_dget (Nat.lt_of_le_of_lt (by omega) hu) ha hb hs) fun σ H Q ⟨B, ρ, S, h⟩ => GM.bind S h fun x tx vx H1 rx e1 S1 h1 => GM.bind S1 h1 fun y ty vy H2 ry e2 S2 h2 => by
    have rpx := (rx.rp S1).mono e2
    cases rpx <;> first | exact h2.elim | skip
    case dic q kk ds vs hv hl r =>
      replace h2 : GM X.K X.mg W B ρ σ H2 ((if y.key then (match dFind (kk.map keyD) ds y with | some d => Res.ok d | none => .bad) else .bad).bind fun d => .ok (d, .cl)) Q := h2
      by_cases hy : y.key = true
      · rw [if_pos hy] at h2
        obtain ⟨j, rfl, rfl⟩ := key_rep (ry.rp S2) hy
        cases e : dFind (kk.map keyD) ds (keyD j) with
        | none => rw [e] at h2; exact h2.elim
        | some d =>
          rw [e] at h2
          obtain ⟨v, q1, q2⟩ := (dFind_val j hl r e).1 d rfl
          refine ⟨q, v, rfl, ?_, GM.pure h2 q2⟩
          rw [← q1]
          exact DGet.k hv
      · rw [if_neg hy] at h2
        exact h2.elim
/-! {k: v, ..} -/
inductive DpM (X : Cx) (E : ExE) (W : WX) (pos : Pos) : List (Option Expr) → List Expr → List Key → AM → List (TE × TE) → Prop
  | nil : DpM X E W pos [] [] [] amNil []
  | cons {k v : Expr} {ks : List (Option Expr)} {vs : List Expr} {j : Key} {kk : List Key} {mv : EM} {am : AM} {trs : List (TE × TE)} (hk : PE X k (tC (kV j))) (hv : PM X E W v mv) (r : DpM X E W pos ks vs kk am trs) :
      DpM X E W pos (some k :: ks) (v :: vs) (j :: kk) (amCons mv am) ((tC (kV j), tE X.K X.mg E W mv) :: trs)
variable {keys : List (Option Expr)} {values : List Expr} {kk : List Key} {trs : List (TE × TE)}
theorem DpM.pps (h : DpM X E W pos keys values kk am trs) : PPs X pos keys values trs := by
  induction h with
  | nil => exact pps_nil
  | cons hk hv _ ih => exact pps_cons hk hv ih
theorem DpM.len (h : DpM X E W pos keys values kk am trs) : keys.length = values.length ∧ kk.length = keys.length ∧ keys.all (·.isSome) = true := by
  induction h with
  | nil => exact ⟨rfl, rfl, rfl⟩
  | cons hk hv _ ih => exact ⟨by simp [ih.1], by simp [ih.2.1], by simpa using ih.2.2⟩
theorem DpM.read {α : Type} {B : Bs} {ρ : Rho} {P : α → Prop} (hd : DpM X E W pos keys values kk am trs) : ∀ {σ : St} {H : Hp} {f : List Val → Res α} {R : List (V × V) → Hp → Prop}, SR X.K X.mg E B ρ σ H → GG X.mg W σ H P ((am ρ).bind f) →
    (∀ (xs : List Val) (vs : List V) (H1 : Hp), RTs X.K X.mg B ρ σ H H1 xs vs → xs.length = kk.length → Same H H1 → SR X.K X.mg E B ρ σ H1 → GG X.mg W σ H1 P (f xs) → R ((kk.map kV).zip vs) H1) → tPairs trs σ H R := by
  induction hd with
  | nil => exact fun S h k => k [] [] _ .nil rfl (Same.refl _) S h
  | cons hk hv r ih =>
    rename_i k0 v0 ks0 vs0 j0 kk0 mv0 am0 trs0
    intro σ H f R S h k
    show tE X.K X.mg E W mv0 σ H _
    refine GG.bindE (f := fun x => (am0 ρ).bind fun xs => f (x :: xs)) S ?_ fun x tx vx H1 rx e1 S1 h1 => ih S1 (GG.mono h1 e1 fun _ q => q) fun xs vs H2 rs hl e2 S2 h2 => ?_
    · have : ((amCons mv0 am0) ρ).bind f = (mv0 ρ).bind fun x => (am0 ρ).bind fun xs => f (x :: xs) := by
        unfold amCons
        cases mv0 ρ with
        | ok x =>
          rw [Res.bind_ok, Res.bind_ok]
          cases am0 ρ <;> rfl
        | ex C => rfl
        | bad => rfl
      rw [← this]
      exact h
    · exact k ((x, tx) :: xs) (vx :: vs) H2 (.cons (rx.mono e2) (rs.base e1)) (by simp [hl]) (e1.trans e2) S2 h2
theorem mergeK_nodup : ∀ (kvs acc : List (Key × V)), ((acc ++ kvs).map (·.1)).Nodup → mergeK acc kvs = acc ++ kvs
  | [], acc, _ => by simp [mergeK]
  | (k, v) :: kvs, acc, h => by
    have hk : (acc.any fun kv => decide (kv.1 = k)) = false := by
      rw [List.any_eq_false]
      intro kv hkv
      simp only [decide_eq_true_eq]
      intro z
      rw [List.map_append, List.nodup_append] at h
      exact h.2.2 kv.1 (List.mem_map_of_mem hkv) k (by simp) z
    have e : putK acc k v = acc ++ [(k, v)] := by
      unfold putK
      rw [if_neg (by rw [hk]; simp)]
    show mergeK (putK acc k v) kvs = _
    rw [e, mergeK_nodup kvs (acc ++ [(k, v)]) (by simpa using h)]
    simp
theorem zip_kv : ∀ (kk : List Key) (vs : List V), (kk.map kV).zip vs = (kk.zip vs).map fun kv => (kV kv.1, kv.2)
  | [], _ => rfl
  | _ :: _, [] => rfl
  | k :: kk, v :: vs => by
    rw [List.map_cons, List.zip_cons_cons, List.zip_cons_cons, List.map_cons, zip_kv kk vs]
theorem pm_disp (hd : DpM X E W pos keys values kk am trs) (h0 : keys ≠ []) (h15 : keys.length ≤ 15) (hn : kk.Nodup) : PM X E W (.Dict keys values pos) (mDisp (kk.map keyD) am) := by
  obtain ⟨l1, l2, l3⟩ := hd.len
  refine PE.imp (pe_disp hd.pps l3 l1 h0 h15) fun σ H Q ⟨B, ρ, S, h⟩ p hp => ?_
  have S' : SR X.K X.mg E (B.add p) ρ σ (upd H p (.dK [])) := S.add hp (Same.upd hp) upd_same
  have h1 : GG X.mg W σ (upd H p (.dK [])) (PV X.K X.mg B ρ σ H Q) ((am ρ).bind fun xs => (kept xs).bind fun ds => if ds.length = (kk.map keyD).length then .ok (.dic (kk.map keyD) ds, .fr) else .bad) := GG.mono h.gg (Same.upd hp) fun _ q => q
  refine hd.read (α := Val) (f := fun xs => (kept xs).bind fun ds => if ds.length = (kk.map keyD).length then Res.ok ((.dic (kk.map keyD) ds, .fr) : Val) else .bad) S' h1 fun xs vs H2 rs hl e2 S2 h2 => ?_
  obtain ⟨hk, h3⟩ := kept_split h2
  have r := rs.keep S' e2 (kept_ok hk).2
  have hlv : vs.length = kk.length := by rw [← r.length, List.length_map, hl]
  rw [if_pos (by rw [List.length_map, List.length_map, hl])] at h3
  have hp2 : H2 p = some (.dK []) := e2 _ _ upd_same
  have hkeys : (kk.zip vs).map (·.1) = kk := List.map_fst_zip (by omega)
  refine ⟨hp2, kk.zip vs, zip_kv kk vs, by rw [List.length_zip]; omega, ?_⟩
  rw [mergeK_nodup _ [] (by simpa [hkeys] using hn), List.nil_append]
  have sH : Same H (upd H2 p (.dK (kk.zip vs))) := fun b o e => by
    have hb : b ≠ p := ne_of_none e hp
    rw [upd_ne hb]
    exact e2 _ _ (Same.upd hp _ _ e)
  refine h3 (.ref p) _ sH ⟨p, _, .dic (kk.map keyD), xs.map (·.1), vs, rfl, rfl, hp, upd_same, ⟨kk, rfl, hlv, rfl, hn⟩, ?_⟩
  have same : ar (B.add p) ρ σ (upd H2 p (.dK (kk.zip vs))) = ar (B.add p) ρ σ H2 := ar_upd (.inl (.inl rfl))
  rw [same]
  exact r
theorem pe_strk {x : Str} {s : List Nat} {j : Nat} (hs : x = ⟨s.toArray⟩) : PE X (.Constant (.str x) j pos) (tC (kV (.inr ⟨s.toArray⟩))) := by
  subst hs
  exact pe_str
theorem pe_intk {i : Int} {j : Nat} : PE X (.Constant (.int i) j pos) (tC (kV (.inl i))) := pe_int
theorem pm_dispK {ks : List D} (hks : ks = kk.map keyD) (hd : DpM X E W pos keys values kk am trs) (h0 : keys ≠ []) (h15 : keys.length ≤ 15) (hn : kk.Nodup) : PM X E W (.Dict keys values pos) (mDisp ks am) := by
  subst hks
  exact pm_disp hd h0 h15 hn
end
/-! the module's dicts, as they stand -/
theorem vd_str {K : PySem.W.Frag} {mg : Str → Option Value} {x : Str} {s : List Nat} {t : Tok} {us : List Value} {ds : List D} {vs : List V} (h : x = ⟨s.toArray⟩) (r : ValsD K mg us ds vs) : ValsD K mg (.str x t :: us) (.str s :: ds) (.str x :: vs) := by
  subst h
  exact .cons ⟨t, rfl⟩ (.str s) r
theorem vd_vals {K : PySem.W.Frag} {mg : Str → Option Value} {us : List Value} {ds : List D} {vs : List V} (r : ValsD K mg us ds vs) : Vals vs us ∧ Reps K mg (fun _ => none) ds vs := by
  induction r with
  | nil => exact ⟨.nil, .nil⟩
  | cons a b _ ih => exact ⟨.cons a ih.1, .cons b ih.2⟩
theorem vd_tup {K : PySem.W.Frag} {mg : Str → Option Value} {p : Addr} {od : Option Addr} {n : Nat} {sl : Array (Option Value)} {ws us : List Value} {es ds : List D} {xs vs : List V} (lk : K.lookup p = some ⟨.type "tuple", od, .seq ws.toArray n, sl⟩) (hl : ws.length ≤ 100) (rw : ValsD K mg ws es xs) (r : ValsD K mg us ds vs) :
    ValsD K mg (.ref p :: us) (.seq .tup es :: ds) (.ref p :: vs) := by
  obtain ⟨a, b⟩ := vd_vals rw
  refine .cons rfl (.tup (.inr ⟨_, _, _, lk, rfl, rfl, ?_, by simpa using a⟩) b) r
  rw [sizeLine_eq]
  simp
  omega
end Dm
end

section
set_option Elab.async false
set_option linter.all false
set_option maxRecDepth 100000
set_option maxHeartbeats 4000000
/-! Dm: dicts of one's own are written, and asked. -/
namespace Dm
open PySem PySem.Spec L2 TL
theorem dPut_rep {K : PySem.W.Frag} {mg : Str → Option Value} {G : Hp} (j : Key) {z : D} {w : V} (rz : Rep K mg G z w) : ∀ {kk : List Key} {ds : List D} {vs : List V}, vs.length = kk.length → kk.Nodup → Reps K mg G ds vs →
    ∃ (kk' : List Key) (vs' : List V), putK (kk.zip vs) j w = kk'.zip vs' ∧ (dPut (kk.map keyD) ds (keyD j) z).1 = kk'.map keyD ∧ vs'.length = kk'.length ∧ kk'.Nodup ∧ Reps K mg G (dPut (kk.map keyD) ds (keyD j) z).2 vs' ∧ ∀ x ∈ kk', x ∈ kk ∨ x = j
  | [], ds, vs, hl, hn, r => by
    have hv : vs = [] := List.length_eq_zero_iff.mp hl
    subst hv
    cases r
    exact ⟨[j], [w], rfl, rfl, rfl, by simp, .cons rz .nil, by simp⟩
  | k :: kk, ds, vs, hl, hn, r => by
    cases r with
    | nil => simp at hl
    | cons r1 r2 =>
      rename_i d v ds vs
      have hl' : vs.length = kk.length := by simpa using hl
      obtain ⟨hk, hn'⟩ := List.nodup_cons.mp hn
      have e1 : dPut ((k :: kk).map keyD) (d :: ds) (keyD j) z = if D.eqv (keyD k) (keyD j) then (keyD k :: kk.map keyD, z :: ds) else (keyD k :: (dPut (kk.map keyD) ds (keyD j) z).1, d :: (dPut (kk.map keyD) ds (keyD j) z).2) := rfl
      rw [e1, keyD_eqv]
      by_cases hkj : k = j
      · subst hkj
        rw [decide_eq_true rfl, if_pos rfl]
        refine ⟨k :: kk, w :: vs, ?_, rfl, by simp [hl'], hn, .cons rz r2, fun x hx => .inl hx⟩
        unfold putK
        rw [List.zip_cons_cons]
        rw [if_pos (by simp)]
        rw [List.map_cons, if_pos rfl, List.zip_cons_cons]
        congr 1
        have : ∀ kv ∈ kk.zip vs, kv.1 ≠ k := fun kv hkv e => hk (e ▸ (List.of_mem_zip hkv).1)
        have e2 : (kk.zip vs).map (fun kv => if kv.1 = k then (kv.1, w) else kv) = (kk.zip vs).map id := List.map_congr_left fun kv hkv => if_neg (this kv hkv)
        rw [e2, List.map_id]
      · rw [decide_eq_false hkj, if_neg (by simp)]
        obtain ⟨kk', vs', p1, p2, p3, p4, p5, p6⟩ := dPut_rep j rz hl' hn' r2
        refine ⟨k :: kk', v :: vs', ?_, by rw [List.map_cons, ← p2], by simp [p3], ?_, .cons r1 p5, ?_⟩
        · rw [List.zip_cons_cons, List.zip_cons_cons, ← p1]
          unfold putK
          by_cases ha : ((kk.zip vs).any fun kv => decide (kv.1 = j)) = true
          · rw [if_pos ha, if_pos (by simp [ha]), List.map_cons, if_neg hkj]
          · rw [if_neg ha, if_neg (by rw [List.any_cons, decide_eq_false hkj, Bool.false_or]; exact ha), List.cons_append]
        · rw [List.nodup_cons]
          refine ⟨fun hx => ?_, p4⟩
          rcases p6 k hx with h | h
          · exact hk h
          · exact hkj h
        · intro x hx
          rcases List.mem_cons.mp hx with h | hx
          · exact .inl (h ▸ List.mem_cons_self ..)
          · exact (p6 x hx).imp (List.mem_cons_of_mem _) id
theorem dPut_new (y z : D) : ∀ (ks ds : List D), ds.length = ks.length → dFind ks ds y = none → dPut ks ds y z = (ks ++ [y], ds ++ [z])
  | [], ds, hl, _ => by
    have : ds = [] := List.length_eq_zero_iff.mp hl
    subst this
    rfl
  | k :: ks, [], hl, _ => by simp at hl
  | k :: ks, d :: ds, hl, h => by
    have h' : (if D.eqv k y then some d else dFind ks ds y) = none := h
    have e1 : dPut (k :: ks) (d :: ds) y z = if D.eqv k y then (k :: ks, z :: ds) else (k :: (dPut ks ds y z).1, d :: (dPut ks ds y z).2) := rfl
    by_cases hk : D.eqv k y = true
    · rw [if_pos hk] at h'
      cases h'
    · rw [if_neg hk] at h'
      rw [e1, if_neg hk, dPut_new y z ks ds (by simpa using hl) h']
      rfl
section
variable {X : Cx} {E : ExE} {W : WX} {pos p : Pos} {a b c e : Expr} {ma mb mc me : EM} {ta : TM} {body : List Stmt} {ms : SM}
theorem pm_d0 : PM X E W (.Dict [] [] pos) mD0 :=
  PE.imp pe_dnewK fun σ H Q ⟨B, ρ, S, h⟩ p hp => h (.ref p) _ (Same.upd hp) ⟨p, _, .dic [], [], [], rfl, rfl, hp, upd_same, ⟨[], rfl, rfl, rfl, List.nodup_nil⟩, .nil⟩
theorem psm_putD (i : Nat) {x : Str} {p1 : Pos} (hu : X.A.units + 64 < cLine) (hb : PM X E W b mb) (hc : PM X E W c mc) (hN : X.N[i]? = some x := by rfl) (hv : Vis X.env.scope x := by first | exact Or.inl rfl | exact Or.inr (Or.inl rfl) | exact Or.inr (Or.inr rfl)) (hd : (x == ("__debug__" : Str)) = false := by decide)
    (hcd : (x == ("__classdict__" : Str)) = false := by decide) (hs : swapsWith c (some (.Subscript (.Name x p1) b p)) pos.line X.env = pure false := by rfl) : PSM X E W (.Assign [.Subscript (.Name x p1) b p] c pos) (smPutD i mb mc) :=
  PS.imp (ps_dput (Nat.lt_of_le_of_lt (by omega) hu) (pe_var hN hv hd hcd) hb hc hs) fun D σ H ⟨B, ρ, S, h⟩ => by
    refine GS.bindE S h fun z tz vz H1 rz e1 S1 h1 => ?_
    split at h1
    · rename_i ks ds eo
      obtain ⟨q, o, vs, g1, g2, hk, r⟩ := S1.ow i (.dic ks) ds eo
      obtain ⟨kk, rfl, hl, rfl, hn⟩ := hk
      refine ⟨.ref q, g1, GS.bindE S1 h1 fun y ty vy H2 ry e2 S2 h2 => ?_⟩
      by_cases hc : (y.key && (tz.free || z.sc) && decide (ds.length < lim)) = true
      · rw [if_pos hc] at h2
        simp only [Bool.and_eq_true, Bool.or_eq_true, decide_eq_true_eq] at hc
        obtain ⟨⟨hy, hf⟩, hlen⟩ := hc
        obtain ⟨j, rfl, rfl⟩ := key_rep (ry.rp S2) hy
        have rz2 : Rep X.K X.mg (ar B ρ σ H2) z vz := (rz.mono e2).keep S (e1.trans e2) hf
        obtain ⟨kk', vs', p1, p2, p3, p4, p5, _⟩ := dPut_rep j rz2 hl hn (r.mono (ar_mono e2))
        refine ⟨q, _, rfl, DPut.k (e2 _ _ g2) (by rw [List.length_zip, hl, Nat.min_self, ← hl, ← r.length, lim_eq]; exact hlen), ?_⟩
        refine h2 _ _ (S2.updO eo g1 ⟨kk', p2, p3, ?_, p4⟩ p5)
        rw [p1]
      · rw [if_neg hc] at h2
        exact h2.elim
    · exact h1.elim
/-- k in d -/
theorem pmt_din (hu : X.A.units + 64 < cLine) (ha : PM X E W a ma) (hb : PM X E W b mb) (hm : behindInMarks .In b = false := by rfl) : PMT X E W (.Compare a [.In] [b] pos) (mTB (mCmp dIn ma mb)) :=
  PT.imp (pt_cmp (pc_din (Nat.lt_of_le_of_lt (by omega) hu) ha hb) hm) fun σ H Q ⟨B, ρ, S, h⟩ => by
    refine GM.bind S (mTB_gm (K := X.K) (B := B) h) fun x tx vx H1 rx e1 S1 h1 => GM.bind S1 h1 fun y ty vy H2 ry e2 S2 h2 => ?_
    have rpy := ry.rp S2
    cases rpy <;> first | exact h2.elim | skip
    case dic q kk ds vs hv hl r =>
      replace h2 : GM X.K X.mg W B ρ σ H2 ((if x.key then Res.ok (dFind (kk.map keyD) ds x).isSome else .bad).bind fun k => .ok (.bl k, .cl)) (fun v H' => ∃ k, v = .bl k ∧ Q k H') := h2
      by_cases hy : x.key = true
      · rw [if_pos hy] at h2
        obtain ⟨j, rfl, rfl⟩ := key_rep ((rx.rp S1).mono e2) hy
        refine ⟨q, valV (kk.zip vs) j, rfl, DGet.k hv, ?_⟩
        obtain ⟨q1, q2⟩ := dFind_val j hl r (rfl : dFind (kk.map keyD) ds (keyD j) = _)
        have : (valV (kk.zip vs) j).isSome = (dFind (kk.map keyD) ds (keyD j)).isSome := by
          cases e : dFind (kk.map keyD) ds (keyD j) with
          | none => rw [q2 e]; rfl
          | some d =>
            obtain ⟨v, e3, _⟩ := q1 d e
            rw [e3]
            rfl
        rw [this]
        exact GM.sc (d := .bl _) h2 (.bl _)
      · rw [if_neg hy] at h2
        exact h2.elim
theorem pmt_dnin (hu : X.A.units + 64 < cLine) (ha : PM X E W a ma) (hb : PM X E W b mb) (hm : behindInMarks .NotIn b = false := by rfl) : PMT X E W (.Compare a [.NotIn] [b] pos) (mTB (mCmp dNotIn ma mb)) :=
  PT.imp (pt_cmp (pc_dnotin (Nat.lt_of_le_of_lt (by omega) hu) ha hb) hm) fun σ H Q ⟨B, ρ, S, h⟩ => by
    refine GM.bind S (mTB_gm (K := X.K) (B := B) h) fun x tx vx H1 rx e1 S1 h1 => GM.bind S1 h1 fun y ty vy H2 ry e2 S2 h2 => ?_
    have rpy := ry.rp S2
    cases rpy <;> first | exact h2.elim | skip
    case dic q kk ds vs hv hl r =>
      replace h2 : GM X.K X.mg W B ρ σ H2 (((if x.key then Res.ok (dFind (kk.map keyD) ds x).isSome else .bad).bind fun b => .ok (!b)).bind fun k => .ok (.bl k, .cl)) (fun v H' => ∃ k, v = .bl k ∧ Q k H') := h2
      by_cases hy : x.key = true
      · rw [if_pos hy] at h2
        obtain ⟨j, rfl, rfl⟩ := key_rep ((rx.rp S1).mono e2) hy
        refine ⟨q, valV (kk.zip vs) j, rfl, DGet.k hv, ?_⟩
        obtain ⟨q1, q2⟩ := dFind_val j hl r (rfl : dFind (kk.map keyD) ds (keyD j) = _)
        have : (valV (kk.zip vs) j).isSome = (dFind (kk.map keyD) ds (keyD j)).isSome := by
          cases e : dFind (kk.map keyD) ds (keyD j) with
          | none => rw [q2 e]; rfl
          | some d =>
            obtain ⟨v, e3, _⟩ := q1 d e
            rw [e3]
            rfl
        rw [this]
        exact GM.sc (d := .bl _) h2 (.bl _)
      · rw [if_neg hy] at h2
        exact h2.elim
/-- d.get(k, e) -/
theorem pm_get2 {apos : Pos} (hu : X.A.units + 64 < cLine) (ha : PM X E W a ma) (hb : PM X E W b mb) (hc : PM X E W c mc) (m : M2 X a "get" apos b c pos := by exact ⟨rfl, rfl, rfl, rfl⟩) : PM X E W (.Call (.Attribute a "get" apos) [b, c] [] pos) (mGet2 ma mb mc) :=
  PE.imp (pe_dget2 (Nat.lt_of_le_of_lt (by omega) hu) ha hb hc m) fun σ H Q ⟨B, ρ, S, h⟩ => GM.bind S h fun x tx vx H1 rx e1 S1 h1 => by
    have rpx := rx.rp S1
    cases rpx <;> first | exact h1.elim | skip
    case dic q kk ds vs hv hl r =>
      refine ⟨q, rfl, .inl ⟨_, .inl hv⟩, GM.bind (f := fun y => (mc ρ).bind fun z => if y.1.key && (z.2.free || z.1.sc) then .ok ((dFind (kk.map keyD) ds y.1).getD z.1, .cl) else .bad) S1 h1 fun y ty vy H2 ry e2 S2 h2 => GM.bind (f := fun z => if y.key && (z.2.free || z.1.sc) then .ok ((dFind (kk.map keyD) ds y).getD z.1, .cl) else .bad) S2 h2 fun z tz vz H3 rz e3 S3 h3 => ?_⟩
      by_cases hc : (y.key && (tz.free || z.sc)) = true
      · rw [if_pos hc] at h3
        simp only [Bool.and_eq_true, Bool.or_eq_true] at hc
        obtain ⟨j, rfl, rfl⟩ := key_rep ((ry.rp S2).mono e3) hc.1
        have hv3 := e3 _ _ (e2 _ _ hv)
        refine ⟨valV (kk.zip vs) j, DGet.k hv3, ?_⟩
        have r3 := (r.mono (ar_mono e2)).mono (ar_mono e3)
        obtain ⟨q1, q2⟩ := dFind_val j hl r3 (rfl : dFind (kk.map keyD) ds (keyD j) = _)
        cases ef : dFind (kk.map keyD) ds (keyD j) with
        | none =>
          rw [ef] at h3
          rw [q2 ef]
          exact GM.pure h3 (rz.keep S2 e3 hc.2)
        | some d =>
          rw [ef] at h3
          obtain ⟨v, e5, e6⟩ := q1 d ef
          rw [e5]
          exact GM.pure h3 e6
      · rw [if_neg hc] at h3
        exact h3.elim
/-- if t or d.setdefault(k, v) != e: s -/
theorem psm_ifSetd (i : Nat) {x : Str} {p1 apos cpos cp bp : Pos} {t : Expr} (hu : X.A.units + 64 < cLine) (ht : PMT X E W t ta) (hb : PM X E W b mb) (hc : PM X E W c mc) (he : PM X E W e me) (hs : PSsM X E W body ms)
    (m : M2 X (.Name x p1) "setdefault" apos b c cpos := by exact ⟨rfl, rfl, rfl, rfl⟩) (hN : X.N[i]? = some x := by rfl) (hv : Vis X.env.scope x := by first | exact Or.inl rfl | exact Or.inr (Or.inl rfl) | exact Or.inr (Or.inr rfl)) (hd : (x == ("__debug__" : Str)) = false := by decide)
    (hcd : (x == ("__classdict__" : Str)) = false := by decide) : PSM X E W (.If (.BoolOp .Or [t, .Compare (.Call (.Attribute (.Name x p1) "setdefault" apos) [b, c] [] cpos) [.NotEq] [e] cp] bp) body [] pos) (smIfSetd i ta mb mc me ms) :=
  PS.imp (ps_if (PW.pt (pw_or ht (pw_or1 (pt_cmpR op_ne (pe_dsetd (pe_var hN hv hd hcd) hb hc m) he (nomark _))))) hs pss_nil) fun D σ H ⟨B, ρ, S, h⟩ => by
    refine GS.bindT S h fun k H1 e1 S1 h1 => ?_
    cases k with
    | true => exact iteT ⟨B, ρ, S1, h1⟩
    | false =>
      refine iteF ?_
      replace h1 : GS X.K X.mg E W B D (match ρ[i]? with
  | some (.oo (.dic ks) ds) => (mb ρ).st ρ fun y => (mc ρ).st ρ fun z => if y.1.key && z.1.sc && decide (ds.length < lim) then (match dFind ks ds y.1 with
    | some d => (me ρ).st ρ fun w => (cNeS d w.1).bind fun k => if k then ms ρ else .ok (.nx ρ)
    | none => (me (ρ.set i (.oo (.dic (ks ++ [y.1])) (ds ++ [z.1])))).st (ρ.set i (.oo (.dic (ks ++ [y.1])) (ds ++ [z.1]))) fun w => (cNeS z.1 w.1).bind fun k => if k then ms (ρ.set i (.oo (.dic (ks ++ [y.1])) (ds ++ [z.1]))) else .ok (.nx (ρ.set i (.oo (.dic (ks ++ [y.1])) (ds ++ [z.1]))))) else .bad
  | _ => .bad) := h1
      split at h1
      · rename_i ks ds eo
        obtain ⟨q, o, vs, g1, g2, hk, r⟩ := S1.ow i (.dic ks) ds eo
        obtain ⟨kk, rfl, hl, rfl, hn⟩ := hk
        refine ⟨.ref q, g1, q, rfl, .inl ⟨_, .inl g2⟩, GS.bindE S1 h1 fun y ty vy H2 ry e2 S2 h2 => GS.bindE S2 h2 fun z tz vz H3 rz e3 S3 h3 => ?_⟩
        by_cases hc : (y.key && z.sc && decide (ds.length < lim)) = true
        · rw [if_pos hc] at h3
          simp only [Bool.and_eq_true, decide_eq_true_eq] at hc
          obtain ⟨⟨hy, hf⟩, hlen⟩ := hc
          obtain ⟨j, rfl, rfl⟩ := key_rep ((ry.rp S2).mono e3) hy
          have g3 := e3 _ _ (e2 _ _ g2)
          have r3 := (r.mono (ar_mono e2)).mono (ar_mono e3)
          obtain ⟨q1, q2⟩ := dFind_val j hl r3 (rfl : dFind (kk.map keyD) ds (keyD j) = _)
          have rz3 : Rep X.K X.mg (ar B ρ σ H3) z vz := rz.keep S2 e3 (.inr hf)
          have last : ∀ {ρ' : Rho} {H4 : Hp} {d : Dm.D} {v : V} {R : Bool → Hp → Prop}, SR X.K X.mg E B ρ' σ H4 → Rep X.K X.mg (ar B ρ' σ H4) d v → GS X.K X.mg E W B D ((me ρ').st ρ' fun w => (cNeS d w.1).bind fun k => if k then ms ρ' else .ok (.nx ρ')) →
              (∀ H5, SR X.K X.mg E B ρ' σ H5 → GS X.K X.mg E W B D (ms ρ') → R true H5) → (∀ H5, SR X.K X.mg E B ρ' σ H5 → GS X.K X.mg E W B D (.ok (.nx ρ')) → R false H5) →
              tE X.K X.mg E W me σ H4 fun y H5 => rNe v y H5 fun x H' => ∃ k, x = .bl k ∧ R k H' := by
            intro ρ' H4 d v R T rd hh hR1 hR0
            refine GS.bindE T hh fun w tw vw H5 rw5 e5 T5 h5 => ?_
            cases eq : dEqS d w with
            | none =>
              have h6 : GS X.K X.mg E W B D ((match dEqS d w with | some k => Res.ok (!k) | none => .bad).bind fun k => if k then ms ρ' else .ok (.nx ρ')) := h5
              rw [eq] at h6
              exact h6.elim
            | some k =>
              have h6 : GS X.K X.mg E W B D ((match dEqS d w with | some k => Res.ok (!k) | none => .bad).bind fun k => if k then ms ρ' else .ok (.nx ρ')) := h5
              rw [eq, Res.bind_ok] at h6
              obtain ⟨q1, q2⟩ := eqS_ok (Rep.rp T5 (rd.mono (ar_mono e5))) (rw5.rp T5) eq
              refine ⟨q1, !k, by rw [q2], ?_⟩
              cases k with
              | true => exact hR0 H5 T5 h6
              | false => exact hR1 H5 T5 h6
          have len : (kk.zip vs).length < sizeLine := by rw [List.length_zip, hl, Nat.min_self, ← hl, ← r.length, lim_eq]; exact hlen
          refine ⟨kk.zip vs, j, g3, rfl, len, fun v e4 => ?_, fun e4 => ?_⟩
          · cases ef : dFind (kk.map keyD) ds (keyD j) with
            | none =>
              rw [q2 ef] at e4
              cases e4
            | some d =>
              rw [ef] at h3
              obtain ⟨v', e5, e6⟩ := q1 d ef
              rw [e4] at e5
              cases e5
              exact last S3 e6 h3 (fun H5 T g => iteT ⟨B, ρ, T, g⟩) (fun H5 T g => iteF (g σ H5 T))
          · cases ef : dFind (kk.map keyD) ds (keyD j) with
            | some d =>
              obtain ⟨v', e5, e6⟩ := q1 d ef
              rw [e4] at e5
              cases e5
            | none =>
              rw [ef] at h3
              obtain ⟨kk', vs', p1, p2, p3, p4, p5, _⟩ := dPut_rep (ds := ds) j rz3 hl hn r3
              have en := dPut_new (keyD j) z (kk.map keyD) ds (by rw [show ds.length = vs.length from r.length, List.length_map]; exact hl) ef
              rw [en] at p2 p5
              have T := S3.updO (k1 := .dic (kk.map keyD ++ [keyD j])) (ds' := ds ++ [z]) (o0 := .dK (putK (kk.zip vs) j vz)) eo g1 ⟨kk', p2, p3, by rw [p1], p4⟩ p5
              dsimp only at h3
              exact last T (Rep.sc rz3 hf) h3 (fun H5 T g => iteT ⟨B, _, T, g⟩) (fun H5 T g => iteF (g σ H5 T))
        · rw [if_neg hc] at h3
          exact h3.elim
      · exact h1.elim
end
end Dm
end

section
set_option Elab.async false
set_option linter.all false
set_option maxRecDepth 100000
set_option maxHeartbeats 4000000
/-! Dm: texts turned about, ranges downwards, insert, sorted. -/
namespace Dm
open PySem PySem.Spec L2 TL
section
variable {X : Cx} {E : ExE} {W : WX} {pos p : Pos} {a b c e tg : Expr} {ma mb mc : EM} {es : List Expr} {am : AM}
/-! ### text[::-1] -/
theorem rev_cps (s : List Nat) (u : Tok) : Txt.sliceBy (⟨s.toArray⟩ : Str) none none (-1, u) = (⟨s.reverse.toArray⟩ : Str) := by
  have h := PyProof.Rows.step_rev_list (⟨s.toArray⟩ : Str) u
  generalize Txt.sliceBy (⟨s.toArray⟩ : Str) none none (-1, u) = y at h
  obtain ⟨⟨l⟩⟩ := y
  have h' : l = (List.range s.length).map fun k => s.toArray.getD (s.length - 1 - k) 0 := h
  have : l = s.reverse := by
    rw [h']
    refine List.ext_getElem (by simp) fun i h1 h2 => ?_
    have hi : i < s.length := by simpa using h1
    rw [List.getElem_map, List.getElem_range, List.getElem_reverse]
    have : s.length - 1 - i < s.length := by omega
    simp [Array.getD, this]
  rw [this]
def tRevS (te : TE) : TE := fun σ H Q => te σ H fun x H1 => ∃ s : List Nat, x = .str ⟨s.toArray⟩ ∧ s.length ≤ sizeLine ∧ Q (.str ⟨s.reverse.toArray⟩) H1
theorem pe_revS {te : TE} {k : Nat} {p1 p2 p3 pos : Pos} (he : PE X e te) : PE X (.Subscript e (.Slice none none (some (.UnaryOp .USub (.Constant (.int 1) k p1) p2)) p3) pos) (tRevS te) := by
  refine ⟨fun pins s σ H Q I h => ?_⟩
  refine PyProof.Rows.Subscript_ (thn (he.run pins s σ H _ I h) fun v s1 ⟨x, H1, I1, r1, q1⟩ => ?_)
  obtain ⟨t, ex, hl, q⟩ := q1
  subst ex
  obtain ⟨tk, rfl⟩ := r1
  have hst : PO X (some (.UnaryOp .USub (.Constant (.int 1) k p1) p2)) (tPart (tUn (rU fun i => .int (-i)) (tC (.int 1)))) := po_some (pe_un un_neg pe_int)
  refine wpAny_Slice (thn (po_none.run pins s1 σ H1 (fun o H2 => o = none ∧ H2 = H1) I1 ⟨rfl, rfl⟩) fun vl s2 ⟨l, H2, I2, pl, el, e2⟩ => ?_)
  subst el e2
  refine thn (po_none.run pins s2 σ H2 (fun o H3 => o = none ∧ H3 = H2) I2 ⟨rfl, rfl⟩) fun vu s3 ⟨u, H3, I3, pu, eu, e3⟩ => ?_
  subst eu e3
  refine thn (hst.run pins s3 σ H3 (fun o H4 => o = some (-1) ∧ H4 = H3) I3 ⟨1, rfl, -1, rfl, rfl, rfl⟩) fun vs s4 ⟨o, H4, I4, ps, eo, e4⟩ => ?_
  subst eo e4
  have I5 : Inv X pins σ H4 { s4 with heap := s4.heap.push { cls := .type "slice", data := .fields #[vl, vu, vs] } } := I4.kept (t' := s4.toks) fun b ob q => Heap.get?_push_of_some _ q
  cases pl
  cases pu
  cases ps
  rename_i uk _
  have hk : ((-1 : Int) == 0) = false := by decide
  refine PyProof.Rows.tail_any (T := "str") (ops := [.ref s4.heap.objs.size, .str ⟨t.toArray⟩ tk]) (PySem.typeIs_str _ _ _) (PySem.F.slot_str_getitem.lookup) (PySem.wpAny_getItem_str_slice (l := none) (u := none) (st := some (-1, uk)) ⟨_, Heap.get?_push_size _ rfl, rfl, rfl⟩ hk
    (PySem.post_val_or_str ⟨Nat.le_trans (Txt.sliceBy_le (⟨t.toArray⟩ : Str) none none (-1, uk) (by simp)) hl, fun t' c => ?_⟩)) (by with_unfolding_all rfl)
  refine ⟨.str ⟨t.reverse.toArray⟩, H4, I5.tok _, ?_, q⟩
  exact ⟨t', congrArg (Value.str · t') (rev_cps t uk)⟩
theorem pm_revS {k : Nat} {p1 p2 p3 pos : Pos} (ha : PM X E W a ma) : PM X E W (.Subscript a (.Slice none none (some (.UnaryOp .USub (.Constant (.int 1) k p1) p2)) p3) pos) (mRevS ma) :=
  PE.imp (pe_revS ha) fun σ H Q ⟨B, ρ, S, h⟩ => GM.bind S h fun x tx vx H1 rx e1 S1 h1 => by
    have rpx := rx.rp S1
    cases rpx <;> first | exact False.elim h1 | skip
    case str s =>
      have h2 : GM X.K X.mg W B ρ σ H1 (if s.length ≤ lim then .ok (.str s.reverse, .cl) else .bad) Q := h1
      split at h2
      · rename_i hl
        exact ⟨s, rfl, Nat.le_trans hl lim_le, GM.sc (d := .str _) h2 (.str _)⟩
      · exact False.elim h2
/-! ### range(i, j, -1) -/
theorem wk_rangeD {K : PySem.W.Frag} {mg : Str → Option Value} {A Hb : Hp} (hi : Int) (n : Nat) : Wk K mg A Hb (Itc hi (-1) n) (rangeD hi n) where
  go := fun i H s h => by
    show i < n
    simpa [rangeD] using h
  stop := fun i H s h => by
    show n ≤ i
    simpa [rangeD] using h
  yld := fun i H x H' s h y => by
    obtain ⟨rfl, rfl⟩ := y
    have h' : i < n := by simpa [rangeD] using h
    refine ⟨Same.refl _, .int (hi - i), by simp [rangeD, h'], ?_⟩
    have e : hi + (i : Int) * (-1) = hi - i := by omega
    rw [e]
    exact .int _
theorem pmi_r3 (ha : PM X E W a ma) (hb : PM X E W b mb) (hc : PM X E W c mc) (hm : X.mg "range" = none) (hg : Gl X "range" := by rfl)
    (hs : starEach [a, b, c] X.env = (false, eval a X.env) :: starEach [b, c] X.env := by rfl) (hs2 : starEach [b, c] X.env = (false, eval b X.env) :: starEach [c] X.env := by rfl) (hs3 : starEach [c] X.env = (false, eval c X.env) :: starEach [] X.env := by rfl)
    (hpl : (backTo pos (starEach [b, c] X.env)).any (·.1) = false := by rfl) : PMI X E W tg (.Call (.Name "range" p) [a, b, c] [] pos) (wmR3 ma mb mc) :=
  PI.imp (pi_range3 hg hm (pa_cons ha (pa_cons hb (pa_cons hc pa_nil hs3) hs2) hs) hs hpl) fun σ H R ⟨B, ρ, S, h⟩ => GG.bindE S h fun x tx vx H1 rx e1 S1 h1 => by
    have h1' := GG.mono h1 e1 fun _ q => q
    refine GG.bindE S1 h1' fun y ty vy H2 ry e2 S2 h2 => ?_
    have h2' := GG.mono h2 e2 fun _ q => q
    refine GG.bindE S2 h2' fun z tz vz H3 rz e3 S3 h3 => ?_
    have rpx := rx.rp S1
    have rpy := ry.rp S2
    have rpz := rz.rp S3
    cases rpx <;> first | exact False.elim h3 | skip
    cases rpy <;> first | exact False.elim h3 | skip
    cases rpz <;> first | exact False.elim h3 | skip
    case int.int.int i j k =>
      have h4 : GG X.mg W σ H2 (fun p => ∀ J H1, Same H H1 → SR X.K X.mg E B ρ σ H1 → Wk X.K X.mg (ar B ρ σ H1) (hid B (frzO p.2 ρ) σ H1) J p.1 → R J H1) (if rgOk i && rgOk j && decide (k = -1) then .ok (rangeD i (i - j).toNat, none) else .bad) := h3
      split at h4
      · rename_i hr
        rw [Bool.and_eq_true, Bool.and_eq_true, decide_eq_true_eq] at hr
        obtain ⟨a1, a2⟩ := rg_ok hr.1.1
        obtain ⟨b1, b2⟩ := rg_ok hr.1.2
        obtain rfl := hr.2
        exact ⟨i, j, -1, (i - j).toNat, rfl, RgC.neg a1 a2 b1 b2, h4 _ H3 ((e1.trans e2).trans e3) S3 (wk_rangeD i (i - j).toNat)⟩
      · exact False.elim h4
/-! ### sorted(e) of whole numbers -/
theorem intsV_rep {G : Hp} {K : PySem.W.Frag} {mg : Str → Option Value} : ∀ {ds : List D} {vs : List V} {ns : List Int}, Reps K mg G ds vs → intsOf ds = some ns → vs = ns.map V.int
  | [], _, ns, .nil, h => by
    cases h
    rfl
  | d :: ds, _, ns, .cons r rs, h => by
    cases r <;> first | (cases h; done) | skip
    case int i =>
      cases e : intsOf ds with
      | none => simp [intsOf, e] at h
      | some ms =>
        have hn : ns = i :: ms := by simpa [intsOf, e] using h.symm
        subst hn
        rw [intsV_rep rs e]
        rfl
theorem repsI_of {G : Hp} {K : PySem.W.Frag} {mg : Str → Option Value} : ∀ ns : List Int, Reps K mg G (ns.map .int) (ns.map V.int)
  | [] => .nil
  | n :: ns => .cons (.int n) (repsI_of ns)
theorem sort_uniq {ns ms : List Int} (hp : ms.Perm ns) (hs : ms.Pairwise (· ≤ ·)) : ms = ns.mergeSort leI := by
  have t : ∀ a b c : Int, leI a b = true → leI b c = true → leI a c = true := fun a b c h1 h2 => by
    unfold leI at *
    simp only [decide_eq_true_eq] at *
    omega
  have t2 : ∀ a b : Int, (leI a b || leI b a) = true := fun a b => by
    unfold leI
    simp only [Bool.or_eq_true, decide_eq_true_eq]
    omega
  have h1 := List.pairwise_mergeSort t t2 ns
  have h2 := (List.mergeSort_perm ns leI)
  refine List.Perm.eq_of_pairwise (le := fun a b => a ≤ b) (fun a b _ _ h h' => Int.le_antisymm h h') hs (h1.imp fun {a b} h => by unfold leI at h; simpa using h) (hp.trans h2.symm)
theorem le_trS (a b c : List Nat) : ¬ b < a → ¬ c < b → ¬ c < a := fun h1 h2 => List.not_lt.mpr (List.le_trans (List.not_lt.mp h1) (List.not_lt.mp h2))
theorem le_totS (a b : List Nat) : ¬ b < a ∨ ¬ a < b := by
  rcases List.le_total a b with h | h
  · exact .inl (List.not_lt.mpr h)
  · exact .inr (List.not_lt.mpr h)
theorem le_antiS (a b : List Nat) : ¬ b < a → ¬ a < b → a = b := fun h1 h2 => List.le_antisymm (List.not_lt.mp h1) (List.not_lt.mp h2)
theorem sort_uniqS {ts us : List (List Nat)} (hp : us.Perm ts) (hs : us.Pairwise fun a b => ¬ b < a) : us = ts.mergeSort leS := by
  have t : ∀ a b c : List Nat, leS a b = true → leS b c = true → leS a c = true := fun a b c h1 h2 => by
    unfold leS at *
    simp only [decide_eq_true_eq] at *
    exact le_trS a b c h1 h2
  have t2 : ∀ a b : List Nat, (leS a b || leS b a) = true := fun a b => by
    unfold leS
    simp only [Bool.or_eq_true, decide_eq_true_eq]
    exact le_totS a b
  have h1 := List.pairwise_mergeSort t t2 ts
  have h2 := (List.mergeSort_perm ts leS)
  refine List.Perm.eq_of_pairwise (le := fun a b => ¬ b < a) (fun a b _ _ h h' => le_antiS a b h h') hs (h1.imp fun {a b} h => by unfold leS at h; simpa using h) (hp.trans h2.symm)
theorem rising_pair : ∀ (p : Str) (xs : List Str), PyProof.Rows.risingS p xs = true → (∀ x ∈ xs, ¬ x.cps.toList < p.cps.toList) ∧ xs.Pairwise fun a b => ¬ b.cps.toList < a.cps.toList
  | _, [], _ => ⟨by simp, .nil⟩
  | p, x :: r, h => by
    have h' : (!PySem.Spec.ltCps x.cps.toList p.cps.toList && PyProof.Rows.risingS x r) = true := h
    rw [Bool.and_eq_true] at h'
    obtain ⟨i1, i2⟩ := rising_pair x r h'.2
    have hx : ¬ x.cps.toList < p.cps.toList := by
      have := h'.1
      rw [PyProof.Rows.ltCps_eq] at this
      simpa using this
    refine ⟨fun y hy => ?_, .cons i1 i2⟩
    rcases List.mem_cons.mp hy with rfl | hy
    · exact hx
    · exact le_trS _ _ _ hx (i1 y hy)
theorem sorted_pair (xs : List Str) (h : PyProof.Rows.sortedS xs = true) : xs.Pairwise fun a b => ¬ b.cps.toList < a.cps.toList := by
  cases xs with
  | nil => exact .nil
  | cons x r =>
    obtain ⟨i1, i2⟩ := rising_pair x r h
    exact .cons i1 i2
def rSortedSA (K : PySem.W.Frag) : List V → Hp → VK → Prop := fun vs H Q => ∃ (a : Addr) (xs : List Str), vs = [V.ref a] ∧ SqL K H a (xs.map V.str) ∧
  ∀ (ys : List Str) (p : Addr), ys.Perm xs → PyProof.Rows.sortedS ys = true → H p = none → Q (.ref p) (upd H p (.lst (ys.map V.str)))
theorem cr_sortedSA : CallR X (.builtin "sorted") (rSortedSA X.K) := by
  intro pins s σ H vs us Q I r h
  obtain ⟨a, xs, rfl, hs, q⟩ := h
  obtain ⟨its, rv, hl, hz⟩ := I.list hs
  rw [Vals.ref1 r]
  have hlen0 := rv.length
  rw [List.length_map] at hlen0
  refine PyProof.Rows.sorted_strsAny hl.isList rv.strs (by rw [← hlen0]; rw [List.length_map] at hz; exact hz) fun out ys h1 h2 h3 => ?_
  obtain ⟨ep, he'⟩ := PyProof.Rows.sortedAll_at s.heap its out
  have hlen : (ys.map V.str).length ≤ sizeLine := by
    rw [List.length_map, h2.length_eq]
    rw [List.length_map] at hz
    exact hz
  exact ⟨.ref _, upd H (s.heap.objs.size + 1) (.lst (ys.map V.str)), I.laid (t' := s.toks) (fun _ _ => PyProof.Rows.sortedAll_old) (Nat.le_succ _) ⟨hlen, out.toList, ep, vals_of_strs h1, he'⟩, rfl, q ys _ h2 h3 (I.hok.fresh (Nat.le_succ _))⟩
theorem strsV_rep {G : Hp} {K : PySem.W.Frag} {mg : Str → Option Value} : ∀ {ds : List D} {vs : List V} {ts : List (List Nat)}, Reps K mg G ds vs → strsOf ds = some ts → vs = (ts.map fun t => (⟨t.toArray⟩ : Str)).map V.str
  | [], _, ns, .nil, h => by
    cases h
    rfl
  | d :: ds, _, ns, .cons r rs, h => by
    cases r <;> first | (cases h; done) | skip
    case str i =>
      cases e : strsOf ds with
      | none => simp [strsOf, e] at h
      | some ms =>
        have hn : ns = i :: ms := by simpa [strsOf, e] using h.symm
        subst hn
        rw [strsV_rep rs e]
        rfl
theorem repsS_of {G : Hp} {K : PySem.W.Frag} {mg : Str → Option Value} : ∀ ts : List (List Nat), Reps K mg G (ts.map .str) ((ts.map fun t => (⟨t.toArray⟩ : Str)).map V.str)
  | [] => .nil
  | t :: ts => .cons (.str t) (repsS_of ts)
theorem pm_sorted (hm : X.mg "sorted" = none) (ha : PMA X E W [e] am) (hg : Gl X "sorted" := by rfl)
    (he : starEach [e] X.env = (false, eval e X.env) :: starEach [] X.env := by rfl) (hpl : (backTo pos (starEach [] X.env)).any (·.1) = false := by rfl) : PM X E W (.Call (.Name "sorted" p) [e] [] pos) (mSorted am) :=
  PE.imp (pe_callB (CallR.or cr_sortedI cr_sortedSA) hg hm (by decide +kernel) ha (by decide) (by decide) he hpl) fun σ H Q ⟨B, ρ, S, h⟩ => GG.bindA S h.gg fun xs vs H1 rs e1 S1 h1 => by
    match xs, vs, rs, h1 with
    | [], _, _, h1 => exact False.elim h1
    | _ :: _ :: _, _, _, h1 => exact False.elim h1
    | [x], [u], .cons r .nil, h1 =>
      have h2 : GM X.K X.mg W B ρ σ H1 (mSortOf x.1) Q := PV.move e1 h1
      obtain ⟨x, tx⟩ := x
      have rp := r.rp S1
      have key : ∀ {l : Addr} {ds : List D} {ys : List V}, SqL X.K H1 l ys → Reps X.K X.mg (ar B ρ σ H1) ds ys → GM X.K X.mg W B ρ σ H1 (match intsOf ds with | some ns => Res.ok (.seq .lst ((ns.mergeSort leI).map .int), .fr) | none => (match strsOf ds with | some ts => Res.ok (.seq .lst ((ts.mergeSort leS).map .str), .fr) | none => .bad)) Q →
          (∃ (a : Addr) (ns : List Int), [V.ref l] = [V.ref a] ∧ SqL X.K H1 a (ns.map V.int) ∧ ∀ (ns' : List Int) (p : Addr), ns'.Perm ns → ns'.Pairwise (· ≤ ·) → H1 p = none → Q (.ref p) (upd H1 p (.lst (ns'.map V.int)))) ∨
          (∃ (a : Addr) (xs : List Str), [V.ref l] = [V.ref a] ∧ SqL X.K H1 a (xs.map V.str) ∧ ∀ (ys : List Str) (p : Addr), ys.Perm xs → PyProof.Rows.sortedS ys = true → H1 p = none → Q (.ref p) (upd H1 p (.lst (ys.map V.str)))) := by
        intro l ds ys hx rr h3
        cases e : intsOf ds with
        | none =>
          rw [e] at h3
          replace h3 : GM X.K X.mg W B ρ σ H1 (match strsOf ds with | some ts => Res.ok (.seq .lst ((ts.mergeSort leS).map .str), .fr) | none => .bad) Q := h3
          cases es : strsOf ds with
          | none => rw [es] at h3; exact h3.elim
          | some ts =>
            rw [es] at h3
            have hy := strsV_rep rr es
            subst hy
            refine .inr ⟨l, _, rfl, hx, fun ys p h4 h5 hp => ?_⟩
            have hpw := sorted_pair ys h5
            have hperm : (ys.map fun y => y.cps.toList).Perm ts := by
              have := h4.map (fun y : Str => y.cps.toList)
              rw [List.map_map] at this
              have e0 : ((fun y : Str => y.cps.toList) ∘ fun t : List Nat => (⟨t.toArray⟩ : Str)) = id := by
                funext t
                simp
              rw [e0, List.map_id] at this
              exact this
            have hu := sort_uniqS hperm (List.pairwise_map.mpr hpw)
            have hy2 : ys.map V.str = ((ts.mergeSort leS).map fun t => (⟨t.toArray⟩ : Str)).map V.str := by
              rw [← hu, List.map_map, List.map_map]
              refine List.map_congr_left fun y _ => ?_
              simp
            rw [hy2]
            exact GM.fresh S1 h3 (repsS_of _) hp
        | some ns =>
          rw [e] at h3
          have hy := intsV_rep rr e
          subst hy
          refine .inl ⟨l, ns, rfl, hx, fun ns' p h4 h5 hp => ?_⟩
          have := sort_uniq h4 h5
          subst this
          exact GM.fresh S1 h3 (repsI_of _) hp
      cases rp <;> first | exact False.elim h2 | skip
      case lst hx rr => exact key (.of hx) rr h2
      case rol hx rr => exact key hx rr h2
/-! ### x.insert(i, e) -/
theorem psm_ins (i : Nat) {x : Str} {p1 p2 : Pos} (hb : PM X E W b mb) (ha : PM X E W a ma) (hN : X.N[i]? = some x := by rfl) (hv : Vis X.env.scope x := by first | exact Or.inl rfl | exact Or.inr (Or.inl rfl) | exact Or.inr (Or.inr rfl)) (hd : (x == ("__debug__" : Str)) = false := by decide)
    (hcd : (x == ("__classdict__" : Str)) = false := by decide) (hbase : attributeBase (.Name x p1) "insert" X.env (eval (.Name x p1) X.env) = eval (.Name x p1) X.env := by rfl)
    (hfew : ((backTo p (starEach [b, a] X.env)).all (fun x => !x.1) && (backToKw p (keywordEach [] X.env)).all (fun x => x.1.isSome) && decide ([b, a].length + ([] : List Keyword).length + (if ([] : List Keyword).isEmpty then 0 else 1) < 30)) = true := by rfl)
    (hline : (p2.endLine == p.line) = true := by rfl) (hs1 : starEach [b, a] X.env = (false, eval b X.env) :: starEach [a] X.env := by rfl) (hs2 : starEach [a] X.env = (false, eval a X.env) :: starEach [] X.env := by rfl) (hplain : (backTo p (starEach [a] X.env)).any (·.1) = false := by rfl)
    (hs : swapsWith (.Call (.Attribute (.Name x p1) "insert" p2) [b, a] [] p) none pos.line X.env = pure false := by rfl) :
    PSM X E W (.Expr (.Call (.Attribute (.Name x p1) "insert" p2) [b, a] [] p) pos) (smIns i mb ma) :=
  PS.imp (ps_expr (pe_bm PySem.F.plainAttrs_list PySem.F.slot_list_insert PySem.F.type_list_insert mt_insert (pe_var hN hv hd hcd) (pa_cons hb (pa_cons ha pa_nil hs2) hs1) hbase hfew hline hs1 hplain) hs) fun D σ H ⟨B, ρ, S, h⟩ => by
    unfold smIns at h
    split at h
    · rename_i ds e
      obtain ⟨l, vs, e1, e2, e3⟩ := S.owl i ds e
      refine ⟨.ref l, e1, .inl ⟨rfl, vs, .of e2⟩, GS.bindE S h fun z tz vz H0 rz s0 S0 h0 => GS.bindE S0 h0 fun y ty vy H1 ry s1 S1 h1 => ?_⟩
      have rpz := (rz.rp S0)
      cases rpz <;> first | exact False.elim h1 | skip
      case int j =>
        have h2 : GS X.K X.mg E W B D (if (ty.free || y.sc) && decide (ds.length < lim) && rgOk j && decide (0 ≤ j) then .ok (.nx (ρ.set i (.ow (ds.take j.toNat ++ [y] ++ ds.drop j.toNat)))) else .bad) := h1
        split at h2
        · rename_i hc
          rw [Bool.and_eq_true, Bool.and_eq_true, Bool.and_eq_true, Bool.or_eq_true, decide_eq_true_eq, decide_eq_true_eq] at hc
          obtain ⟨⟨⟨c1, c2⟩, c3⟩, c4⟩ := hc
          obtain ⟨g1, g2⟩ := rg_ok c3
          have e4 := e3.mono (ar_mono (s0.trans s1))
          refine ⟨l, vs, j, vy, rfl, rfl, (s0.trans s1) _ _ e2, by rw [← e3.length]; exact Nat.lt_of_lt_of_le c2 lim_le, c4, by omega, h2 σ _ ?_⟩
          exact S1.updOw e e1 (((e4.take _).app (.cons (ry.keep S0 s1 c1) .nil)).app (e4.drop _))
        · exact h2.elim
    · exact h.elim
end
end Dm
end

section
set_option Elab.async false
set_option linter.all false
set_option maxRecDepth 100000
set_option maxHeartbeats 4000000
/-! Dm: objects: fields, methods, isinstance; calls without arguments. -/
namespace Dm
open PySem PySem.Spec L2 TL
theorem ofString_inj {a b : String} (h : Str.ofString a = Str.ofString b) : a = b := by
  rw [Str.ofString_eq_toList, Str.ofString_eq_toList] at h
  injection h with h
  have h2 : a.toList.map Char.toNat = b.toList.map Char.toNat := by
    have := congrArg Array.toList h
    simpa using this
  have inj : ∀ (x y : List Char), x.map Char.toNat = y.map Char.toNat → x = y := by
    intro x
    induction x with
    | nil => intro y e; cases y with
      | nil => rfl
      | cons _ _ => simp at e
    | cons c x ih =>
      intro y e
      cases y with
      | nil => simp at e
      | cons d y =>
        simp only [List.map_cons, List.cons.injEq] at e
        rw [ih y e.2, Char.toNat_inj.mp e.1]
  exact String.toList_inj.mp (inj _ _ h2)
theorem fGet_val {K : PySem.W.Frag} {mg : Str → Option Value} {G : Hp} (f : String) : ∀ {ns : List String} {ds : List D} {vs : List V}, vs.length = ns.length → Reps K mg G ds vs →
    (∀ d, fGet ns ds f = some d → ∃ v, ((ns.map Str.ofString).zip vs).lookup (f : Str) = some v ∧ Rep K mg G d v) ∧ (fGet ns ds f = none → ((ns.map Str.ofString).zip vs).lookup (f : Str) = none)
  | [], ds, vs, hl, r => ⟨(fun d e => by
      have e' : (none : Option D) = some d := by rw [← e]; cases ds <;> rfl
      cases e'), fun _ => rfl⟩
  | n :: ns, ds, vs, hl, r => by
    cases r with
    | nil => simp at hl
    | cons r1 r2 =>
      rename_i d1 v1 ds vs
      obtain ⟨q1, q2⟩ := fGet_val f (ns := ns) (ds := ds) (vs := vs) (by simpa using hl) r2
      by_cases hn : n = f
      · subst hn
        refine ⟨fun d e => ?_, fun e => ?_⟩
        · have e' : (if n = n then some d1 else fGet ns ds n) = some d := e
          rw [if_pos rfl] at e'
          cases e'
          exact ⟨v1, by simp [List.lookup], r1⟩
        · have e' : (if n = n then some d1 else fGet ns ds n) = none := e
          rw [if_pos rfl] at e'
          cases e'
      · have hne : ((f : Str) == Str.ofString n) = false := by
          rw [beq_eq_false_iff_ne]
          intro z
          exact hn (ofString_inj z).symm
        have e0 : (((n :: ns).map Str.ofString).zip (v1 :: vs)).lookup (f : Str) = ((ns.map Str.ofString).zip vs).lookup (f : Str) := by
          rw [List.map_cons, List.zip_cons_cons, List.lookup_cons, hne]
        rw [e0]
        have e1 : fGet (n :: ns) (d1 :: ds) f = fGet ns ds f := if_neg hn
        rw [e1]
        exact ⟨q1, q2⟩
/-- a class of the program whose objects are plain; f is no attribute of the class -/
def ClsA (K : PySem.W.Frag) (mg : Str → Option Value) (f : String) (C : String) : Prop := ∃ c : Addr, mg (C : Str) = some (.ref c) ∧ Cls K c ∧ NoAttr K c (f : Str)
/-- a method of a class -/
structure MethOk (P : Program) (w : World) (K : PySem.W.Frag) (mg : Str → Option Value) (base : Heap) (b : Bool) (C m : String) (k : Nat) (n : Nat) (g : FM) : Prop where
  ex : ∃ (c f : Addr) (fd : FuncData) (ps : List Str), mg (C : Str) = some (.ref c) ∧ Cls K c ∧ Meth K c (m : Str) f ∧ Binds K fd ps [] ∧ FnOk P w K mg base (CXm b P w) k f fd ps (spM K mg n g)
/-- a class whose objects isinstance asks rightly -/
def ClsI (K : PySem.W.Frag) (mg : Str → Option Value) (C : String) : Prop := ∃ c : Addr, mg (C : Str) = some (.ref c) ∧ Cls K c ∧ PySem.W.findIn K (.ref c) "__class__" = some (some (.builtin "object.__class__")) ∧
  PySem.W.specialIn K (.builtin "object.__class__") "__get__" = some (some (.builtin "getset_descriptor.__get__")) ∧ PySem.W.takesIn K (.builtin "object.__class__") = some true ∧ PySem.W.mroIn K c (.type "object") = some true
section
variable {X : Cx} {E : ExE} {W : WX} {pos p : Pos} {a e o : Expr} {ma mo : EM} {es : List Expr} {am : AM}
theorem pm_fld {Cs : List String} {f : String} (h : ∀ C ∈ Cs, ClsA X.K X.mg f C) (ha : PM X E W a ma) (hb : attributeBase a (f : Str) X.env (eval a X.env) = eval a X.env := by rfl) : PM X E W (.Attribute a (f : Str) pos) (mFld Cs f ma) :=
  PE.imp (pe_fld ha hb) fun σ H Q ⟨B, ρ, S, hh⟩ => GM.bind S hh fun x tx vx H1 rx e1 S1 h1 => by
    have rp := rx.rp S1
    cases rp <;> first | exact h1.elim | skip
    case obj C c q dx ns ds vs hm hq hl r =>
      replace h1 : GM X.K X.mg W B ρ σ H1 (if Cs.contains C then (match fGet ns ds f with | some d => .ok (d, .cl) | none => .bad) else .bad) Q := h1
      by_cases hC : Cs.contains C = true
      · rw [if_pos hC] at h1
        obtain ⟨c', m', cl, na⟩ := h C (by simpa using hC)
        rw [hm] at m'
        cases m'
        cases ef : fGet ns ds f with
        | none => rw [ef] at h1; exact h1.elim
        | some d =>
          rw [ef] at h1
          obtain ⟨v, e2, e3⟩ := (fGet_val f hl r).1 d ef
          exact ⟨q, c, dx, _, v, rfl, hq, cl, na, e2, GM.pure h1 e3⟩
      · rw [if_neg hC] at h1
        exact h1.elim
/-! methods -/
def tMethSD (C : Addr) (m : Str) (sp : Sp) (E : St → XK) (ta : TE) (t : TA) : TE := fun σ H Q => ta σ H fun x H1 => ∃ a dx fs, x = .ref a ∧ H1 a = some (.ins C dx fs) ∧ fs.lookup m = none ∧ t σ H1 fun vs H2 => sp (x :: vs) H2 Q (E σ)
theorem pe_methSD {CX : CXT} {k : Nat} {C f : Addr} {fd : FuncData} {ps : List Str} {sp : Sp} {E : St → XK} {m : Str} {apos : Pos} {ta : TE} {t : TA} {pl : Sem Bool} (he : PE X o ta) (c : Cls X.K C) (hm : Meth X.K C m f) (F : FnOk X.prog X.w X.K X.mg X.base CX k f fd ps sp) (hr : Room k X.A) (hb : Binds X.K fd ps [])
    (hx : ∀ σ, PassesAt CX X σ (E σ)) (ha : PA X (e :: es) t)
    (hst : starEach (e :: es) X.env = (false, eval e X.env) :: starEach es X.env := by rfl) (hpl : (backTo pos (starEach es X.env)).any (·.1) = false := by rfl)
    (ht : eval (.Call (.Attribute o m apos) (e :: es) [] pos) X.env = (do
      let ov ← eval o X.env
      standAt apos.atName
      let (f, first) ← holding [ov] (getMethod ov m pl)
      callWith pos f first (backTo pos (starEach (e :: es) X.env)) (backToKw pos (keywordEach [] X.env))) := by rfl) :
    PE X (.Call (.Attribute o m apos) (e :: es) [] pos) (tMethSD C m sp E ta t) := by
  refine ⟨fun pins s σ H Q I h => ?_⟩
  refine PySem.W.methodCall_KW (pl := pl) (thn (he.run pins s σ H _ I h) fun u s1 ⟨x, H1, I1, rx, a, dx, fs, ex, ea, l, q⟩ => ?_) ht
  subst ex
  obtain rfl : u = Value.ref a := rx
  refine getmeth_ok I1 ea c hm l ?_
  refine PySem.W.callWith_K (first := [.ref a]) (h₀ := X.base) I.ok.mod.kin hm.kp (thn (ha.run pos pins s1 σ H1 _ I1 q) fun us s2 ⟨vs, H2, I2, r, q2⟩ => ⟨I2.kIn, ?_⟩) hst hpl
  exact run_fnS (us := .ref a :: us) (vs := .ref a :: vs) F hr hb (hx σ) I2 (.cons rfl r) q2
theorem pe_methSD0 {CX : CXT} {k : Nat} {C f : Addr} {fd : FuncData} {ps : List Str} {sp : Sp} {E : St → XK} {m : Str} {apos : Pos} {ta : TE} {pl : Sem Bool} (he : PE X o ta) (c : Cls X.K C) (hm : Meth X.K C m f) (F : FnOk X.prog X.w X.K X.mg X.base CX k f fd ps sp) (hr : Room k X.A) (hb : Binds X.K fd ps [])
    (hx : ∀ σ, PassesAt CX X σ (E σ))
    (ht : eval (.Call (.Attribute o m apos) [] [] pos) X.env = (do
      let ov ← eval o X.env
      standAt apos.atName
      let (f, first) ← holding [ov] (getMethod ov m pl)
      callWith pos f first (backTo pos (starEach [] X.env)) (backToKw pos (keywordEach [] X.env))) := by rfl) :
    PE X (.Call (.Attribute o m apos) [] [] pos) (tMethSD C m sp E ta tNil) := by
  refine ⟨fun pins s σ H Q I h => ?_⟩
  refine PySem.W.methodCall_KW (pl := pl) (thn (he.run pins s σ H _ I h) fun u s1 ⟨x, H1, I1, rx, a, dx, fs, ex, ea, l, q⟩ => ?_) ht
  subst ex
  obtain rfl : u = Value.ref a := rx
  refine getmeth_ok I1 ea c hm l ?_
  exact PySem.W.callWith_K0 (first := [.ref a]) I1.kIn hm.kp (run_fnS (us := [.ref a]) (vs := [.ref a]) F hr hb (hx σ) I1 (.cons rfl .nil) q)
/-- the method by the object's class -/
theorem meth_read {b : Bool} {k n : Nat} {m : String} {tbl : List (String × FM)} {t : TA} (hne : ∀ C g, tbl.lookup C = some g → MethOk X.prog X.w X.K X.mg X.base b C m k (n + 1) g) (hn : AMn am n)
    {σ : St} {H : Hp} {Q : VK} (ht : ∀ σ H R, tA X.K X.mg E W am σ H R → t σ H R) (h : tE X.K X.mg E W (mMeth tbl m mo am) σ H Q) :
    ∃ C g c, tbl.lookup C = some g ∧ X.mg (C : Str) = some (.ref c) ∧ tMethSD c (m : Str) (spM X.K X.mg (n + 1) g) (WE W) (tE X.K X.mg E W mo) t σ H Q := by
  obtain ⟨B, ρ, S, h⟩ := h
  unfold mMeth at h
  cases em : mo ρ with
  | ex C => rw [em] at h; exact h.elim
  | bad => rw [em] at h; exact h.elim
  | ok x =>
    obtain ⟨d, tx⟩ := x
    rw [em] at h
    cases d <;> first | exact h.elim | skip
    case obj C ns ds =>
      replace h : GM X.K X.mg W B ρ σ H (if fGet ns ds m = none then (match tbl.lookup C with
    | some g => (am ρ).bind fun xs => (g (.obj C ns ds :: xs.map (·.1))).bind fun r => if r.1.sc then .ok (r.1, .cl) else if ((.obj C ns ds, tx) :: xs).all (fun x => x.2.free || x.1.sc) then .ok (r.1, if r.2 then .fr else .cl) else .bad
    | none => .bad) else .bad) Q := h
      by_cases hf : fGet ns ds m = none
      · rw [if_pos hf] at h
        cases el : tbl.lookup C with
        | none => rw [el] at h; exact h.elim
        | some g =>
          rw [el] at h
          obtain ⟨c, f, fd, ps, hm, cl, mt, hb, F⟩ := (hne C g el).ex
          refine ⟨C, g, c, el, hm, B, ρ, S, ?_⟩
          rw [em]
          intro vx H1 e1 rx
          have S1 := S.mono e1
          have rp := rx.rp S1
          generalize hd : D.obj C ns ds = d0 at rp
          cases rp <;> first | (cases hd; done) | skip
          case obj C' c' q dx ns' ds' vs hm' hq hl r =>
            injection hd with z1 z2 z3
            subst z1 z2 z3
            rw [hm] at hm'
            cases hm'
            refine ⟨q, dx, _, rfl, hq, (fGet_val m hl r).2 hf, ht _ _ _ ⟨B, ρ, S1, ?_⟩⟩
            have h1 := (GM.mono h e1).gg
            cases ea : am ρ with
            | ok xs =>
              intro ws H2 e2 rs
              have rs2 : RTs X.K X.mg B ρ σ H H2 ((.obj C ns ds, tx) :: xs) (.ref q :: ws) := .cons (rx.mono e2) (rs.base e1)
              have h0 := h.gg
              rw [ea] at h0
              exact call_read S (e1.trans e2) (S1.mono e2) rs2 (by simp [hn ρ xs ea]) (fun C H' _ w => w) h0
            | ex C => rw [ea] at h1; exact h1
            | bad => rw [ea] at h1; exact h1
      · rw [if_neg hf] at h
        exact h.elim
end
end Dm
end

section
set_option Elab.async false
set_option linter.all false
set_option maxRecDepth 100000
set_option maxHeartbeats 4000000
/-! Dm: how objects are made. -/
namespace Dm
open PySem PySem.Spec L2 TL
theorem setF_ok {K : PySem.W.Frag} {mg : Str → Option Value} {G : Hp} (f : String) {d : D} {v : V} (rd : Rep K mg G d v) : ∀ {ns : List String} {es : List D} {us : List V}, us.length = ns.length → Reps K mg G es us →
    ∃ us' : List V, putF (f : Str) v ((ns.map Str.ofString).zip us) = ((setF ns es f d).1.map Str.ofString).zip us' ∧ us'.length = (setF ns es f d).1.length ∧ Reps K mg G (setF ns es f d).2 us'
  | [], es, us, hl, r => by
    have hu : us = [] := List.eq_nil_of_length_eq_zero hl
    subst hu
    cases r
    exact ⟨[v], rfl, rfl, .cons rd .nil⟩
  | n :: ns, es, us, hl, r => by
    cases r with
    | nil => simp at hl
    | cons r1 r2 =>
    rename_i d1 v1 ds vs
    obtain ⟨us', q1, q2, q3⟩ := setF_ok f rd (ns := ns) (es := ds) (us := vs) (by simpa using hl) r2
    by_cases hn : n = f
    · subst hn
      have e : setF (n :: ns) (d1 :: ds) n d = (n :: ns, d :: ds) := if_pos rfl
      rw [e]
      exact ⟨v :: vs, by simp [putF], by simpa using hl, .cons rd r2⟩
    · have e : setF (n :: ns) (d1 :: ds) f d = (n :: (setF ns ds f d).1, d1 :: (setF ns ds f d).2) := if_neg hn
      have hne : ¬ Str.ofString n = Str.ofString f := fun z => hn (ofString_inj z)
      rw [e]
      refine ⟨v1 :: us', ?_, by simp [q2], .cons r1 q3⟩
      show putF (Str.ofString f) v ((Str.ofString n, v1) :: (ns.map Str.ofString).zip vs) = (Str.ofString n, v1) :: ((setF ns ds f d).1.map Str.ofString).zip us'
      rw [← q1]
      exact if_neg hne
abbrev Bs.ini (G H0 : Hp) (x : Addr) : Bs := ⟨G, H0, fun a => a = x⟩
/-- what an __init__ does to the object -/
def spI (K : PySem.W.Frag) (mg : Str → Option Value) (C : String) (n : Nat) (g : IF) : Sp := fun vs H Q _ => vs.length = n + 1 ∧ ∃ (G H0 : Hp) (x c dx : Addr) (ws us : List V) (ns : List String) (es ds : List D),
  vs = .ref x :: ws ∧ mg (C : Str) = some (.ref c) ∧ Same G H0 ∧ Same H0 H ∧ H0 x = none ∧ H x = some (.ins c dx ((ns.map Str.ofString).zip us)) ∧ us.length = ns.length ∧ Reps K mg G es us ∧ Reps K mg G ds ws ∧
  (match g ds ns es with
   | .ok (ns', es') => ∀ H' us', Same H0 H' → H' x = some (.ins c dx ((ns'.map Str.ofString).zip us')) → us'.length = ns'.length → Reps K mg (ar (Bs.ini G H0 x) [] [] H') es' us' → Q .non H'
   | _ => False)
section
variable {K : PySem.W.Frag} {mg : Str → Option Value} {E : ExE} {W : WX} {B : Bs} {ρ : Rho} {σ : St} {H H1 H2 : Hp}
/-- behind a call that works on a hidden object alone -/
theorem SR.outX (S : SR K mg E B ρ σ H) {x : Addr} (hx : B.X x) {H' : Hp} (s : ∀ b o, b ≠ x → H b = some o → H' b = some o) (hx' : ∃ o, H' x = some o) : SR K mg E B ρ σ H' := by
  have same : Same (ar B ρ σ H) (ar B ρ σ H') := fun b o h => by
    by_cases hb : B.X b ∨ Own ρ σ b
    · rw [ar_out hb] at h; cases h
    · by_cases hn : B.H b = none
      · rw [ar_none hb hn] at h ⊢
        exact s b o (fun z => hb (.inl (z ▸ hx))) h
      · rw [ar_some hb hn] at h ⊢
        exact h
  refine ⟨S.len, fun j d h => ?_, fun j l es h' => ?_, S.dj, S.ex, S.gh, fun b o' h' => ?_, S.new, S.xo, fun b hb => ?_⟩
  · obtain ⟨v, e1, e2⟩ := S.fz j d h
    exact ⟨v, e1, e2.mono same⟩
  · obtain ⟨b, o1, ws, e1, e2, hk, r'⟩ := S.ow j l es h'
    have : b ≠ x := fun z => by
      subst z
      exact S.xo b hx ⟨j, l, es, h', e1⟩
    exact ⟨b, o1, ws, e1, s b _ this e2, hk, r'.mono same⟩
  · have : b ≠ x := fun z => by
      subst z
      rw [S.new b (.inl hx)] at h'
      cases h'
    exact s b _ this (S.bh _ _ h')
  · by_cases e : b = x
    · subst e
      exact hx'
    · obtain ⟨o', q⟩ := S.xt b hb
      exact ⟨o', s b _ e q⟩
def tIni (K : PySem.W.Frag) (mg : Str → Option Value) (E : ExE) (C : String) (m : IM) : TS := fun D σ H => ∃ (B : Bs) (ρ : Rho) (x c dx : Addr) (ns : List String) (es : List Dm.D) (us : List V),
  SR K mg E B ρ σ H ∧ B.X x ∧ σ[0]? = some (some (.ref x)) ∧ mg (C : Str) = some (.ref c) ∧ H x = some (.ins c dx ((ns.map Str.ofString).zip us)) ∧ us.length = ns.length ∧ Reps K mg (ar B ρ σ H) es us ∧
  (match m ρ ns es with
   | .ok (ns', es') => ∀ H' us', SR K mg E B ρ σ H' → H' x = some (.ins c dx ((ns'.map Str.ofString).zip us')) → us'.length = ns'.length → Reps K mg (ar B ρ σ H') es' us' → D.nx σ H'
   | _ => False)
end
section
variable {X : Cx} {E : ExE} {W : WX} {pos pos' p q apos : Pos} {value : Expr} {ma : EM} {C f : String} {sts : List Stmt} {m : IM} {es : List Expr} {am : AM} {slf : Str}
theorem psi_nil : PSs X [] (tIni X.K X.mg E C imNil) := PSs.imp pss_nil fun D σ H ⟨B, ρ, x, c, dx, ns, es, us, S, hx, h0, hm, ho, hl, r, h⟩ => h H us S ho hl r
theorem psi_fld {mo : Bool} (tk : Tks mo X W) (hf : ClsA X.K X.mg f C) (hv : PM X E W value ma) (rest : PSs X sts (tIni X.K X.mg E C m)) (hN : X.N[0]? = some slf := by rfl) (hvs : Vis X.env.scope slf := by first | exact Or.inl rfl | exact Or.inr (Or.inl rfl) | exact Or.inr (Or.inr rfl))
    (hd : (slf == ("__debug__" : Str)) = false := by decide) (hcd : (slf == ("__classdict__" : Str)) = false := by decide) (hs : swapsWith value (some (.Attribute (.Name slf q) (f : Str) pos')) pos.line X.env = pure false := by rfl) :
    PSs X (.Assign [.Attribute (.Name slf q) (f : Str) pos'] value pos :: sts) (tIni X.K X.mg E C (imFld f ma m)) :=
  PSs.imp (pss_cons (ps_fld (pe_var hN hvs hd hcd) hv hs) rest) fun D σ H ⟨B, ρ, x, c, dx, ns, es, us, S, hx, h0, hm, ho, hl, r, h⟩ => by
    obtain ⟨c', m', cl, na⟩ := hf
    rw [hm] at m'
    cases m'
    unfold imFld at h
    show tE X.K X.mg E W ma σ H _
    refine ⟨B, ρ, S, ?_⟩
    cases e : ma ρ with
    | ex C => rw [e] at h; exact h.elim
    | bad => rw [e] at h; exact h.elim
    | ok y =>
      obtain ⟨d, t⟩ := y
      rw [e] at h
      intro v H1 s rt
      replace h : (match (if (t.free || d.sc) && decide (ns.length < 900) then m ρ (setF ns es f d).1 (setF ns es f d).2 else .bad) with
        | .ok (ns', es') => ∀ H' us', SR X.K X.mg E B ρ σ H' → H' x = some (.ins c dx ((ns'.map Str.ofString).zip us')) → us'.length = ns'.length → Reps X.K X.mg (ar B ρ σ H') es' us' → D.nx σ H'
        | _ => False) := h
      by_cases hc : ((t.free || d.sc) && decide (ns.length < 900)) = true
      · rw [if_pos hc] at h
        rw [Bool.and_eq_true, Bool.or_eq_true, decide_eq_true_eq] at hc
        have S1 := S.mono s
        have rd : Rep X.K X.mg (ar B ρ σ H1) d v := rt.keep S s hc.1
        obtain ⟨us', q1, q2, q3⟩ := setF_ok f rd hl (r.mono (ar_mono s))
        refine ⟨.ref x, h0, x, c, dx, _, rfl, s _ _ ho, cl, na, by simp; omega, ?_⟩
        refine ⟨B, ρ, x, c, dx, (setF ns es f d).1, (setF ns es f d).2, us', S1.updX hx, hx, h0, hm, ?_, q2, ?_, h⟩
        · rw [upd_same, q1]
        · rw [ar_upd (.inl hx)]
          exact q3
      · rw [if_neg hc] at h
        exact h.elim
/-! another class's __init__ -/
theorem pe_base {CX : CXT} {k : Nat} {cF fA : Addr} {mc : Value} {fd : FuncData} {ps : List Str} {sp : Sp} {E : St → XK} {x mt : Str} {e : Expr} {es : List Expr} {t : TA} {pl : Sem Bool} (hm : X.mg x = some (.ref cF)) (hrd : PySem.W.readsIn X.K cF mc = true)
    (hga : PySem.W.specialIn X.K (.ref cF) "__getattribute__" = some (some (.builtin "type.__getattribute__"))) (hat : PySem.W.findCls X.K (.ref cF) mc mt = some (.val (.ref fA))) (hkp : PySem.W.keepIn X.K (.ref fA) = true)
    (F : FnOk X.prog X.w X.K X.mg X.base CX k fA fd ps sp) (hr : Room k X.A) (hb : Binds X.K fd ps []) (hx : ∀ σ, PassesAt CX X σ (E σ)) (ha : PA X (e :: es) t) (hg : Gl X x := by rfl) (hdb : (x == ("__debug__" : Str)) = false := by decide)
    (hst : starEach (e :: es) X.env = (false, eval e X.env) :: starEach es X.env := by rfl) (hpl : (backTo pos (starEach es X.env)).any (·.1) = false := by rfl)
    (ht : eval (.Call (.Attribute (.Name x q) mt apos) (e :: es) [] pos) X.env = (do
      let ov ← eval (.Name x q) X.env
      standAt apos.atName
      let (f, first) ← holding [ov] (getMethod ov mt pl)
      callWith pos f first (backTo pos (starEach (e :: es) X.env)) (backToKw pos (keywordEach [] X.env))) := by rfl) :
    PE X (.Call (.Attribute (.Name x q) mt apos) (e :: es) [] pos) (tCallS sp E t) := by
  refine ⟨fun pins s σ H Q I h => ?_⟩
  refine PySem.W.methodCall_KW (pl := pl) (ld_glob I hg hm ?_ hdb) ht
  refine PySem.W.method_cls I.kIn hga (PySem.W.cls_value I.kIn hrd hat rfl ?_)
  have I' := I.tok (s.toks + 1)
  refine PySem.W.callWith_K (first := []) (h₀ := X.base) I'.ok.mod.kin hkp (thn (ha.run pos pins _ σ H _ I' h) fun us s1 ⟨vs, H1, I1, r, q⟩ => ⟨I1.kIn, ?_⟩) hst hpl
  exact run_fnS F hr hb (hx σ) I1 r q
/-- the class whose __init__ is called by its name -/
structure BaseOk (P : Program) (w : World) (K : PySem.W.Frag) (mg : Str → Option Value) (base : Heap) (mo : Bool) (N C : String) (k n : Nat) (g : IF) : Prop where
  ex : ∃ (cF fA : Addr) (mc : Value) (fd : FuncData) (ps : List Str), mg (N : Str) = some (.ref cF) ∧ PySem.W.readsIn K cF mc = true ∧ PySem.W.specialIn K (.ref cF) "__getattribute__" = some (some (.builtin "type.__getattribute__")) ∧
    PySem.W.findCls K (.ref cF) mc "__init__" = some (.val (.ref fA)) ∧ PySem.W.keepIn K (.ref fA) = true ∧ Binds K fd ps [] ∧ FnOk P w K mg base (CXm mo P w) k fA fd ps (spI K mg C n g)
theorem psi_base {mo : Bool} {N : String} {k k' n : Nat} {g : IF} (b : BaseOk X.prog X.w X.K X.mg X.base mo N C k n g) (tk : Tks mo X W) (hr : Room k' X.A) (ha : PMA X E W es am) (hn : AMn am n) (rest : PSs X sts (tIni X.K X.mg E C m)) (hk : k ≤ k' := by decide)
    (hN : X.N[0]? = some slf := by rfl) (hvs : Vis X.env.scope slf := by first | exact Or.inl rfl | exact Or.inr (Or.inl rfl) | exact Or.inr (Or.inr rfl)) (hd : (slf == ("__debug__" : Str)) = false := by decide) (hcd : (slf == ("__classdict__" : Str)) = false := by decide)
    (hg : Gl X (N : Str) := by rfl) (hdb : ((N : Str) == ("__debug__" : Str)) = false := by decide)
    (hst : starEach (.Name slf p :: es) X.env = (false, eval (.Name slf p) X.env) :: starEach es X.env := by rfl) (hpl : (backTo pos' (starEach es X.env)).any (·.1) = false := by rfl) {pl : Sem Bool}
    (ht : eval (.Call (.Attribute (.Name (N : Str) q) "__init__" apos) (.Name slf p :: es) [] pos') X.env = (do
      let ov ← eval (.Name (N : Str) q) X.env
      standAt apos.atName
      let (f, first) ← holding [ov] (getMethod ov "__init__" pl)
      callWith pos' f first (backTo pos' (starEach (.Name slf p :: es) X.env)) (backToKw pos' (keywordEach [] X.env))) := by rfl)
    (hs : swapsWith (.Call (.Attribute (.Name (N : Str) q) "__init__" apos) (.Name slf p :: es) [] pos') none pos.line X.env = pure false := by rfl) :
    PSs X (.Expr (.Call (.Attribute (.Name (N : Str) q) "__init__" apos) (.Name slf p :: es) [] pos') pos :: sts) (tIni X.K X.mg E C (imBase g am m)) := by
  obtain ⟨cF, fA, mc, fd, ps, hm, hrd, hga, hat, hkp, hb, F⟩ := b.ex
  refine PSs.imp (pss_cons (ps_expr (pe_base hm hrd hga hat hkp F (hr.mono hk) hb (E := WE W) tk.pass (pa_cons (pe_var hN hvs hd hcd) ha hst) hg hdb hst hpl ht) hs) rest) fun D σ H ⟨B, ρ, x, c, dx, ns, es, us, S, hx, h0, hmc, ho, hl, r, h⟩ => ?_
  unfold imBase at h
  refine ⟨.ref x, h0, ?_⟩
  show tA X.K X.mg E W am σ H _
  refine ⟨B, ρ, S, ?_⟩
  cases e : am ρ with
  | ex C => rw [e] at h; exact h.elim
  | bad => rw [e] at h; exact h.elim
  | ok xs =>
    rw [e] at h
    intro ws H1 s rs
    replace h : (match ((kept xs).bind fun ds => (noEx (g ds ns es)).bind fun p => m ρ p.1 p.2) with
        | .ok (ns', es') => ∀ H' us', SR X.K X.mg E B ρ σ H' → H' x = some (.ins c dx ((ns'.map Str.ofString).zip us')) → us'.length = ns'.length → Reps X.K X.mg (ar B ρ σ H') es' us' → D.nx σ H'
        | _ => False) := h
    unfold kept at h
    by_cases hf : xs.all (fun x => x.2.free || x.1.sc) = true
    · rw [if_pos hf] at h
      have S1 := S.mono s
      have rk := rs.keep S s (fun y hy => by have := List.all_eq_true.mp hf y hy; simpa using this)
      have hgx : Same (ar B ρ σ H1) (fun b => if b = x then none else H1 b) := fun b o hb => by
        have : b ≠ x := fun z => by
          subst z
          rw [ar_out (.inl hx)] at hb
          cases hb
        show (if b = x then none else H1 b) = some o
        rw [if_neg this]
        exact S1.sub _ _ hb
      refine ⟨by rw [List.length_cons, ← rs.len, hn ρ xs e], ar B ρ σ H1, fun b => if b = x then none else H1 b, x, c, dx, ws, us, ns, es, xs.map (·.1), rfl, hmc, hgx, fun b o hb => ?_, if_pos rfl, s _ _ ho, hl, r.mono (ar_mono s), rk, ?_⟩
      · replace hb : (if b = x then none else H1 b) = some o := hb
        by_cases z : b = x
        · rw [if_pos z] at hb; cases hb
        · rw [if_neg z] at hb; exact hb
      · cases eg : g (xs.map (·.1)) ns es with
        | ex C => rw [Res.bind_ok, eg] at h; exact h.elim
        | bad => rw [Res.bind_ok, eg] at h; exact h.elim
        | ok y =>
          obtain ⟨ns', es'⟩ := y
          rw [Res.bind_ok, eg] at h
          intro H' us' s' hx' hl' r'
          have out : ∀ b o, b ≠ x → H1 b = some o → H' b = some o := fun b o z hb => s' b o (show (if b = x then none else H1 b) = some o by rw [if_neg z]; exact hb)
          have S' := S1.outX hx out ⟨_, hx'⟩
          refine ⟨B, ρ, x, c, dx, ns', es', us', S', hx, h0, hmc, hx', hl', r'.mono fun b o hb => ?_, h⟩
          have hz : ¬ ((Bs.ini (ar B ρ σ H1) (fun b => if b = x then none else H1 b) x).X b ∨ Own [] [] b) := fun z => by
            rw [ar_out z] at hb
            cases hb
          have hbx : b ≠ x := fun z => hz (.inl z)
          by_cases hn1 : H1 b = none
          · have hn0 : (Bs.ini (ar B ρ σ H1) (fun b => if b = x then none else H1 b) x).H b = none := by
              show (if b = x then none else H1 b) = none
              rw [if_neg hbx]; exact hn1
            rw [ar_none hz hn0] at hb
            have hnB : ¬ (B.X b ∨ Own ρ σ b) := fun z => by
              rcases z with z | z
              · obtain ⟨o', q⟩ := S1.xt b z
                rw [hn1] at q; cases q
              · obtain ⟨o', q⟩ := S1.there z
                rw [hn1] at q; cases q
            have hBH : B.H b = none := by
              cases eb : B.H b with
              | none => rfl
              | some o' =>
                have := S1.bh _ _ eb
                rw [hn1] at this; cases this
            rw [ar_none hnB hBH]
            exact hb
          · have hn0 : ¬ (Bs.ini (ar B ρ σ H1) (fun b => if b = x then none else H1 b) x).H b = none := by
              show ¬ (if b = x then none else H1 b) = none
              rw [if_neg hbx]; exact hn1
            rw [ar_some hz hn0] at hb
            have hb' : ar B ρ σ H1 b = some o := hb
            have hnB : ¬ (B.X b ∨ Own ρ σ b) := fun z => by
              rw [ar_out z] at hb'
              cases hb'
            by_cases hBH : B.H b = none
            · rw [ar_none hnB hBH] at hb' ⊢
              exact out b o hbx hb'
            · rw [ar_some hnB hBH] at hb' ⊢
              exact hb'
    · rw [if_neg hf] at h
      exact h.elim
end
/-! the rule of an __init__ -/
theorem start_ini {K : PySem.W.Frag} {mg : Str → Option Value} {G H0 H : Hp} {x : Addr} {ds : List Dm.D} {ws : List V} (gh : Same G H0) (h0 : H0 x = none) (hH : Same H0 H) (hx : ∃ o, H x = some o) (r : Reps K mg G ds ws) :
    SR K mg none (Bs.ini G H0 x) (.no :: ds.map .fz) (some (.ref x) :: ws.map some) H := by
  have hl := r.length
  have noow : ∀ {i : Nat} {l : OwK} {es : List Dm.D}, ¬ (Sl.no :: ds.map Sl.fz)[i]? = some (.oo l es) := fun {i l es} h => by
    cases i with
    | zero => cases h
    | succ i =>
      rw [List.getElem?_cons_succ, List.getElem?_map] at h
      cases e : ds[i]? with
      | none => rw [e] at h; cases h
      | some d => rw [e] at h; cases h
  have noOwn : ∀ b, ¬ Own (Sl.no :: ds.map Sl.fz) (some (.ref x) :: ws.map some) b := fun b ⟨i, l, es, h, _⟩ => noow h
  have same : Same G (ar (Bs.ini G H0 x) (Sl.no :: ds.map Sl.fz) (some (.ref x) :: ws.map some) H) := fun b o h => by
    have hb0 := gh _ _ h
    have hbx : b ≠ x := fun z => by
      subst z
      rw [h0] at hb0
      cases hb0
    rw [ar_some (fun z => z.elim (fun q => hbx q) (noOwn b)) (by show ¬ H0 b = none; rw [hb0]; simp)]
    exact h
  refine ⟨by simp [hl], fun i d h => ?_, fun i k es h => absurd h noow, fun i j a k l es fs h => absurd h noow, fun i C h => ?_, gh, hH, fun a z => ?_, fun a _ => noOwn a, fun a z => ?_⟩
  · cases i with
    | zero => cases h
    | succ i =>
      rw [List.getElem?_cons_succ, List.getElem?_map] at h
      obtain ⟨d', e1, e2⟩ := Option.map_eq_some_iff.mp h
      cases e2
      obtain ⟨v, q1, q2⟩ := r.get e1
      exact ⟨v, by rw [List.getElem?_cons_succ, List.getElem?_map, q1]; rfl, q2.mono same⟩
  · cases i with
    | zero => cases h
    | succ i =>
      rw [List.getElem?_cons_succ, List.getElem?_map] at h
      obtain ⟨d', e1, e2⟩ := Option.map_eq_some_iff.mp h
      cases e2
  · rcases z with z | z
    · exact z ▸ h0
    · exact absurd z (noOwn a)
  · exact z ▸ hx
/-- a def whose defaults may be written -/
structure FunD (K : PySem.W.Frag) (x qual : Str) (st : Stmt) (f : Addr) (fd : FuncData) : Prop where
  ex : ∃ (oc : Value) (od : Option Addr) (dV kV doc pm : Value) (an : Option Addr) (cdv ct : Value) (osl : Array (Option Value)),
    fd = PySem.W.fnOf x qual (defArgs st) (defBody st) (defScope st) dV kV doc pm an cdv ct ∧ K.lookup f = some ⟨oc, od, .func fd, osl⟩ ∧ PySem.W.codeIn K cdv qual = true
  kp : PySem.W.keepIn K (.ref f) = true
theorem FunD.binds {K : PySem.W.Frag} {x qual : Str} {st : Stmt} {f : Addr} {fd : FuncData} {ps : List Str} (F : FunD K x qual st f fd)
    (h : ∀ (dV kV doc pm : Value) (an : Option Addr) (cdv ct : Value) (us : List Value), us.length = ps.length → bindArgs (PySem.W.fnOf x qual (defArgs st) (defBody st) (defScope st) dV kV doc pm an cdv ct) ⟨us, []⟩ = pure (ps.zip us)) : Binds K fd ps [] := by
  obtain ⟨oc, od, dV, kV, doc, pm, an, cdv, ct, osl, rfl, lk, hcd⟩ := F.ex
  exact .all (h dV kV doc pm an cdv ct)
theorem fund_mk {K : PySem.W.Frag} {x qual : Str} {st : Stmt} {f : Addr} {oc : Value} {od an : Option Addr} {osl : Array (Option Value)} {dV kV doc pm cdv ct : Value} (l : K.lookup f = some ⟨oc, od, .func (PySem.W.fnOf x qual (defArgs st) (defBody st) (defScope st) dV kV doc pm an cdv ct), osl⟩)
    (c : PySem.W.codeIn K cdv qual = true) (k : PySem.W.keepIn K (.ref f) = true) : FunD K x qual st f (PySem.W.fnOf x qual (defArgs st) (defBody st) (defScope st) dV kV doc pm an cdv ct) := ⟨⟨oc, od, dV, kV, doc, pm, an, cdv, ct, osl, rfl, l, c⟩, k⟩
theorem fn_i {CX : CXT} {P : Program} {w : World} {K : PySem.W.Frag} {mg : Str → Option Value} {base : Heap} {x qual : Str} {st : Stmt} {f : Addr} {fd : FuncData} {N ps : List Str} {k np : Nat} {C : String} {m : IM} (F : FunD K x qual st f fd) (S : FnScope N ps (defScope st)) (hps : ps.length = np + 1) (hN : N.length = np + 1)
    (hbody : ∀ (cdv : Value) (A : Around) (outer : List Env) (s : Shared) (H : Hp) (E : XK), Room k (A.deeper (PyProof.Rows.envOfC qual (defScope st) s.heap.objs.size f cdv)) →
      PSs (cxOf CX P w K mg base N qual (defScope st) f cdv A outer s H E) (defBody st) (tIni K mg none C m)) :
    FnOk P w K mg base CX (k + 1) f fd ps (spI K mg C np (mInit np m)) := by
  obtain ⟨oc, od, dV, kV, doc, pm, an, cdv, ct, osl, rfl, lk, hcd⟩ := F.ex
  refine fn_of lk hcd S (fun vs H Q E h => by rw [hps]; exact h.1) (fun A outer s H vs Q E hr h => ?_)
  obtain ⟨hl, G, H0, x, c, dx, ws, us, ns, es, ds, rfl, hm, gh, hH, h0, ho, hlu, r, rd, h⟩ := h
  refine ⟨_, hbody cdv A outer s H E hr, Bs.ini G H0 x, .no :: ds.map .fz, x, c, dx, ns, es, us, ?_, rfl, ?_, hm, ho, hlu, ?_, ?_⟩
  · have : L2.start N (V.ref x :: ws) = some (.ref x) :: ws.map some := by
      unfold L2.start
      rw [hN, hl]
      simp
    rw [this]
    exact start_ini gh h0 hH ⟨_, ho⟩ rd
  · rfl
  · refine r.mono fun b o hb => ?_
    have hb0 := gh _ _ hb
    have hbx : b ≠ x := fun z => by
      subst z
      rw [h0] at hb0
      cases hb0
    have noO : ¬ Own (Sl.no :: ds.map Sl.fz) (L2.start N (V.ref x :: ws)) b := fun ⟨i, l, fs, z1, _⟩ => by
      cases i with
      | zero => cases z1
      | succ i =>
        rw [List.getElem?_cons_succ, List.getElem?_map] at z1
        cases e : ds[i]? with
        | none => rw [e] at z1; cases z1
        | some d => rw [e] at z1; cases z1
    rw [ar_some (fun z => z.elim (fun q => hbx q) noO) (by show ¬ H0 b = none; rw [hb0]; simp)]
    exact hb
  · unfold mInit at h
    rw [if_pos (by rw [rd.length]; simpa using hl)] at h
    cases e : m (.no :: ds.map .fz) ns es with
    | ex C => rw [e] at h; exact h.elim
    | bad => rw [e] at h; exact h.elim
    | ok y =>
      obtain ⟨ns', es'⟩ := y
      rw [e] at h
      intro H' us' S' hx' hl' r'
      refine h H' us' S'.bh hx' hl' (r'.mono fun b o hb => ?_)
      have hz : ¬ ((Bs.ini G H0 x).X b ∨ Own (Sl.no :: ds.map Sl.fz) (L2.start N (V.ref x :: ws)) b) := fun z => by
        rw [ar_out z] at hb
        cases hb
      have hz' : ¬ ((Bs.ini G H0 x).X b ∨ Own [] [] b) := fun z => z.elim (fun q => hz (.inl q)) own_nil
      by_cases hn : (Bs.ini G H0 x).H b = none
      · rw [ar_none hz hn] at hb
        rw [ar_none hz' hn]
        exact hb
      · rw [ar_some hz hn] at hb
        rw [ar_some hz' hn]
        exact hb

section
variable {X : Cx} {E : ExE} {W : WX} {pos p q apos : Pos} {a e o : Expr} {mo : EM} {C : String} {es : List Expr} {am : AM}
/-! C(..) -/
structure MakeOk (P : Program) (w : World) (K : PySem.W.Frag) (mg : Str → Option Value) (base : Heap) (b : Bool) (C : String) (k n : Nat) (g : IF) : Prop where
  ex : ∃ (c f : Addr) (fd : FuncData) (ps : List Str), mg (C : Str) = some (.ref c) ∧ Mk K c f ∧ Binds K fd ps [] ∧ FnOk P w K mg base (CXm b P w) k f fd ps (spI K mg C n g)
theorem run_makeS {CX : CXT} {k : Nat} {c f : Addr} {fd : FuncData} {ps : List Str} {sp : Sp} {E : XK} {pins : List (Addr × Obj)} {σ : St} {H : Hp} {s : Shared} {Q : VK} {us : List Value} {vs : List V} (M : Mk X.K c f) (F : FnOk X.prog X.w X.K X.mg X.base CX k f fd ps sp) (hr : Room (k + 1) X.A) (hb : Binds X.K fd ps [])
    (hx : PassesAt CX X σ E) (I : Inv X pins σ H s) (r : Vals vs us)
    (h : ∀ x dx, H x = none → H dx = none → dx ≠ x → sp (.ref x :: vs) (upd (upd H dx (.own x)) x (.ins c dx [])) (fun v H2 => v = .non ∧ Q (.ref x) H2) E) :
    wpAny (model X.prog X.w) X.A (call (.ref c) us) (EP X pins σ Q) X.xe s := by
  have hq := h (s.heap.objs.size + 1) s.heap.objs.size (I.hok.fresh (Nat.le_succ _)) (I.hok.fresh (Nat.le_refl _)) (Nat.ne_of_lt (Nat.lt_succ_self _))
  have I2 := Inv.made (C := c) I
  have r2 : Vals (V.ref (s.heap.objs.size + 1) :: vs) (Value.ref (s.heap.objs.size + 1) :: us) := .cons rfl r
  have hl : (Value.ref (s.heap.objs.size + 1) :: us).length = ps.length := by
    have e := r2.length
    rw [F.len _ _ _ _ hq] at e
    exact e.symm
  have b := hb _ (Value.ref (s.heap.objs.size + 1) :: us) I2.kIn (by rw [List.append_nil]; exact hl)
  rw [List.append_nil] at b
  refine wpAny_call (make_map (f := f) I.kIn M.makes M.init (beq_iff_eq.mp M.fn) (codeAny_mono (F.run _ X.stack _ _ ⟨Value.ref (s.heap.objs.size + 1) :: us, []⟩ (Value.ref (s.heap.objs.size + 1) :: us) _ _ E (hr.make c us [])
    (I2.env0.make c us []) b r2 hq) fun r s' hq' => ?_))
  cases r with
  | error e => exact hx pins _ _ e s' I2 hq'
  | ok fl =>
    cases fl with
    | ret u =>
      obtain ⟨v, H', I3, rv, ev, q3⟩ := I2.after hq'
      subst ev
      exact ⟨rv, ⟨V.ref (s.heap.objs.size + 1), H', I3, rfl, q3⟩⟩
    | next => exact False.elim hq'
    | brk => exact False.elim hq'
    | cont => exact False.elim hq'
theorem pm_make {b : Bool} {k k' n : Nat} {g : IF} (M : MakeOk X.prog X.w X.K X.mg X.base b C k n g) (tk : Tks b X W) (hr : Room k' X.A) (ha : PMA X E W (e :: es) am) (hn : AMn am n) (hk : k + 1 ≤ k' := by decide) (hg : Gl X (C : Str) := by rfl) (hdb : ((C : Str) == ("__debug__" : Str)) = false := by decide)
    (he : starEach (e :: es) X.env = (false, eval e X.env) :: starEach es X.env := by rfl) (hpl : (backTo pos (starEach es X.env)).any (·.1) = false := by rfl) :
    PM X E W (.Call (.Name (C : Str) p) (e :: es) [] pos) (mMake C g am) := by
  obtain ⟨c, f, fd, ps, hm, Mk, hb, F⟩ := M.ex
  refine ⟨fun pins s σ H Q I h => ?_⟩
  refine wpAny_Call_Name_kw (ld_glob I hg hm ?_ hdb)
  obtain ⟨B, ρ, S, h⟩ := h
  have hta : tA X.K X.mg E W am σ H fun vs H1 => ∀ x dx, H1 x = none → H1 dx = none → dx ≠ x → spI X.K X.mg C n g (.ref x :: vs) (upd (upd H1 dx (.own x)) x (.ins c dx [])) (fun v H2 => v = .non ∧ Q (.ref x) H2) (WE W σ) := by
    refine ⟨B, ρ, S, ?_⟩
    replace h := h.gg
    unfold mMake at h
    cases ea : am ρ with
    | ex C => rw [ea] at h; exact h
    | bad => rw [ea] at h; exact h
    | ok xs =>
      rw [ea] at h
      intro ws H1 s1 rs x dx hx hdx hne
      rw [Res.bind_ok] at h
      unfold kept at h
      by_cases hf : xs.all (fun x => x.2.free || x.1.sc) = true
      · rw [if_pos hf, Res.bind_ok] at h
        have S1 := S.mono s1
        have rk := rs.keep S s1 (fun y hy => by have := List.all_eq_true.mp hf y hy; simpa using this)
        have sU : Same H1 (upd (upd H1 dx (.own x)) x (.ins c dx [])) := (Same.upd hdx).trans (Same.upd (by rw [upd_ne (fun z => hne z.symm)]; exact hx))
        refine ⟨by rw [List.length_cons, ← rs.len, hn ρ xs ea], ar B ρ σ H1, H1, x, c, dx, ws, [], [], [], xs.map (·.1), rfl, hm, S1.sub, sU, hx, upd_same, rfl, .nil, rk, ?_⟩
        cases eg : g (xs.map (·.1)) [] [] with
        | ex C => rw [eg] at h; exact h.elim
        | bad => rw [eg] at h; exact h.elim
        | ok y =>
          obtain ⟨ns', es'⟩ := y
          rw [eg] at h
          intro H' us' s' hx' hl' r'
          refine ⟨rfl, ?_⟩
          have sH : Same H H' := s1.trans s'
          refine h (.ref x) H' sH ⟨x, _, .ins C ns', es', us', rfl, rfl, s1.free hx, hx', ?_, ?_⟩
          · exact ⟨c, dx, hm, hl', rfl⟩
          · refine r'.mono fun b o hb => ?_
            have hz : ¬ ((Bs.ini (ar B ρ σ H1) H1 x).X b ∨ Own [] [] b) := fun z => by
              rw [ar_out z] at hb
              cases hb
            have hbx : b ≠ x := fun z => hz (.inl z)
            by_cases hn1 : H1 b = none
            · have hn0 : (Bs.ini (ar B ρ σ H1) H1 x).H b = none := hn1
              rw [ar_none hz hn0] at hb
              have hnB : ¬ ((B.add x).X b ∨ Own ρ σ b) := fun z => by
                rcases z with (z | z) | z
                · exact hbx z
                · obtain ⟨o', q⟩ := S1.xt b z
                  rw [hn1] at q; cases q
                · obtain ⟨o', q⟩ := S1.there z
                  rw [hn1] at q; cases q
              have hBH : (B.add x).H b = none := by
                show B.H b = none
                cases eb : B.H b with
                | none => rfl
                | some o' =>
                  have := S1.bh _ _ eb
                  rw [hn1] at this; cases this
              rw [ar_none hnB hBH]
              exact hb
            · have hn0 : ¬ (Bs.ini (ar B ρ σ H1) H1 x).H b = none := hn1
              rw [ar_some hz hn0] at hb
              have hb' : ar B ρ σ H1 b = some o := hb
              have hnB : ¬ (B.X b ∨ Own ρ σ b) := fun z => by
                rw [ar_out z] at hb'
                cases hb'
              have hnB' : ¬ ((B.add x).X b ∨ Own ρ σ b) := fun z => by
                rcases z with (z | z) | z
                · exact hbx z
                · exact hnB (.inl z)
                · exact hnB (.inr z)
              by_cases hBH : B.H b = none
              · rw [ar_none hnB hBH] at hb'
                rw [ar_none hnB' hBH]
                exact s' _ _ hb'
              · rw [ar_some hnB hBH] at hb'
                rw [ar_some hnB' hBH]
                exact hb'
      · rw [if_neg hf] at h
        exact h.elim
  refine PySem.W.callWith_K (h₀ := X.base) I.ok.mod.kin Mk.kp (thn (ha.run pos pins s σ H _ I hta) fun us s1 ⟨vs, H1, I1, r, q⟩ => ⟨I1.kIn, ?_⟩) he hpl
  exact run_makeS Mk F (hr.mono hk) hb (tk.pass σ) I1 r q
/-! o.m(..) -/
theorem pm_meth {b : Bool} {k k' n : Nat} {m : String} {tbl : List (String × FM)} {pl : Sem Bool} (hne : ∀ C g, tbl.lookup C = some g → MethOk X.prog X.w X.K X.mg X.base b C m k (n + 1) g) (tk : Tks b X W) (hr : Room k' X.A) (ho : PM X E W o mo) (ha : PMA X E W (e :: es) am) (hn : AMn am n) (hk : k ≤ k' := by decide)
    (hst : starEach (e :: es) X.env = (false, eval e X.env) :: starEach es X.env := by rfl) (hpl : (backTo pos (starEach es X.env)).any (·.1) = false := by rfl)
    (ht : eval (.Call (.Attribute o (m : Str) apos) (e :: es) [] pos) X.env = (do
      let ov ← eval o X.env
      standAt apos.atName
      let (f, first) ← holding [ov] (getMethod ov (m : Str) pl)
      callWith pos f first (backTo pos (starEach (e :: es) X.env)) (backToKw pos (keywordEach [] X.env))) := by rfl) :
    PM X E W (.Call (.Attribute o (m : Str) apos) (e :: es) [] pos) (mMeth tbl m mo am) := by
  refine ⟨fun pins s σ H Q I h => ?_⟩
  obtain ⟨C, g, c, el, hm, hq⟩ := meth_read (t := tA X.K X.mg E W am) hne hn (fun _ _ _ h => h) h
  obtain ⟨c', f, fd, ps, hm', cl, mt, hb, F⟩ := (hne C g el).ex
  rw [hm] at hm'
  cases hm'
  exact (pe_methSD (E := WE W) ho cl mt F (hr.mono hk) hb tk.pass ha hst hpl ht).run pins s σ H Q I hq
theorem pm_meth0 {b : Bool} {k k' : Nat} {m : String} {tbl : List (String × FM)} {pl : Sem Bool} (hne : ∀ C g, tbl.lookup C = some g → MethOk X.prog X.w X.K X.mg X.base b C m k 1 g) (tk : Tks b X W) (hr : Room k' X.A) (ho : PM X E W o mo) (hk : k ≤ k' := by decide)
    (ht : eval (.Call (.Attribute o (m : Str) apos) [] [] pos) X.env = (do
      let ov ← eval o X.env
      standAt apos.atName
      let (f, first) ← holding [ov] (getMethod ov (m : Str) pl)
      callWith pos f first (backTo pos (starEach [] X.env)) (backToKw pos (keywordEach [] X.env))) := by rfl) :
    PM X E W (.Call (.Attribute o (m : Str) apos) [] [] pos) (mMeth tbl m mo amNil) := by
  refine ⟨fun pins s σ H Q I h => ?_⟩
  obtain ⟨C, g, c, el, hm, hq⟩ := meth_read (t := tNil) hne amn_nil (fun σ H R ⟨B, ρ, S, h⟩ => h [] H (Same.refl H) .nil) h
  obtain ⟨c', f, fd, ps, hm', cl, mt, hb, F⟩ := (hne C g el).ex
  rw [hm] at hm'
  cases hm'
  exact (pe_methSD0 (E := WE W) ho cl mt F (hr.mono hk) hb tk.pass ht).run pins s σ H Q I hq
/-! f() -/
theorem pm_def0 {b : Bool} {k k' : Nat} {g : FM} {x : Str} (G : DefOk X.prog X.w X.K X.mg X.base b x k 0 g) (tk : Tks b X W) (hr : Room k' X.A) (hk : k ≤ k' := by decide) (hg : Gl X x := by rfl) (hdb : (x == ("__debug__" : Str)) = false := by decide) :
    PM X E W (.Call (.Name x p) [] [] pos) (mCall g amNil) := by
  obtain ⟨f, fd, ps, hm, hkp, hb, F⟩ := G.ex
  refine ⟨fun pins s σ H Q I ⟨B, ρ, S, h⟩ => ?_⟩
  refine wpAny_Call_Name_kw (ld_glob I hg hm ?_ hdb)
  refine PySem.W.callWith_K0 I.kIn hkp (run_fnS (us := []) (vs := []) F (hr.mono hk) hb (tk.pass σ) I .nil ?_)
  exact call_read S (Same.refl H) S .nil rfl (fun C H' _ w => w) h.gg

/-! a, b, c = x, y, z -/
theorem psm_par3 (i j l : Nat) {x y z : Str} {am : AM} {c d e : Expr} {px py pz pt : Pos} {kt k2 pt2} (hN : X.N.Nodup) (ha : PMA X E W [c, d, e] am) (hi : X.N[i]? = some x := by rfl) (hj : X.N[j]? = some y := by rfl) (hl : X.N[l]? = some z := by rfl) (hij : i ≠ j := by decide) (hil : i ≠ l := by decide) (hjl : j ≠ l := by decide) (hc : X.calm = true := by rfl)
    (hx : X.env.scope.names.lookup x = some .local := by rfl) (hy : X.env.scope.names.lookup y = some .local := by rfl) (hz : X.env.scope.names.lookup z = some .local := by rfl)
    (hw : swappedStores [.Tuple [.Name x px, .Name y py, .Name z pz] kt pt] (.Tuple [c, d, e] k2 pt2) X.env = pure (some [x, y, z]) := by rfl)
    (hs : swapsWithSole [.Tuple [.Name x px, .Name y py, .Name z pz] kt pt] (.Tuple [c, d, e] k2 pt2) pos.line X.env = pure false := by rfl) :
    PSM X E W (.Assign [.Tuple [.Name x px, .Name y py, .Name z pz] kt pt] (.Tuple [c, d, e] k2 pt2) pos) (smPar [i, j, l] am) :=
  PS.imp (ps_par3 hc hN hi hj hl hij hil hjl hx hy hz ha hw hs) fun D σ H ⟨B, ρ, S, h⟩ => GS.bindA S h fun xs vs H1 rs e1 S1 h1 => by
    cases ek : kept xs with
    | ok ds =>
      rw [ek] at h1
      obtain ⟨h0, hk⟩ := kept_ok ek
      subst h0
      have r := rs.keep S e1 hk
      have h2 : GS X.K X.mg E W B D ((putAll [i, j, l] (xs.map (·.1)) ρ).bind fun ρ' => .ok (.nx ρ')) := h1
      cases e : putAll [i, j, l] (xs.map (·.1)) ρ with
      | ok ρ' =>
        rw [e] at h2
        obtain ⟨q1, q2⟩ := putAll_ok S1 r e
        match vs, q1, q2 with
        | [v, w, u], _, q2 => exact ⟨v, w, u, rfl, h2 _ H1 q2⟩
      | ex C => rw [e] at h2; exact h2.elim
      | bad => rw [e] at h2; exact h2.elim
    | ex C => rw [ek] at h1; exact h1.elim
    | bad => rw [ek] at h1; exact h1.elim
/-! xs.index(s) -/
theorem isS_rep {K : PySem.W.Frag} {mg : Str → Option Value} {G : Hp} (s : List Nat) : ∀ {ds : List Dm.D} {ys : List V}, Reps K mg G ds ys → ds.all D.isS = true → ys.all flatV = true ∧ ∀ (j : Nat) (d : Dm.D) (z : V), ds[j]? = some d → ys[j]? = some z → eqV z (.str ⟨s.toArray⟩) = D.eqv d (.str s)
  | _, _, .nil, _ => ⟨rfl, fun j d z h _ => by simp at h⟩
  | d :: ds, _, .cons r rs, h => by
    rw [List.all_cons, Bool.and_eq_true] at h
    obtain ⟨q1, q2⟩ := isS_rep s rs h.2
    cases r <;> first | (cases h.1; done) | skip
    case str t =>
      refine ⟨by rw [List.all_cons, q1]; rfl, fun j d z h1 h2 => ?_⟩
      cases j with
      | zero =>
        cases h1
        cases h2
        show ((⟨t.toArray⟩ : Str) == ⟨s.toArray⟩) = (t == s)
        rw [Bool.eq_iff_iff, beq_iff_eq, beq_iff_eq]
        simp
      | succ j => exact q2 j d z h1 h2
theorem pm_idx {a b : Expr} {ma mb : EM} (ha : PM X E W a ma) (hb : PM X E W b mb) (hbase : attributeBase a "index" X.env (eval a X.env) = eval a X.env := by rfl)
    (hfew : ((backTo pos (starEach [b] X.env)).all (fun x => !x.1) && (backToKw pos (keywordEach [] X.env)).all (fun x => x.1.isSome) && decide ([b].length + ([] : List Keyword).length + (if ([] : List Keyword).isEmpty then 0 else 1) < 30)) = true := by rfl)
    (hline : (apos.endLine == pos.line) = true := by rfl) (hs1 : starEach [b] X.env = (false, eval b X.env) :: starEach [] X.env := by rfl) (hplain : (backTo pos (starEach [] X.env)).any (·.1) = false := by rfl) :
    PM X E W (.Call (.Attribute a "index" apos) [b] [] pos) (mIdx ma mb) :=
  PE.imp (pe_bm PySem.F.plainAttrs_list PySem.F.slot_list_index PySem.F.type_list_index mt_index ha (pa_cons hb pa_nil hs1) hbase hfew hline hs1 hplain) fun σ H Q ⟨B, ρ, S, h⟩ => GM.bind S h fun x tx vx H1 rx e1 S1 h1 => by
    have rpx := rx.rp S1
    cases rpx <;> first | exact False.elim h1 | skip
    case lst p ds ys hv r =>
      refine ⟨.inl ⟨rfl, ys, .of hv⟩, GM.bind S1 h1 fun y ty vy H2 ry e2 S2 h2 => ?_⟩
      have rpy := ry.rp S2
      cases rpy <;> first | exact h2.elim | skip
      case str s =>
        replace h2 : GM X.K X.mg W B ρ σ H2 (if ds.all D.isS && decide (ds.length ≤ lim) then (match ds.findIdx? fun d => D.eqv d (.str s) with | some j => .ok (.int j, .cl) | none => .bad) else .bad) Q := h2
        by_cases hc : (ds.all D.isS && decide (ds.length ≤ lim)) = true
        · rw [if_pos hc] at h2
          rw [Bool.and_eq_true] at hc
          obtain ⟨q1, q2⟩ := isS_rep s r hc.1
          cases ef : ds.findIdx? (fun d => D.eqv d (.str s)) with
          | none => rw [ef] at h2; exact h2.elim
          | some j =>
            rw [ef] at h2
            obtain ⟨hj, hj1, hj2⟩ := List.findIdx?_eq_some_iff_getElem.mp ef
            obtain ⟨z, z1, _⟩ := r.get (List.getElem?_eq_getElem hj)
            refine ⟨p, ys, _, j, z, rfl, rfl, .of (e2 _ _ hv), rfl, q1, z1, ?_, fun m z' hm hz' => ?_, GM.sc (d := .int _) h2 (.int _)⟩
            · rw [q2 j _ z (List.getElem?_eq_getElem hj) z1]
              exact hj1
            · have hml : m < ds.length := by omega
              rw [q2 m _ z' (List.getElem?_eq_getElem hml) hz']
              have := hj2 m hm
              simpa using this
        · rw [if_neg hc] at h2
          exact h2.elim

end
theorem binds_all {K : PySem.W.Frag} {fd : FuncData} {T : Addr} {its : List Value} {m : Nat} {cls : Value} {od : Option Addr} {sl : Array (Option Value)} {ps : List Str} (lT : K.lookup T = some ⟨cls, od, .seq its.toArray m, sl⟩)
    (h : ∀ us : List Value, us.length = ps.length → ∃ k : Option (Array Value) → Sem (List (Str × Value)), bindArgs fd ⟨us, []⟩ = seqItems? (.ref T) >>= k ∧ k (some its.toArray) = pure (ps.zip us)) : Binds K fd ps [] := fun s us X hlen => by
  rw [List.append_nil] at hlen ⊢
  obtain ⟨k, e1, e2⟩ := h us hlen
  refine BindsTo.of_looks fun M => ?_
  rw [e1]
  exact looks_items X lT rfl (.of_pure e2)
theorem fnlift {P : Program} {w : World} {K : PySem.W.Frag} {mg : Str → Option Value} {base : Heap} {CX : CXT} {k k' : Nat} {f : Addr} {fd : FuncData} {ps : List Str} {sp : Sp} (F : FnOk P w K mg base CX k f fd ps sp) (h : k ≤ k') : FnOk P w K mg base CX k' f fd ps sp :=
  ⟨F.len, fun A outer s H args us vs Q E hr e0 hb r hsp => F.run A outer s H args us vs Q E (hr.mono h) e0 hb r hsp⟩
theorem MethOk.lift {P : Program} {w : World} {K : PySem.W.Frag} {mg : Str → Option Value} {base : Heap} {b : Bool} {C m : String} {k k' n : Nat} {g : FM} (M : MethOk P w K mg base b C m k n g) (h : k ≤ k' := by decide) : MethOk P w K mg base b C m k' n g := by
  obtain ⟨c, f, fd, ps, hm, cl, mt, hb, F⟩ := M.ex
  exact ⟨c, f, fd, ps, hm, cl, mt, hb, fnlift F h⟩
abbrev MTab (P : Program) (w : World) (K : PySem.W.Frag) (mg : Str → Option Value) (base : Heap) (b : Bool) (m : String) (k n : Nat) (tbl : List (String × FM)) : Prop := ∀ C g, tbl.lookup C = some g → MethOk P w K mg base b C m k n g
theorem mtab_nil {P : Program} {w : World} {K : PySem.W.Frag} {mg : Str → Option Value} {base : Heap} {b : Bool} {m : String} {k n : Nat} : MTab P w K mg base b m k n [] := fun C g h => by cases h
theorem mtab_cons {P : Program} {w : World} {K : PySem.W.Frag} {mg : Str → Option Value} {base : Heap} {b : Bool} {m C : String} {k k' n : Nat} {g : FM} {tbl : List (String × FM)} (M : MethOk P w K mg base b C m k' n g) (r : MTab P w K mg base b m k n tbl) (h : k' ≤ k := by decide) : MTab P w K mg base b m k n ((C, g) :: tbl) := fun C' g' e => by
  rw [List.lookup_cons] at e
  by_cases hC : C' = C
  · subst hC
    simp at e
    subst e
    exact M.lift h
  · have : (C' == C) = false := by rw [beq_eq_false_iff_ne]; exact hC
    rw [this] at e
    exact r C' g' e
theorem cls_nil {K : PySem.W.Frag} {mg : Str → Option Value} {f : String} : ∀ C ∈ ([] : List String), ClsA K mg f C := fun C h => by cases h
theorem cls_cons {K : PySem.W.Frag} {mg : Str → Option Value} {f C : String} {Cs : List String} (a : ClsA K mg f C) (r : ∀ C ∈ Cs, ClsA K mg f C) : ∀ D ∈ C :: Cs, ClsA K mg f D := fun D h => by
  rcases List.mem_cons.mp h with e | e
  · exact e ▸ a
  · exact r D e
theorem psm_frz {X : Cx} {E : ExE} {W : WX} {sts : List Stmt} {m : SM} (i : Nat) (h : PSsM X E W sts m) : PSsM X E W sts (smFrz i m) :=
  PSs.imp h fun D σ H ⟨B, ρ, S, h⟩ => ⟨B, frz i ρ, S.frz i, h⟩
end Dm
end

section
set_option Elab.async false
set_option linter.all false
set_option maxRecDepth 100000
set_option maxHeartbeats 4000000
/-! Dm: startswith, endswith, join. -/
namespace Dm
open PySem PySem.Spec L2 TL
theorem starts_eq (s t : List Nat) : Txt.startswith ⟨s.toArray⟩ ⟨t.toArray⟩ = (s.take t.length == t) := by
  unfold Txt.startswith
  rw [PySem.StrLaws.subAt_eq]
  show (decide (0 + t.length ≤ s.length) && ((s.drop 0).take t.length == t)) = _
  rw [List.drop_zero]
  by_cases h : (s.take t.length == t) = true
  · rw [h, Bool.and_true, decide_eq_true_eq]
    have := congrArg List.length (beq_iff_eq.mp h)
    rw [List.length_take] at this
    omega
  · rw [Bool.not_eq_true] at h
    rw [h, Bool.and_false]
theorem ends_eq (s t : List Nat) : Txt.endswith ⟨s.toArray⟩ ⟨t.toArray⟩ = (decide (t.length ≤ s.length) && (s.drop (s.length - t.length) == t)) := by
  unfold Txt.endswith
  rw [PySem.StrLaws.subAt_eq]
  show (decide (0 + t.length ≤ s.length) && ((s.drop (s.length - t.length)).take t.length == t)) = _
  by_cases h : t.length ≤ s.length
  · rw [List.take_of_length_le (by rw [List.length_drop]; omega), Nat.zero_add]
  · rw [decide_eq_false h, decide_eq_false (by omega)]
    rfl
theorem join0_fold : ∀ (ys : List Str) (acc : Array Nat), (ys.foldl (fun acc p => acc ++ (⟨#[]⟩ : Str).cps ++ p.cps) acc).toList = acc.toList ++ (ys.map fun y => y.cps.toList).flatten
  | [], acc => by simp
  | y :: ys, acc => by
    rw [List.foldl_cons, join0_fold ys]
    simp
theorem join0_eq (ys : List Str) : Txt.join ⟨#[]⟩ ys = ⟨((ys.map fun y => y.cps.toList).flatten).toArray⟩ := by
  cases ys with
  | nil => rfl
  | cons y ys =>
    show (⟨ys.foldl (fun acc p => acc ++ (⟨#[]⟩ : Str).cps ++ p.cps) y.cps⟩ : Str) = _
    have h := join0_fold ys y.cps
    generalize ys.foldl (fun acc p => acc ++ (⟨#[]⟩ : Str).cps ++ p.cps) y.cps = a at *
    obtain ⟨l⟩ := a
    have h' : l = y.cps.toList ++ (ys.map fun y => y.cps.toList).flatten := h
    rw [h', List.map_cons, List.flatten_cons]
theorem strs_rep {K : PySem.W.Frag} {mg : Str → Option Value} {G : Hp} : ∀ {ds : List Dm.D} {ys : List V} {ts : List (List Nat)}, Reps K mg G ds ys → strsOf ds = some ts → ys = (ts.map fun t => (⟨t.toArray⟩ : Str)).map V.str
  | [], _, ts, .nil, h => by
    cases h
    rfl
  | d :: ds, _, ts, .cons r rs, h => by
    cases r <;> first | (cases h; done) | skip
    case str s =>
      cases e : strsOf ds with
      | none => simp [strsOf, e] at h
      | some us =>
        have hn : ts = s :: us := by simpa [strsOf, e] using h.symm
        subst hn
        rw [strs_rep rs e]
        rfl
section
variable {X : Cx} {E : ExE} {W : WX} {pos apos : Pos} {a b : Expr} {ma mb : EM}
theorem pm_starts (ha : PM X E W a ma) (hb : PM X E W b mb) (hs : starEach [b] X.env = [(false, eval b X.env)] := by rfl) (hbase : attributeBase a "startswith" X.env (eval a X.env) = eval a X.env := by rfl) (hline : (apos.endLine == pos.line) = true := by rfl) :
    PM X E W (.Call (.Attribute a "startswith" apos) [b] [] pos) (mS1 fStarts ma mb) :=
  pm_s1 PySem.F.slot_str_startswith PySem.F.type_str_startswith mt_startswith (fun B ρ σ H s y vy Q S ry h => by
    cases ry <;> first | exact False.elim h | skip
    case str t =>
      refine ⟨_, _, rfl, rfl, ?_⟩
      rw [starts_eq]
      exact GM.sc (d := .bl _) h (.bl _)) ha hb hs hbase hline
theorem pm_ends (ha : PM X E W a ma) (hb : PM X E W b mb) (hs : starEach [b] X.env = [(false, eval b X.env)] := by rfl) (hbase : attributeBase a "endswith" X.env (eval a X.env) = eval a X.env := by rfl) (hline : (apos.endLine == pos.line) = true := by rfl) :
    PM X E W (.Call (.Attribute a "endswith" apos) [b] [] pos) (mS1 fEnds ma mb) :=
  pm_s1 PySem.F.slot_str_endswith PySem.F.type_str_endswith mt_endswith (fun B ρ σ H s y vy Q S ry h => by
    cases ry <;> first | exact False.elim h | skip
    case str t =>
      refine ⟨_, _, rfl, rfl, ?_⟩
      rw [ends_eq]
      exact GM.sc (d := .bl _) h (.bl _)) ha hb hs hbase hline
theorem pm_join (ha : PM X E W a ma) (hb : PM X E W b mb) (hs : starEach [b] X.env = [(false, eval b X.env)] := by rfl) (hbase : attributeBase a "join" X.env (eval a X.env) = eval a X.env := by rfl) (hline : (apos.endLine == pos.line) = true := by rfl) :
    PM X E W (.Call (.Attribute a "join" apos) [b] [] pos) (mS1 fJoin ma mb) :=
  pm_s1 PySem.F.slot_str_join PySem.F.type_str_join mt_join (fun B ρ σ H s y vy Q S ry h => by
    match s, h with
    | _ :: _, h => exact False.elim h
    | [], h =>
      have key : ∀ {p : Addr} {ds : List Dm.D} {ys : List V}, (SqL X.K H p ys ∨ SqT X.K H p ys) → Reps X.K X.mg (ar B ρ σ H) ds ys → GM X.K X.mg W B ρ σ H (match strsOf ds with | some ts => if ts.flatten.length ≤ lim then sOk (.str ts.flatten) else .bad | none => .bad) Q →
          ∃ a p', ∃ zs : List Str, V.str ⟨([] : List Nat).toArray⟩ = .str a ∧ [V.ref p] = [.ref p'] ∧ (SqL X.K H p' (zs.map V.str) ∨ SqT X.K H p' (zs.map V.str)) ∧ (zs.map (·.length)).sum + zs.length * a.length ≤ 16777216 ∧ Q (.str (Txt.join a zs)) H := by
        intro p ds ys hx rr h3
        cases e : strsOf ds with
        | none => rw [e] at h3; exact h3.elim
        | some ts =>
          rw [e] at h3
          have hy := strs_rep rr e
          subst hy
          have h4 : GM X.K X.mg W B ρ σ H (if ts.flatten.length ≤ lim then sOk (.str ts.flatten) else .bad) Q := h3
          by_cases hl : ts.flatten.length ≤ lim
          · rw [if_pos hl] at h4
            refine ⟨⟨#[]⟩, p, ts.map fun t => ⟨t.toArray⟩, rfl, rfl, hx, ?_, ?_⟩
            · have : ((ts.map fun t => (⟨t.toArray⟩ : Str)).map (·.length)).sum = ts.flatten.length := by
                rw [List.map_map, List.length_flatten]
                rfl
              rw [this]
              have := lim_def
              show ts.flatten.length + _ * 0 ≤ 16777216
              omega
            · rw [join0_eq, List.map_map]
              have : (ts.map ((fun y : Str => y.cps.toList) ∘ fun t => (⟨t.toArray⟩ : Str))) = ts := by
                rw [show ((fun y : Str => y.cps.toList) ∘ fun t : List Nat => (⟨t.toArray⟩ : Str)) = id from rfl, List.map_id]
              rw [this]
              exact GM.sc (d := .str _) h4 (.str _)
          · rw [if_neg hl] at h4
            exact h4.elim
      cases ry <;> first | exact False.elim h | skip
      case lst hx rr _ => exact key (.inl (.of hx)) rr h
      case rol hx rr _ => exact key (.inl hx) rr h
      case tup hx rr _ => exact key (.inr (same_tup S.sub hx)) rr h) ha hb hs hbase hline
end
end Dm
end

section
set_option Elab.async false
set_option linter.all false
set_option maxRecDepth 100000
set_option maxHeartbeats 4000000
/-! Dm: text[a::k]. -/
namespace Dm
open PySem PySem.Spec L2 TL
theorem all_get (s : List Nat) : (List.range s.length).filterMap (fun j => s[j]?) = s := by
  have h := PySem.W.krv_all s.toArray
  simpa using h
theorem step_cps (s : List Nat) (a k : Nat) (hk : 0 < k) (t u : Tok) : Txt.sliceBy (⟨s.toArray⟩ : Str) (some ((a : Int), t)) none ((k : Int), u) = (⟨(stepL s a k).toArray⟩ : Str) := by
  have e1 : PySem.Builtin.Str.strSliceIndices (some (a : Int)) none (k : Int) s.length = (List.range ((s.length - min a s.length + k - 1) / k)).map fun j => min a s.length + k * j := by
    unfold PySem.Builtin.Str.strSliceIndices sliceRange
    have hp : (k : Int) > 0 := by omega
    have hn : ¬ (a : Int) < 0 := by omega
    simp only [hp, hn, if_true, if_false]
    have hm : max 0 (min (a : Int) (s.length : Int)) = ((min a s.length : Nat) : Int) := by omega
    rw [hm]
    have hc : (if ((min a s.length : Nat) : Int) < (s.length : Int) then ((s.length : Int) - ((min a s.length : Nat) : Int) + (k : Int) - 1) / (k : Int) else 0).toNat = (s.length - min a s.length + k - 1) / k := by
      by_cases h : min a s.length < s.length
      · rw [if_pos (by omega)]
        have : (s.length : Int) - ((min a s.length : Nat) : Int) + (k : Int) - 1 = ((s.length - min a s.length + k - 1 : Nat) : Int) := by omega
        rw [this, ← Int.natCast_ediv, Int.toNat_natCast]
      · rw [if_neg (by omega)]
        have : s.length - min a s.length = 0 := by omega
        rw [this, Nat.zero_add, Nat.div_eq_of_lt (by omega)]
        rfl
    rw [hc]
    apply List.map_congr_left
    intro j _
    have : ((min a s.length : Nat) : Int) + (k : Int) * (j : Int) = ((min a s.length + k * j : Nat) : Int) := by simp
    rw [this, Int.toNat_natCast]
  have e2 : ((List.range ((s.length - min a s.length + k - 1) / k)).map fun j => min a s.length + k * j).filterMap (fun j => s[j]?) = stepL s a k := by
    unfold stepL
    rw [List.filterMap_map]
    by_cases h : a ≤ s.length
    · rw [Nat.min_eq_left h]
      rfl
    · have h1 : s.length - min a s.length = 0 := by omega
      have h2 : s.length - a = 0 := by omega
      rw [h1, h2, Nat.zero_add, Nat.div_eq_of_lt (by omega)]
      rfl
  have e3 : slicePicked (⟨s.toArray⟩ : Str) (some ((a : Int), t)) none (some ((k : Int), u)) = (List.range ((s.length - min a s.length + k - 1) / k)).map fun j => min a s.length + k * j := e1
  have e4 : (slicePicked (⟨s.toArray⟩ : Str) (some ((a : Int), t)) none (some ((k : Int), u))).filterMap ((⟨s.toArray⟩ : Str).cps[·]?) = stepL s a k := by
    rw [e3, ← e2]
    congr 1
    funext j
    simp
  unfold Txt.sliceBy
  split
  · rename_i h
    rw [Bool.and_eq_true, beq_iff_eq, beq_iff_eq] at h
    obtain ⟨h1, h2⟩ := h
    have hk1 : k = 1 := by
      have : (k : Int) = 1 := h1
      omega
    subst hk1
    rw [e3, List.length_map, List.length_range] at h2
    have h2' : (s.length - min a s.length + 1 - 1) / 1 = s.length := h2
    rw [Nat.div_one] at h2'
    have : stepL s a 1 = s := by
      rw [← e2]
      have hm : min a s.length = 0 := by omega
      rw [hm]
      simp only [Nat.sub_zero, Nat.add_sub_cancel, Nat.div_one, Nat.zero_add, Nat.one_mul, List.map_id']
      exact all_get s
    rw [this]
  · rw [e4]
def tStep (te tl tk : TE) : TE := fun σ H Q => te σ H fun x H1 => tPart tl σ H1 fun o H2 => tPart tk σ H2 fun p H3 => ∃ (s : List Nat) (a k : Nat), x = .str ⟨s.toArray⟩ ∧ o = some (a : Int) ∧ p = some (k : Int) ∧ 0 < k ∧ s.length ≤ sizeLine ∧ Q (.str ⟨(stepL s a k).toArray⟩) H3
section
variable {X : Cx} {E : ExE} {W : WX} {e a b : Expr} {me ma mb : EM} {p3 pos : Pos}
theorem pe_step {te tl tk : TE} (he : PE X e te) (ha : PE X a tl) (hb : PE X b tk) : PE X (.Subscript e (.Slice (some a) none (some b) p3) pos) (tStep te tl tk) := by
  refine ⟨fun pins s σ H Q I h => ?_⟩
  refine PyProof.Rows.Subscript_ (thn (he.run pins s σ H _ I h) fun v s1 ⟨x, H1, I1, r1, q1⟩ => ?_)
  refine wpAny_Slice (thn ((po_some ha).run pins s1 σ H1 _ I1 q1) fun vl s2 ⟨l, H2, I2, pl, q2⟩ => ?_)
  refine thn (po_none.run pins s2 σ H2 (fun o H3 => o = none ∧ H3 = H2) I2 ⟨rfl, rfl⟩) fun vu s3 ⟨u, H3, I3, pu, eu, e3⟩ => ?_
  subst eu e3
  refine thn ((po_some hb).run pins s3 σ H3 _ I3 q2) fun vs s4 ⟨o, H4, I4, ps, q3⟩ => ?_
  obtain ⟨t, a', k', ex, el, ek, hk0, hl, q⟩ := q3
  subst ex el ek
  obtain ⟨tk', rfl⟩ := r1
  have I5 : Inv X pins σ H4 { s4 with heap := s4.heap.push { cls := .type "slice", data := .fields #[vl, vu, vs] } } := I4.kept (t' := s4.toks) fun b ob q => Heap.get?_push_of_some _ q
  obtain ⟨ta, rfl⟩ : ∃ t, vl = .int (a' : Int) t := by cases pl; exact ⟨_, rfl⟩
  obtain ⟨uk, rfl⟩ : ∃ t, vs = .int (k' : Int) t := by cases ps; exact ⟨_, rfl⟩
  obtain rfl : vu = .none := by cases pu; rfl
  have hk : ((k' : Int) == 0) = false := by
    rw [beq_eq_false_iff_ne]
    omega
  refine PyProof.Rows.tail_any (T := "str") (ops := [.ref s4.heap.objs.size, .str ⟨t.toArray⟩ tk']) (PySem.typeIs_str _ _ _) (PySem.F.slot_str_getitem.lookup) (PySem.wpAny_getItem_str_slice (l := some ((a' : Int), ta)) (u := none) (st := some ((k' : Int), uk)) ⟨_, Heap.get?_push_size _ rfl, rfl, rfl⟩ hk
    (PySem.post_val_or_str ⟨Nat.le_trans (Txt.sliceBy_le (⟨t.toArray⟩ : Str) (some ((a' : Int), ta)) none ((k' : Int), uk) (by simpa using hk)) hl, fun t' c => ?_⟩)) (by with_unfolding_all rfl)
  refine ⟨.str ⟨(stepL t a' k').toArray⟩, H4, I5.tok _, ?_, q⟩
  exact ⟨t', congrArg (Value.str · t') (step_cps t a' k' hk0 ta uk)⟩

theorem pm_step (he : PM X E W e me) (ha : PM X E W a ma) (hb : PM X E W b mb) : PM X E W (.Subscript e (.Slice (some a) none (some b) p3) pos) (mStep me ma mb) :=
  PE.imp (pe_step he ha hb) fun σ H Q ⟨B, ρ, S, h⟩ => GM.bind S h fun x tx vx H1 rx e1 S1 h1 => by
    have rpx := rx.rp S1
    cases rpx <;> first | exact False.elim h1 | skip
    case str s =>
      refine GM.bind S1 h1 fun y ty vy H2 ry e2 S2 h2 => ?_
      have rpy := ry.rp S2
      cases rpy <;> first | exact False.elim h2 | skip
      case int i =>
        refine ⟨i, rfl, GM.bind S2 h2 fun z tz vz H3 rz e3 S3 h3 => ?_⟩
        have rpz := rz.rp S3
        cases rpz <;> first | exact False.elim h3 | skip
        case int k =>
          have h4 : GM X.K X.mg W B ρ σ H3 (if decide (s.length ≤ lim) && decide (0 ≤ i) && decide (0 < k) then .ok (.str (stepL s i.toNat k.toNat), .cl) else .bad) Q := h3
          by_cases hc : (decide (s.length ≤ lim) && decide (0 ≤ i) && decide (0 < k)) = true
          · rw [if_pos hc] at h4
            rw [Bool.and_eq_true, Bool.and_eq_true, decide_eq_true_eq, decide_eq_true_eq, decide_eq_true_eq] at hc
            obtain ⟨⟨c1, c2⟩, c3⟩ := hc
            refine ⟨k, rfl, s, i.toNat, k.toNat, rfl, by rw [Int.toNat_of_nonneg c2], by rw [Int.toNat_of_nonneg (by omega)], by omega, Nat.le_trans c1 lim_le, GM.sc (d := .str _) h4 (.str _)⟩
          · rw [if_neg hc] at h4
            exact h4.elim
end
end Dm
end

section
set_option Elab.async false
set_option linter.all false
set_option maxRecDepth 100000
set_option maxHeartbeats 4000000
/-! Dm: isinstance of own classes; ranges by steps; x[i] = e; objects made with a list of one's own. -/
namespace Dm
open PySem PySem.Spec L2 TL
/-- isinstance asks the own class D rightly of the built-in kinds, and of the own classes U -/
structure IsOk (K : PySem.W.Frag) (mg : Str → Option Value) (D : String) (U cs : List String) : Prop where
  n : ClsN mg D
  ty : ∀ t ∈ ["NoneType", "bool", "int", "str", "tuple", "list", "dict"], PySem.W.kitOne K (.type t) (clsV mg D) = some false
  ow : ∀ C ∈ U, ClsI K mg C ∧ PySem.W.kitOne K (clsV mg C) (clsV mg D) = some (cs.contains C)
theorem kit_tyof {K : PySem.W.Frag} {D : Addr} {T : String} {b : Bool} (hd : PySem.W.hasDictIn K D = true) (ty : PySem.W.typeIn K (.ref D) = some (.type "type")) (su : PySem.W.subIn K (.type T) (.ref D) = some b) : PySem.W.kitOne K (.type T) (.ref D) = some b := by
  unfold PySem.W.kitOne
  rw [if_neg (fun h => nomatch (eq_of_beq h : Value.type T = Value.ref D))]
  obtain ⟨cd, hc, _⟩ := PySem.W.any_some hd
  have e2 : ((PySem.W.clsIn K D).isSome && PySem.W.typeIn K (.ref D) == some (.type "type")) = true := by rw [hc, ty] <;> rfl
  show (if ((PySem.W.clsIn K D).isSome && PySem.W.typeIn K (.ref D) == some (.type "type")) = true then PySem.W.subIn K (.type T) (.ref D) else none) = some b
  rw [if_pos e2]
  exact su
section
variable {X : Cx} {E : ExE} {W : WX} {pos p p2 : Pos} {a b c e tg : Expr} {ma mb mc : EM} {es : List Expr} {am : AM}
theorem pm_isC {D : String} {U cs : List String} (hk : IsOk X.K X.mg D U cs) (ha : PM X E W a ma) (hm : X.mg "isinstance" = none) (hg : Gl X "isinstance" := by rfl) (hgD : Gl X (D : Str) := by rfl) (hdD : ((D : Str) == ("__debug__" : Str)) = false := by decide)
    (he : starEach [a, .Name (D : Str) p2] X.env = (false, eval a X.env) :: starEach [.Name (D : Str) p2] X.env := by rfl) (he2 : starEach [.Name (D : Str) p2] X.env = (false, eval (.Name (D : Str) p2) X.env) :: starEach [] X.env := by rfl) (hpl : (backTo pos (starEach [.Name (D : Str) p2] X.env)).any (·.1) = false := by rfl) :
    PM X E W (.Call (.Name "isinstance" p) [a, .Name (D : Str) p2] [] pos) (mIsC U cs ma) :=
  PE.imp (pe_callB call_isi hg hm (by decide +kernel) (pa_cons ha (pa_cons (cl_n hk.n hgD hdD) pa_nil he2) he) (he := he) (hpl := hpl)) fun σ H Q ⟨B, ρ, S, h⟩ => GM.bind S h fun x tx vx H1 rx e1 S1 h1 => by
    have rp := rx.rp S1
    have fin : ∀ (t : String), t ∈ ["NoneType", "bool", "int", "str", "tuple", "list", "dict"] → TyX X.K H1 vx (.type t) → GM X.K X.mg W B ρ σ H1 (.ok (.bl false, .cl)) Q →
        rIsi X.K [vx, clsW X.mg D] H1 Q := fun t ht ty g => ⟨vx, clsW X.mg D, .type t, clsV X.mg D, false, rfl, cv_n hk.n, ty, hk.ty t ht, GM.sc (d := .bl _) g (.bl _)⟩
    cases rp
    case non => exact fin "NoneType" (by simp) (.base .non) h1
    case bl k => exact fin "bool" (by simp) (.base (.bl k)) h1
    case int i => exact fin "int" (by simp) (.base (.int i)) h1
    case str s => exact fin "str" (by simp) (.base (.str _)) h1
    case lst q ds vs hv r => exact fin "list" (by simp) (sql_ty (.of hv)) h1
    case rol q ds vs hv r => exact fin "list" (by simp) (sql_ty hv) h1
    case tup q ds vs hv r => exact fin "tuple" (by simp) (sqt_ty (same_tup S1.sub hv)) h1
    case dic h2 _ _ => exact fin "dict" (by simp) (.base (.dK h2)) h1
    case dit => exact h1.elim
    case obj C c q dx ns ds vs hmc hq hl r =>
      have h2 : GM X.K X.mg W B ρ σ H1 (if U.contains C then .ok (.bl (cs.contains C), .cl) else .bad) Q := h1
      by_cases hU : U.contains C = true
      · rw [if_pos hU] at h2
        obtain ⟨⟨c', m', cl, i1, i2, i3, i4⟩, kk⟩ := hk.ow C (by simpa using hU)
        rw [hmc] at m'
        cases m'
        refine ⟨.ref q, clsW X.mg D, .ref c, clsV X.mg D, cs.contains C, rfl, cv_n hk.n, .base (.ins hq cl i1 i2 i3 i4), ?_, GM.sc (d := .bl _) h2 (.bl _)⟩
        rw [clsV_of hmc] at kk
        exact kk
      · rw [if_neg hU] at h2
        exact h2.elim
/-- isinstance asks the own class D rightly of the own classes U -/
structure IsO (K : PySem.W.Frag) (mg : Str → Option Value) (D : String) (U cs : List String) : Prop where
  n : ClsN mg D
  ow : ∀ C ∈ U, ClsI K mg C ∧ PySem.W.kitOne K (clsV mg C) (clsV mg D) = some (cs.contains C)
theorem pm_isO {D : String} {U cs : List String} (hk : IsO X.K X.mg D U cs) (ha : PM X E W a ma) (hm : X.mg "isinstance" = none) (hg : Gl X "isinstance" := by rfl) (hgD : Gl X (D : Str) := by rfl) (hdD : ((D : Str) == ("__debug__" : Str)) = false := by decide)
    (he : starEach [a, .Name (D : Str) p2] X.env = (false, eval a X.env) :: starEach [.Name (D : Str) p2] X.env := by rfl) (he2 : starEach [.Name (D : Str) p2] X.env = (false, eval (.Name (D : Str) p2) X.env) :: starEach [] X.env := by rfl) (hpl : (backTo pos (starEach [.Name (D : Str) p2] X.env)).any (·.1) = false := by rfl) :
    PM X E W (.Call (.Name "isinstance" p) [a, .Name (D : Str) p2] [] pos) (mIsO U cs ma) :=
  PE.imp (pe_callB call_isi hg hm (by decide +kernel) (pa_cons ha (pa_cons (cl_n hk.n hgD hdD) pa_nil he2) he) (he := he) (hpl := hpl)) fun σ H Q ⟨B, ρ, S, h⟩ => GM.bind S h fun x tx vx H1 rx e1 S1 h1 => by
    have rp := rx.rp S1
    cases rp <;> first | exact False.elim h1 | skip
    case obj C c q dx ns ds vs hmc hq hl r =>
      have h2 : GM X.K X.mg W B ρ σ H1 (if U.contains C then .ok (.bl (cs.contains C), .cl) else .bad) Q := h1
      by_cases hU : U.contains C = true
      · rw [if_pos hU] at h2
        obtain ⟨⟨c', m', cl, i1, i2, i3, i4⟩, kk⟩ := hk.ow C (by simpa using hU)
        rw [hmc] at m'
        cases m'
        refine ⟨.ref q, clsW X.mg D, .ref c, clsV X.mg D, cs.contains C, rfl, cv_n hk.n, .base (.ins hq cl i1 i2 i3 i4), ?_, GM.sc (d := .bl _) h2 (.bl _)⟩
        rw [clsV_of hmc] at kk
        exact kk
      · rw [if_neg hU] at h2
        exact h2.elim
/-! ### range(i, j, k) -/
theorem RgC.step {i j k : Int} (ha : -(2 ^ 62) ≤ i) (ha' : i < 2 ^ 62) (hb : -(2 ^ 62) ≤ j) (hb' : j < 2 ^ 62) (hk : 0 < k) (hk' : k < 1073741824) : RgC i j k (if i < j then (j - i - 1) / k + 1 else 0).toNat := by
  have hs : Builtin.Range.rangeSize i j k = if i < j then (j - i - 1) / k + 1 else 0 := by
    unfold Builtin.Range.rangeSize
    rw [if_pos hk]
  have h0 : 0 ≤ (if i < j then (j - i - 1) / k + 1 else 0) ∧ (if i < j then (j - i - 1) / k + 1 else 0) < 2 ^ 63 := by
    split
    · have h1 : 0 ≤ (j - i - 1) / k := Int.ediv_nonneg (by omega) (by omega)
      have h2 : (j - i - 1) / k ≤ j - i - 1 := Int.ediv_le_self _ (by omega)
      omega
    · omega
  refine ⟨by omega, by omega, ?_, ?_⟩
  · unfold Builtin.Range.small
    rw [hs]
    simp only [Builtin.Range.rangeFitsLong, Bool.and_eq_true, Bool.or_eq_true, decide_eq_true_eq, beq_iff_eq, show k > 0 from hk, if_true]
    generalize (if i < j then (j - i - 1) / k + 1 else 0) = z at *
    omega
  · rw [hs, Int.toNat_of_nonneg h0.1]
theorem wk_rangeS {K : PySem.W.Frag} {mg : Str → Option Value} {A Hb : Hp} (lo st : Int) (n : Nat) : Wk K mg A Hb (Itc lo st n) (rangeS lo st n) where
  go := fun i H s h => by
    show i < n
    simpa [rangeS] using h
  stop := fun i H s h => by
    show n ≤ i
    simpa [rangeS] using h
  yld := fun i H x H' s h y => by
    obtain ⟨rfl, rfl⟩ := y
    have h' : i < n := by simpa [rangeS] using h
    exact ⟨Same.refl _, .int (lo + (i : Int) * st), by simp [rangeS, h'], .int _⟩
theorem pmi_rs (ha : PM X E W a ma) (hb : PM X E W b mb) (hc : PM X E W c mc) (hm : X.mg "range" = none) (hg : Gl X "range" := by rfl)
    (hs : starEach [a, b, c] X.env = (false, eval a X.env) :: starEach [b, c] X.env := by rfl) (hs2 : starEach [b, c] X.env = (false, eval b X.env) :: starEach [c] X.env := by rfl) (hs3 : starEach [c] X.env = (false, eval c X.env) :: starEach [] X.env := by rfl)
    (hpl : (backTo pos (starEach [b, c] X.env)).any (·.1) = false := by rfl) : PMI X E W tg (.Call (.Name "range" p) [a, b, c] [] pos) (wmRS ma mb mc) :=
  PI.imp (pi_range3 hg hm (pa_cons ha (pa_cons hb (pa_cons hc pa_nil hs3) hs2) hs) hs hpl) fun σ H R ⟨B, ρ, S, h⟩ => GG.bindE S h fun x tx vx H1 rx e1 S1 h1 => by
    have h1' := GG.mono h1 e1 fun _ q => q
    refine GG.bindE S1 h1' fun y ty vy H2 ry e2 S2 h2 => ?_
    have h2' := GG.mono h2 e2 fun _ q => q
    refine GG.bindE S2 h2' fun z tz vz H3 rz e3 S3 h3 => ?_
    have rpx := rx.rp S1
    have rpy := ry.rp S2
    have rpz := rz.rp S3
    cases rpx <;> first | exact False.elim h3 | skip
    cases rpy <;> first | exact False.elim h3 | skip
    cases rpz <;> first | exact False.elim h3 | skip
    case int.int.int i j k =>
      have h4 : GG X.mg W σ H2 (fun p => ∀ J H1, Same H H1 → SR X.K X.mg E B ρ σ H1 → Wk X.K X.mg (ar B ρ σ H1) (hid B (frzO p.2 ρ) σ H1) J p.1 → R J H1) (if rgOk i && rgOk j && decide (0 < k) && decide (k < 1073741824) then .ok (rangeS i k (if i < j then (j - i - 1) / k + 1 else 0).toNat, none) else .bad) := h3
      split at h4
      · rename_i hr
        rw [Bool.and_eq_true, Bool.and_eq_true, Bool.and_eq_true, decide_eq_true_eq, decide_eq_true_eq] at hr
        obtain ⟨⟨⟨r1, r2⟩, r3⟩, r4⟩ := hr
        obtain ⟨a1, a2⟩ := rg_ok r1
        obtain ⟨b1, b2⟩ := rg_ok r2
        exact ⟨i, j, k, _, rfl, RgC.step a1 a2 b1 b2 r3 r4, h4 _ H3 ((e1.trans e2).trans e3) S3 (wk_rangeS i k _)⟩
      · exact False.elim h4
/-! ### x[i] = e -/
theorem psm_setI (i : Nat) {x : Str} {p1 p3 : Pos} (hb : PM X E W b mb) (ha : PM X E W a ma) (hN : X.N[i]? = some x := by rfl) (hv : Vis X.env.scope x := by first | exact Or.inl rfl | exact Or.inr (Or.inl rfl) | exact Or.inr (Or.inr rfl)) (hd : (x == ("__debug__" : Str)) = false := by decide)
    (hcd : (x == ("__classdict__" : Str)) = false := by decide)
    (hsub : ∀ v, assign (.Subscript (.Name x p1) b p3) X.env v = (do
      let ov ← holding [v] (eval (.Name x p1) X.env)
      let iv ← holding [v, ov] (eval b X.env)
      standAt p3
      holding [v, ov, iv] (setItem ov iv v)
      release [v, ov, iv] []) := by intro _; rfl)
    (hs : swapsWithSole [.Subscript (.Name x p1) b p3] a pos.line X.env = pure false := by rfl) (hw : swappedStores [.Subscript (.Name x p1) b p3] a X.env = pure none := by rfl)
    (h1 : (assignEach [.Subscript (.Name x p1) b p3] X.env).map (·.2) = [assign (.Subscript (.Name x p1) b p3) X.env] := by rfl) :
    PSM X E W (.Assign [.Subscript (.Name x p1) b p3] a pos) (smSetI i mb ma) :=
  PS.imp (ps_asg ha (pg_sub (pe_var hN hv hd hcd) hb set_list hsub) hs hw h1) fun D σ H ⟨B, ρ, S, h⟩ => GS.bindE S h fun z tz vz H0 rz s0 S0 h0 => by
    replace h0 : GS X.K X.mg E W B D (match ρ[i]? with
      | some (.oo .lst ds) => (mb ρ).st ρ fun y => match y.1 with
        | .int j => if tz.free || z.sc then (match ixN ds.length j with
          | some k => .ok (.nx (ρ.set i (.ow (ds.set k z))))
          | none => .bad) else .bad
        | _ => .bad
      | _ => .bad) := h0
    split at h0
    · rename_i ds e
      obtain ⟨l, vs, e1, e2, e3⟩ := S0.owl i ds e
      refine ⟨.ref l, e1, GS.bindE S0 h0 fun y ty vy H1 ry s1 S1 h1 => ?_⟩
      have rpy := ry.rp S1
      cases rpy <;> first | exact False.elim h1 | skip
      case int j =>
        replace h1 : GS X.K X.mg E W B D (if tz.free || z.sc then (match ixN ds.length j with
          | some k => .ok (.nx (ρ.set i (.ow (ds.set k z))))
          | none => .bad) else .bad) := h1
        split at h1
        · rename_i hc
          rw [Bool.or_eq_true] at hc
          cases ek : ixN ds.length j with
          | none => rw [ek] at h1; exact h1.elim
          | some k =>
            rw [ek] at h1
            have e4 := e3.mono (ar_mono s1)
            refine ⟨l, vs, j, k, rfl, rfl, s1 _ _ e2, ?_, h1 σ _ ?_⟩
            · rw [← e3.length]
              exact ek
            · refine S1.updOw e e1 (e4.set ?_ _)
              exact Rep.mono (ar_mono s1) (rz.keep S s0 hc)
        · exact h1.elim
    · exact h0.elim
end
theorem relabel_nofree {scope : Scope} {env : Env} (h : scope.names.all (fun p => p.2 != .free) = true) : PySem.relabel scope env = scope := by
  unfold PySem.relabel
  have e : scope.names.map (fun (n, k) => if (k == .free && env.scope.kind == .function && env.kindOf n == some .cell) then (n, NameKind.cell) else (n, k)) = scope.names := by
    generalize scope.names = l at h
    induction l with
    | nil => rfl
    | cons p l ih =>
      rw [List.all_cons, Bool.and_eq_true] at h
      obtain ⟨n, k⟩ := p
      rw [List.map_cons, ih h.2]
      have : (k == NameKind.free) = false := by
        have := h.1
        cases k <;> first | rfl | (cases this)
      simp [this]
  rw [e]
/-! ### is True, &, extend, zip -/
theorem mild_isB : Mild cIsB := fun x y C => by cases x <;> cases y <;> simp [cIsB]
theorem mild_notB : Mild cNotB := fun x y C => by cases x <;> cases y <;> simp [cNotB]
section
variable {X : Cx} {E : ExE} {W : WX} {pos p p2 : Pos} {a b c e tg : Expr} {ma mb mc : EM} {es : List Expr} {am : AM}
theorem cm_isB : CmpM X E W rIsB cIsB := by
  intro B ρ σ H x y vx vy Q S rx ry hq ok
  obtain ⟨k, e⟩ := ok
  cases rx <;> cases ry <;> first | (cases e; done) | skip
  case bl.bl i j => exact ⟨i, j, rfl, rfl, hq _ rfl⟩
theorem cm_notB : CmpM X E W rNotB cNotB := by
  intro B ρ σ H x y vx vy Q S rx ry hq ok
  obtain ⟨k, e⟩ := ok
  cases rx <;> cases ry <;> first | (cases e; done) | skip
  case bl.bl i j => exact ⟨i, j, rfl, rfl, hq _ rfl⟩
theorem pm_isB (ha : PM X E W a ma) (hb : PM X E W b mb) : PM X E W (.Compare a [.Is] [b] pos) (mCmp cIsB ma mb) := pm_cmp op_isBl cm_isB mild_isB ha hb (nomark _)
theorem pm_notB (ha : PM X E W a ma) (hb : PM X E W b mb) : PM X E W (.Compare a [.IsNot] [b] pos) (mCmp cNotB ma mb) := pm_cmp op_notBl cm_notB mild_notB ha hb (nomark _)
theorem pmt_isB (ha : PM X E W a ma) (hb : PM X E W b mb) : PMT X E W (.Compare a [.Is] [b] pos) (mTB (mCmp cIsB ma mb)) := pmt_cmp op_isBl cm_isB mild_isB ha hb (nomark _)
theorem pmt_notB (ha : PM X E W a ma) (hb : PM X E W b mb) : PMT X E W (.Compare a [.IsNot] [b] pos) (mTB (mCmp cNotB ma mb)) := pmt_cmp op_notBl cm_notB mild_notB ha hb (nomark _)
theorem om_and : OpM X E W (fun x y H Q => ∃ (i : Int) (k : Nat), x = .int i ∧ y = .int (2 ^ k - 1) ∧ Q (.int (i % 2 ^ k)) H) oAnd := by
  intro B ρ σ H x y vx vy Q S rx ry h
  cases rx <;> cases ry <;> first | exact False.elim h | skip
  case int.int i j =>
    replace h : GM X.K X.mg W B ρ σ H (if j = 1 then sOk (.int (i % 2)) else .bad) Q := h
    split at h
    · rename_i hj
      subst hj
      exact ⟨i, 1, rfl, rfl, GM.sc (d := .int _) h (.int _)⟩
    · exact False.elim h
theorem pm_and1 (ha : PM X E W a ma) (hb : PM X E W b mb) : PM X E W (.BinOp a .BitAnd b pos) (mB oAnd ma mb) := pm_bin op_andM om_and ha hb
theorem psm_ext (i : Nat) {x : Str} {p1 p2 : Pos} (ha : PM X E W a ma) (hN : X.N[i]? = some x := by rfl) (hv : Vis X.env.scope x := by first | exact Or.inl rfl | exact Or.inr (Or.inl rfl) | exact Or.inr (Or.inr rfl)) (hd : (x == ("__debug__" : Str)) = false := by decide)
    (hcd : (x == ("__classdict__" : Str)) = false := by decide) (hbase : attributeBase (.Name x p1) "extend" X.env (eval (.Name x p1) X.env) = eval (.Name x p1) X.env := by rfl)
    (hfew : ((backTo p (starEach [a] X.env)).all (fun x => !x.1) && (backToKw p (keywordEach [] X.env)).all (fun x => x.1.isSome) && decide ([a].length + ([] : List Keyword).length + (if ([] : List Keyword).isEmpty then 0 else 1) < 30)) = true := by rfl)
    (hline : (p2.endLine == p.line) = true := by rfl) (hs1 : starEach [a] X.env = (false, eval a X.env) :: starEach [] X.env := by rfl) (hplain : (backTo p (starEach [] X.env)).any (·.1) = false := by rfl)
    (hs : swapsWith (.Call (.Attribute (.Name x p1) "extend" p2) [a] [] p) none pos.line X.env = pure false := by rfl) :
    PSM X E W (.Expr (.Call (.Attribute (.Name x p1) "extend" p2) [a] [] p) pos) (smExt i ma) :=
  PS.imp (ps_expr (pe_bm PySem.F.plainAttrs_list PySem.F.slot_list_extend PySem.F.type_list_extend mt_extend (pe_var hN hv hd hcd) (pa_cons ha pa_nil hs1) hbase hfew hline hs1 hplain) hs) fun D σ H ⟨B, ρ, S, h⟩ => by
    unfold smExt at h
    split at h
    · rename_i ds e
      obtain ⟨l, vs, e1, e2, e3⟩ := S.owl i ds e
      refine ⟨.ref l, e1, .inl ⟨rfl, vs, .of e2⟩, GS.bindE S h fun y ty vy H1 ry s1 S1 h1 => ?_⟩
      have rp := ry.rp S1
      cases rp <;> first | exact False.elim h1 | skip
      case lst q fs ws hq r =>
        replace h1 : GS X.K X.mg E W B D (if ds.length + fs.length ≤ lim then .ok (.nx (ρ.set i (.ow (ds ++ fs)))) else .bad) := h1
        split at h1
        · rename_i hc
          refine ⟨l, q, vs, ws, rfl, rfl, s1 _ _ e2, hq, by rw [← e3.length, ← r.length, lim_eq]; exact hc, h1 σ _ ?_⟩
          exact S1.updOw e e1 ((e3.mono (ar_mono s1)).app r)
        · exact h1.elim
    · exact h.elim
theorem seq_hid {K : PySem.W.Frag} {mg : Str → Option Value} {B : Bs} {ρ : Rho} {σ : St} {H0 H1 : Hp} {k : SK} {ds : List D} {tx : Tg} {vx : V} (S0 : SR K mg E B ρ σ H0) (S1 : SR K mg E B ρ σ H1) (hk : k ≠ .tup) (rx : RT K mg B ρ σ H0 H1 (.seq k ds) tx vx) (o : Option Nat) (ho : ∀ i, tx.slot = some i → o = some i) :
    ∃ q vs, vx = .ref q ∧ SqL K (hid B (frzO o ρ) σ H1) q vs ∧ Reps K mg (ar B ρ σ H1) ds vs := by
  cases tx with
  | cl =>
    have rr : Rep K mg (ar B ρ σ H1) (.seq k ds) vx := rx
    cases rr with
    | lst hv r => exact ⟨_, _, rfl, .of (ar_hid S1 (fun _ z => own_frzO z) _ _ hv), r⟩
    | rol hv r => exact ⟨_, _, rfl, (ar_hid S1 fun _ z => own_frzO z).seq hv, r⟩
    | tup hv r => exact absurd rfl hk
  | own i =>
    obtain rfl := ho i rfl
    obtain ⟨l, es, q1, q2, q3⟩ := rx
    cases l with
    | dic _ => cases q2
    | dit _ => cases q2
    | ins _ _ => cases q2
    | lst =>
    cases q2
    obtain ⟨q, vs, e2, e3, e4⟩ := S1.owl i ds q1
    rw [q3] at e2
    cases e2
    refine ⟨q, vs, rfl, .of ?_, e4⟩
    have S2 := S1.frz i
    have hf : (Dm.frz i ρ)[i]? = some (.fz (.seq .lst ds)) := by
      unfold Dm.frz
      rw [q1]
      exact List.getElem?_set_self (List.getElem?_eq_some_iff.mp q1).1
    obtain ⟨v, h3, h4⟩ := S2.fz i _ hf
    rw [q3] at h3
    cases h3
    cases h4 with
    | lst hv r' =>
      have := S2.sub _ _ hv
      rw [e3] at this
      cases this
      exact ar_hid S2 (fun _ z => z) _ _ hv
  | fr =>
    obtain ⟨q, ob, l, es, vs, q1, rfl, q3, q4, hk', q5⟩ := rx
    cases l with
    | dic _ => cases q1
    | dit _ => cases q1
    | ins _ _ => cases q1
    | lst =>
    cases q1
    cases hk'
    refine ⟨q, vs, rfl, .of ?_, q5.mono ar_add⟩
    have hx : ¬ (B.X q ∨ Own (frzO o ρ) σ q) := fun z => by
      rcases z with z | z
      · obtain ⟨o, e⟩ := S0.xt q z
        rw [q3] at e; cases e
      · obtain ⟨vs, e⟩ := S0.there (own_frzO z)
        rw [q3] at e; cases e
    show hid B (frzO o ρ) σ H1 q = _
    unfold hid
    rw [if_neg hx]
    exact q4
theorem wk_zip {K : PySem.W.Frag} {mg : Str → Option Value} {A Hb : Hp} {q r : Addr} {ds es : List D} {vs ws : List V} (h : SqL K Hb q vs) (h' : SqL K Hb r ws) (rd : Reps K mg A ds vs) (re : Reps K mg A es ws) (hA : ∀ H, Same Hb H → Same A H) : Wk K mg A Hb (Itz K q r) (zipD ds es) where
  go := fun i H s hi => by
    have hi' : i < min ds.length es.length := by simpa [zipD] using hi
    have h1 : i < vs.length := by rw [← rd.length]; omega
    have h2 : i < ws.length := by rw [← re.length]; omega
    exact ⟨vs, ws, vs[i], ws[i], s.seq h, s.seq h', by simp, by simp⟩
  stop := fun i H s hi => by
    have hi' : min ds.length es.length ≤ i := by simpa [zipD] using hi
    refine ⟨vs, ws, s.seq h, s.seq h', ?_⟩
    rw [← rd.length, ← re.length]
    omega
  yld := fun i H x H' s hi y => by
    obtain ⟨T, u, v, rfl, hT, rfl, y1, y2⟩ := y
    obtain ⟨d, d1, d2⟩ := rd.get' (y1 vs (s.seq h))
    obtain ⟨f, f1, f2⟩ := re.get' (y2 ws (s.seq h'))
    have sm : Same H (upd H T (.tup [u, v])) := Same.upd hT
    have g := gn_of (hA _ s) sm
    refine ⟨sm, .seq .tup [d, f], ?_, .tup (vs := [u, v]) (.inl (.inl ?_)) (.cons (d2.mono g) (.cons (f2.mono g) .nil))⟩
    · unfold zipD
      have hz : (ds.zip es)[i]? = some (d, f) := List.getElem?_zip_eq_some.mpr ⟨d1, f1⟩
      rw [List.getElem?_map, hz]
      rfl
    · show (if H T = none then upd H T (.tup [u, v]) T else A T) = _
      rw [if_pos hT, upd_same]
theorem pmi_zip {elts : List Expr} {kk : Nat} {tpos : Pos} (ha : PM X E W a ma) (hb : PM X E W b mb) (hm : X.mg "zip" = none) (hg : Gl X "zip" := by rfl)
    (hs : starEach [a, b] X.env = (false, eval a X.env) :: starEach [b] X.env := by rfl) (hs2 : starEach [b] X.env = (false, eval b X.env) :: starEach [] X.env := by rfl)
    (hpl : (backTo pos (starEach [b] X.env)).any (·.1) = false := by rfl) : PMI X E W (.Tuple elts kk tpos) (.Call (.Name "zip" p) [a, b] [] pos) (wmZip ma mb) :=
  PI.imp (pi_zip hg hm (pa_cons ha (pa_cons hb pa_nil hs2) hs) hs hpl) fun σ H R ⟨B, ρ, S, h⟩ => GG.bindE S h fun x tx vx H1 rx e1 S1 h1 => by
    have h1' := GG.mono h1 e1 fun _ q => q
    refine GG.bindE S1 h1' fun y ty vy H2 ry e2 S2 h2 => ?_
    match x, y, h2, rx, ry with
    | .seq k ds, .seq l fs, h2, rx, ry =>
      have h3 : GG X.mg W σ H1 (fun p => ∀ J H1, Same H H1 → SR X.K X.mg E B ρ σ H1 → Wk X.K X.mg (ar B ρ σ H1) (hid B (frzO p.2 ρ) σ H1) J p.1 → R J H1) (if k = .tup ∨ l = .tup then .bad else (match slot2 tx.slot ty.slot with
        | some o => .ok (zipD ds fs, o)
        | none => .bad)) := h2
      by_cases hc : k = .tup ∨ l = .tup
      · rw [if_pos hc] at h3
        exact h3.elim
      · rw [if_neg hc] at h3
        have hk : k ≠ .tup := fun z => hc (.inl z)
        have hl : l ≠ .tup := fun z => hc (.inr z)
        cases eo : slot2 tx.slot ty.slot with
        | none => rw [eo] at h3; exact h3.elim
        | some o =>
          rw [eo] at h3
          have o1 : ∀ i, tx.slot = some i → o = some i := fun i hi => by
            rw [hi] at eo
            cases ej : ty.slot with
            | none => rw [ej] at eo; cases eo; rfl
            | some j => rw [ej] at eo; cases eo
          have o2 : ∀ i, ty.slot = some i → o = some i := fun i hi => by
            rw [hi] at eo
            cases ej : tx.slot with
            | none => rw [ej] at eo; cases eo; rfl
            | some j => rw [ej] at eo; cases eo
          obtain ⟨q, vs, rfl, q1, q2⟩ := seq_hid S S2 hk (rx.mono e2) o o1
          obtain ⟨r, ws, rfl, r1, r2⟩ := seq_hid S1 S2 hl ry o o2
          refine ⟨q, r, vs, ws, rfl, hid_sub.seq q1, hid_sub.seq r1, h3 _ H2 (e1.trans e2) S2 (wk_zip q1 r1 q2 r2 fun H' s => (ar_hid S2 fun _ z => own_frzO z).trans s)⟩
end
/-! ### an object made with a list of one's own, which is only read -/
theorem reps_det {K : PySem.W.Frag} {mg : Str → Option Value} {G G' : Hp} : ∀ {ds : List D} {vs vs' : List V}, Reps K mg G ds vs → Reps K mg G' ds vs' → ds.all D.sc = true → vs = vs'
  | _, _, _, .nil, .nil, _ => rfl
  | _, _, _, .cons r rs, .cons r' rs', h => by
    rw [List.all_cons, Bool.and_eq_true] at h
    rw [reps_det rs rs' h.2]
    have h1 := h.1
    cases r <;> first | (cases h1; done) | skip
    all_goals cases r' <;> rfl
abbrev Bs.ini2 (G H0 : Hp) (x a : Addr) : Bs := ⟨G, H0, fun b => b = x ∨ b = a⟩
def spIB (K : PySem.W.Frag) (mg : Str → Option Value) (C : String) (n : Nat) (g : IF) : Sp := fun vs H Q _ => vs.length = n + 1 ∧ ∃ (G H0 : Hp) (x a c dx : Addr) (ws us us0 : List V) (ns : List String) (es ds es0 : List D),
  vs = .ref x :: .ref a :: ws ∧ x ≠ a ∧ mg (C : Str) = some (.ref c) ∧ Same G H0 ∧ Same H0 H ∧ H0 x = none ∧ H0 a = none ∧ H x = some (.ins c dx ((ns.map Str.ofString).zip us)) ∧ H a = some (.lst us0) ∧ us.length = ns.length ∧ Reps K mg G es us ∧ Reps K mg G es0 us0 ∧ Reps K mg G ds ws ∧
  (match g (.seq .lst es0 :: ds) ns es with
   | .ok (ns', es') => ∀ H' us' us0', Same H0 H' → H' x = some (.ins c dx ((ns'.map Str.ofString).zip us')) → H' a = some (.lst us0') → Reps K mg (ar (Bs.ini2 G H0 x a) [] [] H') es0 us0' → us'.length = ns'.length → Reps K mg (ar (Bs.ini2 G H0 x a) [] [] H') es' us' → Q .non H'
   | _ => False)
theorem own2 {es0 ds : List D} {ws : List V} {x a : Addr} : ∀ b, Own (.no :: .oo .lst es0 :: ds.map Sl.fz) (some (V.ref x) :: some (V.ref a) :: ws.map some) b ↔ b = a := fun b => by
  constructor
  · rintro ⟨i, l, fs, z1, z2⟩
    match i, z1, z2 with
    | 0, z1, _ => cases z1
    | 1, _, z2 => cases z2; rfl
    | i + 2, z1, _ =>
      rw [List.getElem?_cons_succ, List.getElem?_cons_succ, List.getElem?_map] at z1
      cases e : ds[i]? with
      | none => rw [e] at z1; cases z1
      | some d => rw [e] at z1; cases z1
  · rintro rfl
    exact ⟨1, .lst, es0, rfl, rfl⟩
theorem ar_ini2 {G H0 H' : Hp} {x a : Addr} {ρ : Rho} {σ : St} (ho : ∀ b, Own ρ σ b ↔ b = a) : ar (Bs.ini G H0 x) ρ σ H' = ar (Bs.ini2 G H0 x a) [] [] H' := by
  funext b
  by_cases h : b = x ∨ b = a
  · rw [ar_out (h.imp id (ho b).mpr), ar_out (.inl h)]
  · have h1 : ¬ ((Bs.ini G H0 x).X b ∨ Own ρ σ b) := fun z => h (z.imp id (ho b).mp)
    have h2 : ¬ ((Bs.ini2 G H0 x a).X b ∨ Own [] [] b) := fun z => z.elim h own_nil
    by_cases hn : H0 b = none
    · rw [ar_none h1 hn, ar_none h2 hn]
    · rw [ar_some h1 hn, ar_some h2 hn]
theorem start_iniB {K : PySem.W.Frag} {mg : Str → Option Value} {G H0 H : Hp} {x a : Addr} {es0 ds : List D} {us0 ws : List V} (hxa : x ≠ a) (gh : Same G H0) (h0 : H0 x = none) (ha0 : H0 a = none) (hH : Same H0 H) (hx : ∃ o, H x = some o) (ha : H a = some (.lst us0)) (r0 : Reps K mg G es0 us0) (r : Reps K mg G ds ws) :
    Same G (ar (Bs.ini G H0 x) (.no :: .oo .lst es0 :: ds.map Sl.fz) (some (V.ref x) :: some (V.ref a) :: ws.map some) H) ∧
    SR K mg none (Bs.ini G H0 x) (.no :: .oo .lst es0 :: ds.map Sl.fz) (some (V.ref x) :: some (V.ref a) :: ws.map some) H := by
  have hl := r.length
  have ho := own2 (es0 := es0) (ds := ds) (ws := ws) (x := x) (a := a)
  have same : Same G (ar (Bs.ini G H0 x) (.no :: .oo .lst es0 :: ds.map Sl.fz) (some (V.ref x) :: some (V.ref a) :: ws.map some) H) := fun b o h => by
    have hb0 := gh _ _ h
    have hbx : b ≠ x := fun z => by
      subst z
      rw [h0] at hb0
      cases hb0
    have hba : b ≠ a := fun z => by
      subst z
      rw [ha0] at hb0
      cases hb0
    rw [ar_some (fun z => z.elim (fun q => hbx q) (fun q => hba ((ho b).mp q))) (by show ¬ H0 b = none; rw [hb0]; simp)]
    exact h
  have one : ∀ {i : Nat} {l : OwK} {es : List D}, (Sl.no :: Sl.oo .lst es0 :: ds.map Sl.fz)[i]? = some (.oo l es) → i = 1 ∧ l = .lst ∧ es = es0 := fun {i l es} h => by
    match i, h with
    | 0, h => cases h
    | 1, h => cases h; exact ⟨rfl, rfl, rfl⟩
    | i + 2, h =>
      rw [List.getElem?_cons_succ, List.getElem?_cons_succ, List.getElem?_map] at h
      cases e : ds[i]? with
      | none => rw [e] at h; cases h
      | some d => rw [e] at h; cases h
  refine ⟨same, by simp [hl], fun i d h => ?_, fun i k es h => ?_, fun i j b k l es fs h h' _ _ => by rw [(one h).1, (one h').1], fun i C h => ?_, gh, hH, fun b z => ?_, fun b hb z => ?_, fun b z => ?_⟩
  · match i, h with
    | 0, h => cases h
    | 1, h => cases h
    | i + 2, h =>
      rw [List.getElem?_cons_succ, List.getElem?_cons_succ, List.getElem?_map] at h
      obtain ⟨d', e1, e2⟩ := Option.map_eq_some_iff.mp h
      cases e2
      obtain ⟨v, q1, q2⟩ := r.get e1
      exact ⟨v, by rw [List.getElem?_cons_succ, List.getElem?_cons_succ, List.getElem?_map, q1]; rfl, q2.mono same⟩
  · obtain ⟨rfl, rfl, rfl⟩ := one h
    exact ⟨a, _, us0, rfl, ha, rfl, r0.mono same⟩
  · match i, h with
    | 0, h => cases h
    | 1, h => cases h
    | i + 2, h =>
      rw [List.getElem?_cons_succ, List.getElem?_cons_succ, List.getElem?_map] at h
      obtain ⟨d', e1, e2⟩ := Option.map_eq_some_iff.mp h
      cases e2
  · rcases z with z | z
    · exact z ▸ h0
    · exact (ho b).mp z ▸ ha0
  · replace hb : b = x := hb
    exact hxa (hb ▸ (ho b).mp z)
  · exact z ▸ hx
theorem fn_iB {CX : CXT} {P : Program} {w : World} {K : PySem.W.Frag} {mg : Str → Option Value} {base : Heap} {x qual : Str} {st : Stmt} {f : Addr} {fd : FuncData} {N ps : List Str} {k np : Nat} {C : String} {m : IM} (F : FunD K x qual st f fd) (S : FnScope N ps (defScope st)) (hps : ps.length = np + 1) (hN : N.length = np + 1)
    (hbody : ∀ (cdv : Value) (A : Around) (outer : List Env) (s : Shared) (H : Hp) (E : XK), Room k (A.deeper (PyProof.Rows.envOfC qual (defScope st) s.heap.objs.size f cdv)) →
      PSs (cxOf CX P w K mg base N qual (defScope st) f cdv A outer s H E) (defBody st) (tIni K mg none C m)) :
    FnOk P w K mg base CX (k + 1) f fd ps (spIB K mg C np (mInitB np m)) := by
  obtain ⟨oc, od, dV, kV, doc, pm, an, cdv, ct, osl, rfl, lk, hcd⟩ := F.ex
  refine fn_of lk hcd S (fun vs H Q E h => by rw [hps]; exact h.1) (fun A outer s H vs Q E hr h => ?_)
  obtain ⟨hl, G, H0, x, a, c, dx, ws, us, us0, ns, es, ds, es0, rfl, hxa, hm, gh, hH, h0, ha0, ho, hoa, hlu, r, r0, rd, h⟩ := h
  obtain ⟨sm, SS⟩ := start_iniB hxa gh h0 ha0 hH ⟨_, ho⟩ hoa r0 rd
  have st0 : L2.start N (V.ref x :: V.ref a :: ws) = some (.ref x) :: some (.ref a) :: ws.map some := by
    unfold L2.start
    rw [hN, hl]
    simp
  refine ⟨_, hbody cdv A outer s H E hr, Bs.ini G H0 x, .no :: .oo .lst es0 :: ds.map .fz, x, c, dx, ns, es, us, ?_, rfl, ?_, hm, ho, hlu, ?_, ?_⟩
  · rw [st0]
    exact SS
  · rfl
  · rw [st0]
    exact r.mono sm
  · unfold mInitB at h
    dsimp only at h
    rw [if_pos (by rw [rd.length]; simpa using hl)] at h
    cases e : m (.no :: .oo .lst es0 :: ds.map .fz) ns es with
    | ex C => rw [e] at h; exact h.elim
    | bad => rw [e] at h; exact h.elim
    | ok y =>
      obtain ⟨ns', es'⟩ := y
      rw [e] at h
      intro H' us' S' hx' hl' r'
      rw [st0] at S' r'
      obtain ⟨a', o, us0', q1, q2, q3, q4⟩ := S'.ow 1 .lst es0 rfl
      cases q1
      cases q3
      rw [ar_ini2 own2] at q4 r'
      exact h H' us' us0' S'.bh hx' q2 q4 hl' r'
section
variable {X : Cx} {E : ExE} {W : WX} {pos p q apos : Pos} {a e o : Expr} {ma mo : EM} {C : String} {es : List Expr} {am : AM}
structure MakeOkB (P : Program) (w : World) (K : PySem.W.Frag) (mg : Str → Option Value) (base : Heap) (b : Bool) (C : String) (k n : Nat) (g : IF) : Prop where
  ex : ∃ (c f : Addr) (fd : FuncData) (ps : List Str), mg (C : Str) = some (.ref c) ∧ Mk K c f ∧ Binds K fd ps [] ∧ FnOk P w K mg base (CXm b P w) k f fd ps (spIB K mg C n g)
theorem pm_makeB {b : Bool} {k k' n : Nat} {g : IF} (M : MakeOkB X.prog X.w X.K X.mg X.base b C k (n + 1) g) (tk : Tks b X W) (hr : Room k' X.A) (he : PM X E W e ma) (ha : PMA X E W es am) (hn : AMn am n) (hk : k + 1 ≤ k' := by decide) (hg : Gl X (C : Str) := by rfl) (hdb : ((C : Str) == ("__debug__" : Str)) = false := by decide)
    (hst : starEach (e :: es) X.env = (false, eval e X.env) :: starEach es X.env := by rfl) (hpl : (backTo pos (starEach es X.env)).any (·.1) = false := by rfl) :
    PM X E W (.Call (.Name (C : Str) p) (e :: es) [] pos) (mMakeB C g ma am) := by
  obtain ⟨c, f, fd, ps, hm, Mk, hb, F⟩ := M.ex
  have haa : PMA X E W (e :: es) (amCons ma am) := pma_cons he ha hst
  refine ⟨fun pins s σ H Q I h => ?_⟩
  refine wpAny_Call_Name_kw (ld_glob I hg hm ?_ hdb)
  obtain ⟨B, ρ, S, h⟩ := h
  have hta : tA X.K X.mg E W (amCons ma am) σ H fun vs H1 => ∀ x dx, H1 x = none → H1 dx = none → dx ≠ x → spIB X.K X.mg C (n + 1) g (.ref x :: vs) (upd (upd H1 dx (.own x)) x (.ins c dx [])) (fun v H2 => v = .non ∧ Q (.ref x) H2) (WE W σ) := by
    refine ⟨B, ρ, S, ?_⟩
    replace h := h.gg
    unfold mMakeB at h
    unfold amCons
    cases em : ma ρ with
    | ex C => rw [em] at h; exact h
    | bad => rw [em] at h; exact h
    | ok y0 =>
      obtain ⟨d0, t0⟩ := y0
      rw [em, Res.bind_ok] at h
      rw [Res.bind_ok]
      match d0, t0, h with
      | .seq .lst es0, .own i0, h =>
        replace h : GG X.mg W σ H (fun x => ∀ v H', Same H H' → RT X.K X.mg B ρ σ H H' x.1 x.2 v → Q v H') (if es0.all D.sc then (am ρ).bind fun xs => (kept xs).bind fun ds => (noEx (g (.seq .lst es0 :: ds) [] [])).bind fun p => .ok (.obj C p.1 p.2, .fr) else .bad) := h
        by_cases hsc : es0.all D.sc = true
        · rw [if_pos hsc] at h
          cases ea : am ρ with
          | ex C => rw [ea] at h; exact h
          | bad => rw [ea] at h; exact h
          | ok xs =>
            rw [ea, Res.bind_ok] at h
            rw [Res.bind_ok]
            intro ws0 H1 s1 rs0 x dx hx hdx hne
            cases rs0 with
            | cons r00 rs =>
            rename_i v0 ws
            obtain ⟨kk, ds0, z1, z2, z3⟩ := (show ∃ k ds, ρ[i0]? = some (.oo k ds) ∧ D.seq .lst es0 = k.asD ds ∧ σ[i0]? = some (some v0) from r00)
            cases kk with
            | dic _ => cases z2
            | dit _ => cases z2
            | ins _ _ => cases z2
            | lst =>
            cases z2
            unfold kept at h
            by_cases hf : xs.all (fun x => x.2.free || x.1.sc) = true
            · rw [if_pos hf, Res.bind_ok] at h
              have S1 := S.mono s1
              obtain ⟨ad, o, us0, y1, y2, y3, y4⟩ := S1.ow i0 .lst es0 z1
              cases y3
              rw [z3] at y1
              cases y1
              have rk := rs.keep S s1 (fun y hy => by have := List.all_eq_true.mp hf y hy; simpa using this)
              have hax : ad ≠ x := fun z => by
                subst z
                rw [hx] at y2; cases y2
              have hadx : ad ≠ dx := fun z => by
                subst z
                rw [hdx] at y2; cases y2
              have hown : Own ρ σ ad := ⟨i0, .lst, es0, z1, z3⟩
              have ngx : ∀ b o, ar B ρ σ H1 b = some o → b ≠ ad := fun b o hb z => by
                subst z
                rw [ar_out (.inr hown)] at hb
                cases hb
              refine ⟨by rw [List.length_cons, List.length_cons, ← rs.len, hn ρ xs ea], ar B ρ σ H1, fun b => if b = ad then none else H1 b, x, ad, c, dx, ws, [], us0, [], [], xs.map (·.1), es0, rfl, fun z => hax z.symm, hm, ?_, ?_, ?_, if_pos rfl, upd_same, ?_, rfl, .nil, y4, rk, ?_⟩
              · intro b o hb
                show (if b = ad then none else H1 b) = some o
                rw [if_neg (ngx b o hb)]
                exact S1.sub _ _ hb
              · intro b o hb
                replace hb : (if b = ad then none else H1 b) = some o := hb
                by_cases z : b = ad
                · rw [if_pos z] at hb; cases hb
                · rw [if_neg z] at hb
                  have hbx : b ≠ x := fun q => by subst q; rw [hx] at hb; cases hb
                  have hbd : b ≠ dx := fun q => by subst q; rw [hdx] at hb; cases hb
                  rw [upd_ne hbx, upd_ne hbd]
                  exact hb
              · show (if x = ad then none else H1 x) = none
                rw [if_neg (fun z => hax z.symm)]
                exact hx
              · rw [upd_ne hax, upd_ne hadx]
                exact y2
              · cases eg : g (.seq .lst es0 :: xs.map (·.1)) [] [] with
                | ex C => rw [eg] at h; exact h.elim
                | bad => rw [eg] at h; exact h.elim
                | ok y =>
                  obtain ⟨ns', es'⟩ := y
                  rw [eg] at h
                  intro H' us' us0' s' hx' ha' r0' hl' r'
                  refine ⟨rfl, ?_⟩
                  obtain rfl := reps_det y4 r0' hsc
                  have sH1 : Same H1 H' := fun b o hb => by
                    by_cases z : b = ad
                    · subst z
                      rw [y2] at hb
                      cases hb
                      exact ha'
                    · exact s' b o (show (if b = ad then none else H1 b) = some o by rw [if_neg z]; exact hb)
                  have sH : Same H H' := s1.trans sH1
                  refine h (.ref x) H' sH ⟨x, _, .ins C ns', es', us', rfl, rfl, s1.free hx, hx', ?_, ?_⟩
                  · exact ⟨c, dx, hm, hl', rfl⟩
                  · refine r'.mono fun b o hb => ?_
                    have hz : ¬ ((Bs.ini2 (ar B ρ σ H1) (fun b => if b = ad then none else H1 b) x ad).X b ∨ Own [] [] b) := fun z => by
                      rw [ar_out z] at hb
                      cases hb
                    have hbx : b ≠ x := fun z => hz (.inl (.inl z))
                    have hba : b ≠ ad := fun z => hz (.inl (.inr z))
                    by_cases hn1 : H1 b = none
                    · have hn0 : (Bs.ini2 (ar B ρ σ H1) (fun b => if b = ad then none else H1 b) x ad).H b = none := by
                        show (if b = ad then none else H1 b) = none
                        rw [if_neg hba]; exact hn1
                      rw [ar_none hz hn0] at hb
                      have hnB : ¬ ((B.add x).X b ∨ Own ρ σ b) := fun z => by
                        rcases z with (z | z) | z
                        · exact hbx z
                        · obtain ⟨o', q⟩ := S1.xt b z
                          rw [hn1] at q; cases q
                        · obtain ⟨o', q⟩ := S1.there z
                          rw [hn1] at q; cases q
                      have hBH : (B.add x).H b = none := by
                        show B.H b = none
                        cases eb : B.H b with
                        | none => rfl
                        | some o' =>
                          have := S1.bh _ _ eb
                          rw [hn1] at this; cases this
                      rw [ar_none hnB hBH]
                      exact hb
                    · have hn0 : ¬ (Bs.ini2 (ar B ρ σ H1) (fun b => if b = ad then none else H1 b) x ad).H b = none := by
                        show ¬ (if b = ad then none else H1 b) = none
                        rw [if_neg hba]; exact hn1
                      rw [ar_some hz hn0] at hb
                      have hb' : ar B ρ σ H1 b = some o := hb
                      have hnB : ¬ (B.X b ∨ Own ρ σ b) := fun z => by
                        rw [ar_out z] at hb'
                        cases hb'
                      have hnB' : ¬ ((B.add x).X b ∨ Own ρ σ b) := fun z => by
                        rcases z with (z | z) | z
                        · exact hbx z
                        · exact hnB (.inl z)
                        · exact hnB (.inr z)
                      by_cases hBH : B.H b = none
                      · rw [ar_none hnB hBH] at hb'
                        rw [ar_none hnB' hBH]
                        exact sH1 _ _ hb'
                      · rw [ar_some hnB hBH] at hb'
                        rw [ar_some hnB' hBH]
                        exact hb'
            · rw [if_neg hf] at h
              exact h.elim
        · rw [if_neg hsc] at h
          exact h.elim
  refine PySem.W.callWith_K (h₀ := X.base) I.ok.mod.kin Mk.kp (thn (haa.run pos pins s σ H _ I hta) fun us s1 ⟨vs, H1, I1, r, q⟩ => ⟨I1.kIn, ?_⟩) hst hpl
  exact run_makeS Mk F (hr.mono hk) hb (tk.pass σ) I1 r q
end
end Dm
end

section
set_option Elab.async false
set_option linter.all false
set_option maxRecDepth 100000
set_option maxHeartbeats 4000000
/-! Dm: objects made with parameters left out. -/
namespace Dm
open PySem PySem.Spec L2 TL
section
variable {X : Cx} {E : ExE} {W : WX} {pos p q apos : Pos} {a e o : Expr} {ma mo : EM} {C : String} {es : List Expr} {am : AM}
structure MakeOkD (P : Program) (w : World) (K : PySem.W.Frag) (mg : Str → Option Value) (base : Heap) (b : Bool) (C : String) (k n : Nat) (g : IF) (dD : List Dm.D) : Prop where
  ex : ∃ (c f : Addr) (fd : FuncData) (ps : List Str) (ds : List Value) (dvs : List V), mg (C : Str) = some (.ref c) ∧ Mk K c f ∧ Binds K fd ps ds ∧ Vals dvs ds ∧ (∀ G : Hp, Reps K mg G dD dvs) ∧ FnOk P w K mg base (CXm b P w) k f fd ps (spI K mg C (n + dD.length) g)
structure MakeOkBD (P : Program) (w : World) (K : PySem.W.Frag) (mg : Str → Option Value) (base : Heap) (b : Bool) (C : String) (k n : Nat) (g : IF) (dD : List Dm.D) : Prop where
  ex : ∃ (c f : Addr) (fd : FuncData) (ps : List Str) (ds : List Value) (dvs : List V), mg (C : Str) = some (.ref c) ∧ Mk K c f ∧ Binds K fd ps ds ∧ Vals dvs ds ∧ (∀ G : Hp, Reps K mg G dD dvs) ∧ FnOk P w K mg base (CXm b P w) k f fd ps (spIB K mg C (n + dD.length) g)
theorem run_makeSD {CX : CXT} {k : Nat} {c f : Addr} {fd : FuncData} {ps : List Str} {sp : Sp} {E : XK} {pins : List (Addr × Obj)} {σ : St} {H : Hp} {s : Shared} {Q : VK} {us : List Value} {vs : List V} (M : Mk X.K c f) (F : FnOk X.prog X.w X.K X.mg X.base CX k f fd ps sp) (hr : Room (k + 1) X.A) {ds : List Value} {dvs : List V} (hb : Binds X.K fd ps ds) (hd : Vals dvs ds)
    (hx : PassesAt CX X σ E) (I : Inv X pins σ H s) (r : Vals vs us)
    (h : ∀ x dx, H x = none → H dx = none → dx ≠ x → sp (.ref x :: (vs ++ dvs)) (upd (upd H dx (.own x)) x (.ins c dx [])) (fun v H2 => v = .non ∧ Q (.ref x) H2) E) :
    wpAny (model X.prog X.w) X.A (call (.ref c) us) (EP X pins σ Q) X.xe s := by
  have hq := h (s.heap.objs.size + 1) s.heap.objs.size (I.hok.fresh (Nat.le_succ _)) (I.hok.fresh (Nat.le_refl _)) (Nat.ne_of_lt (Nat.lt_succ_self _))
  have I2 := Inv.made (C := c) I
  have r2 : Vals (V.ref (s.heap.objs.size + 1) :: vs) (Value.ref (s.heap.objs.size + 1) :: us) := .cons rfl r
  have r3 : Vals (V.ref (s.heap.objs.size + 1) :: (vs ++ dvs)) (Value.ref (s.heap.objs.size + 1) :: us ++ ds) := r2.append hd
  have hl : (Value.ref (s.heap.objs.size + 1) :: us ++ ds).length = ps.length := by
    have e := r3.length
    rw [F.len _ _ _ _ hq] at e
    exact e.symm
  have b := hb _ (Value.ref (s.heap.objs.size + 1) :: us) I2.kIn hl
  refine wpAny_call (make_map (f := f) I.kIn M.makes M.init (beq_iff_eq.mp M.fn) (codeAny_mono (F.run _ X.stack _ _ ⟨Value.ref (s.heap.objs.size + 1) :: us, []⟩ (Value.ref (s.heap.objs.size + 1) :: us ++ ds) _ _ E (hr.make c us [])
    (I2.env0.make c us []) b r3 hq) fun r s' hq' => ?_))
  cases r with
  | error e => exact hx pins _ _ e s' I2 hq'
  | ok fl =>
    cases fl with
    | ret u =>
      obtain ⟨v, H', I3, rv, ev, q3⟩ := I2.after hq'
      subst ev
      exact ⟨rv, ⟨V.ref (s.heap.objs.size + 1), H', I3, rfl, q3⟩⟩
    | next => exact False.elim hq'
    | brk => exact False.elim hq'
    | cont => exact False.elim hq'
theorem pm_makeD {b : Bool} {k k' n : Nat} {g : IF} {dD : List Dm.D} (M : MakeOkD X.prog X.w X.K X.mg X.base b C k n g dD) (tk : Tks b X W) (hr : Room k' X.A) (ha : PMA X E W (e :: es) am) (hn : AMn am n) (hk : k + 1 ≤ k' := by decide) (hg : Gl X (C : Str) := by rfl) (hdb : ((C : Str) == ("__debug__" : Str)) = false := by decide)
    (he : starEach (e :: es) X.env = (false, eval e X.env) :: starEach es X.env := by rfl) (hpl : (backTo pos (starEach es X.env)).any (·.1) = false := by rfl) :
    PM X E W (.Call (.Name (C : Str) p) (e :: es) [] pos) (mMake C (iDef g dD) am) := by
  obtain ⟨c, f, fd, ps, ds, dvs, hm, Mk, hb, hd, hD, F⟩ := M.ex
  refine ⟨fun pins s σ H Q I h => ?_⟩
  refine wpAny_Call_Name_kw (ld_glob I hg hm ?_ hdb)
  obtain ⟨B, ρ, S, h⟩ := h
  have hta : tA X.K X.mg E W am σ H fun vs H1 => ∀ x dx, H1 x = none → H1 dx = none → dx ≠ x → spI X.K X.mg C (n + dD.length) g (.ref x :: (vs ++ dvs)) (upd (upd H1 dx (.own x)) x (.ins c dx [])) (fun v H2 => v = .non ∧ Q (.ref x) H2) (WE W σ) := by
    refine ⟨B, ρ, S, ?_⟩
    replace h := h.gg
    unfold mMake at h
    cases ea : am ρ with
    | ex C => rw [ea] at h; exact h
    | bad => rw [ea] at h; exact h
    | ok xs =>
      rw [ea] at h
      intro ws H1 s1 rs x dx hx hdx hne
      rw [Res.bind_ok] at h
      unfold kept at h
      by_cases hf : xs.all (fun x => x.2.free || x.1.sc) = true
      · rw [if_pos hf, Res.bind_ok] at h
        have S1 := S.mono s1
        have rk := rs.keep S s1 (fun y hy => by have := List.all_eq_true.mp hf y hy; simpa using this)
        have sU : Same H1 (upd (upd H1 dx (.own x)) x (.ins c dx [])) := (Same.upd hdx).trans (Same.upd (by rw [upd_ne (fun z => hne z.symm)]; exact hx))
        refine ⟨by rw [List.length_cons, List.length_append, ← rs.len, hn ρ xs ea, ← (hD (fun _ => none)).length], ar B ρ σ H1, H1, x, c, dx, ws ++ dvs, [], [], [], xs.map (·.1) ++ dD, rfl, hm, S1.sub, sU, hx, upd_same, rfl, .nil, rk.app (hD _), ?_⟩
        unfold iDef at h
        cases eg : g (xs.map (·.1) ++ dD) [] [] with
        | ex C => rw [eg] at h; exact h.elim
        | bad => rw [eg] at h; exact h.elim
        | ok y =>
          obtain ⟨ns', es'⟩ := y
          rw [eg] at h
          intro H' us' s' hx' hl' r'
          refine ⟨rfl, ?_⟩
          have sH : Same H H' := s1.trans s'
          refine h (.ref x) H' sH ⟨x, _, .ins C ns', es', us', rfl, rfl, s1.free hx, hx', ?_, ?_⟩
          · exact ⟨c, dx, hm, hl', rfl⟩
          · refine r'.mono fun b o hb => ?_
            have hz : ¬ ((Bs.ini (ar B ρ σ H1) H1 x).X b ∨ Own [] [] b) := fun z => by
              rw [ar_out z] at hb
              cases hb
            have hbx : b ≠ x := fun z => hz (.inl z)
            by_cases hn1 : H1 b = none
            · have hn0 : (Bs.ini (ar B ρ σ H1) H1 x).H b = none := hn1
              rw [ar_none hz hn0] at hb
              have hnB : ¬ ((B.add x).X b ∨ Own ρ σ b) := fun z => by
                rcases z with (z | z) | z
                · exact hbx z
                · obtain ⟨o', q⟩ := S1.xt b z
                  rw [hn1] at q; cases q
                · obtain ⟨o', q⟩ := S1.there z
                  rw [hn1] at q; cases q
              have hBH : (B.add x).H b = none := by
                show B.H b = none
                cases eb : B.H b with
                | none => rfl
                | some o' =>
                  have := S1.bh _ _ eb
                  rw [hn1] at this; cases this
              rw [ar_none hnB hBH]
              exact hb
            · have hn0 : ¬ (Bs.ini (ar B ρ σ H1) H1 x).H b = none := hn1
              rw [ar_some hz hn0] at hb
              have hb' : ar B ρ σ H1 b = some o := hb
              have hnB : ¬ (B.X b ∨ Own ρ σ b) := fun z => by
                rw [ar_out z] at hb'
                cases hb'
              have hnB' : ¬ ((B.add x).X b ∨ Own ρ σ b) := fun z => by
                rcases z with (z | z) | z
                · exact hbx z
                · exact hnB (.inl z)
                · exact hnB (.inr z)
              by_cases hBH : B.H b = none
              · rw [ar_none hnB hBH] at hb'
                rw [ar_none hnB' hBH]
                exact s' _ _ hb'
              · rw [ar_some hnB hBH] at hb'
                rw [ar_some hnB' hBH]
                exact hb'
      · rw [if_neg hf] at h
        exact h.elim
  refine PySem.W.callWith_K (h₀ := X.base) I.ok.mod.kin Mk.kp (thn (ha.run pos pins s σ H _ I hta) fun us s1 ⟨vs, H1, I1, r, q⟩ => ⟨I1.kIn, ?_⟩) he hpl
  exact run_makeSD Mk F (hr.mono hk) hb hd (tk.pass σ) I1 r q
theorem pm_makeBD {b : Bool} {k k' n : Nat} {g : IF} {dD : List Dm.D} (M : MakeOkBD X.prog X.w X.K X.mg X.base b C k (n + 1) g dD) (tk : Tks b X W) (hr : Room k' X.A) (he : PM X E W e ma) (ha : PMA X E W es am) (hn : AMn am n) (hk : k + 1 ≤ k' := by decide) (hg : Gl X (C : Str) := by rfl) (hdb : ((C : Str) == ("__debug__" : Str)) = false := by decide)
    (hst : starEach (e :: es) X.env = (false, eval e X.env) :: starEach es X.env := by rfl) (hpl : (backTo pos (starEach es X.env)).any (·.1) = false := by rfl) :
    PM X E W (.Call (.Name (C : Str) p) (e :: es) [] pos) (mMakeB C (iDef g dD) ma am) := by
  obtain ⟨c, f, fd, ps, ds, dvs, hm, Mk, hb, hd, hD, F⟩ := M.ex
  have haa : PMA X E W (e :: es) (amCons ma am) := pma_cons he ha hst
  refine ⟨fun pins s σ H Q I h => ?_⟩
  refine wpAny_Call_Name_kw (ld_glob I hg hm ?_ hdb)
  obtain ⟨B, ρ, S, h⟩ := h
  have hta : tA X.K X.mg E W (amCons ma am) σ H fun vs H1 => ∀ x dx, H1 x = none → H1 dx = none → dx ≠ x → spIB X.K X.mg C (n + 1 + dD.length) g (.ref x :: (vs ++ dvs)) (upd (upd H1 dx (.own x)) x (.ins c dx [])) (fun v H2 => v = .non ∧ Q (.ref x) H2) (WE W σ) := by
    refine ⟨B, ρ, S, ?_⟩
    replace h := h.gg
    unfold mMakeB at h
    unfold amCons
    cases em : ma ρ with
    | ex C => rw [em] at h; exact h
    | bad => rw [em] at h; exact h
    | ok y0 =>
      obtain ⟨d0, t0⟩ := y0
      rw [em, Res.bind_ok] at h
      rw [Res.bind_ok]
      match d0, t0, h with
      | .seq .lst es0, .own i0, h =>
        replace h : GG X.mg W σ H (fun x => ∀ v H', Same H H' → RT X.K X.mg B ρ σ H H' x.1 x.2 v → Q v H') (if es0.all D.sc then (am ρ).bind fun xs => (kept xs).bind fun ds => (noEx (iDef g dD (.seq .lst es0 :: ds) [] [])).bind fun p => .ok (.obj C p.1 p.2, .fr) else .bad) := h
        by_cases hsc : es0.all D.sc = true
        · rw [if_pos hsc] at h
          cases ea : am ρ with
          | ex C => rw [ea] at h; exact h
          | bad => rw [ea] at h; exact h
          | ok xs =>
            rw [ea, Res.bind_ok] at h
            rw [Res.bind_ok]
            intro ws0 H1 s1 rs0 x dx hx hdx hne
            cases rs0 with
            | cons r00 rs =>
            rename_i v0 ws
            obtain ⟨kk, ds0, z1, z2, z3⟩ := (show ∃ k ds, ρ[i0]? = some (.oo k ds) ∧ D.seq .lst es0 = k.asD ds ∧ σ[i0]? = some (some v0) from r00)
            cases kk with
            | dic _ => cases z2
            | dit _ => cases z2
            | ins _ _ => cases z2
            | lst =>
            cases z2
            unfold kept at h
            by_cases hf : xs.all (fun x => x.2.free || x.1.sc) = true
            · rw [if_pos hf, Res.bind_ok] at h
              have S1 := S.mono s1
              obtain ⟨ad, o, us0, y1, y2, y3, y4⟩ := S1.ow i0 .lst es0 z1
              cases y3
              rw [z3] at y1
              cases y1
              have rk := rs.keep S s1 (fun y hy => by have := List.all_eq_true.mp hf y hy; simpa using this)
              have hax : ad ≠ x := fun z => by
                subst z
                rw [hx] at y2; cases y2
              have hadx : ad ≠ dx := fun z => by
                subst z
                rw [hdx] at y2; cases y2
              have hown : Own ρ σ ad := ⟨i0, .lst, es0, z1, z3⟩
              have ngx : ∀ b o, ar B ρ σ H1 b = some o → b ≠ ad := fun b o hb z => by
                subst z
                rw [ar_out (.inr hown)] at hb
                cases hb
              refine ⟨by rw [List.length_cons, List.length_append, List.length_cons, ← rs.len, hn ρ xs ea, ← (hD (fun _ => none)).length], ar B ρ σ H1, fun b => if b = ad then none else H1 b, x, ad, c, dx, ws ++ dvs, [], us0, [], [], xs.map (·.1) ++ dD, es0, rfl, fun z => hax z.symm, hm, ?_, ?_, ?_, if_pos rfl, upd_same, ?_, rfl, .nil, y4, rk.app (hD _), ?_⟩
              · intro b o hb
                show (if b = ad then none else H1 b) = some o
                rw [if_neg (ngx b o hb)]
                exact S1.sub _ _ hb
              · intro b o hb
                replace hb : (if b = ad then none else H1 b) = some o := hb
                by_cases z : b = ad
                · rw [if_pos z] at hb; cases hb
                · rw [if_neg z] at hb
                  have hbx : b ≠ x := fun q => by subst q; rw [hx] at hb; cases hb
                  have hbd : b ≠ dx := fun q => by subst q; rw [hdx] at hb; cases hb
                  rw [upd_ne hbx, upd_ne hbd]
                  exact hb
              · show (if x = ad then none else H1 x) = none
                rw [if_neg (fun z => hax z.symm)]
                exact hx
              · rw [upd_ne hax, upd_ne hadx]
                exact y2
              · have hi : iDef g dD (.seq .lst es0 :: xs.map (·.1)) [] [] = g (.seq .lst es0 :: (xs.map (·.1) ++ dD)) [] [] := rfl
                rw [hi] at h
                cases eg : g (.seq .lst es0 :: (xs.map (·.1) ++ dD)) [] [] with
                | ex C => rw [eg] at h; exact h.elim
                | bad => rw [eg] at h; exact h.elim
                | ok y =>
                  obtain ⟨ns', es'⟩ := y
                  rw [eg] at h
                  intro H' us' us0' s' hx' ha' r0' hl' r'
                  refine ⟨rfl, ?_⟩
                  obtain rfl := reps_det y4 r0' hsc
                  have sH1 : Same H1 H' := fun b o hb => by
                    by_cases z : b = ad
                    · subst z
                      rw [y2] at hb
                      cases hb
                      exact ha'
                    · exact s' b o (show (if b = ad then none else H1 b) = some o by rw [if_neg z]; exact hb)
                  have sH : Same H H' := s1.trans sH1
                  refine h (.ref x) H' sH ⟨x, _, .ins C ns', es', us', rfl, rfl, s1.free hx, hx', ?_, ?_⟩
                  · exact ⟨c, dx, hm, hl', rfl⟩
                  · refine r'.mono fun b o hb => ?_
                    have hz : ¬ ((Bs.ini2 (ar B ρ σ H1) (fun b => if b = ad then none else H1 b) x ad).X b ∨ Own [] [] b) := fun z => by
                      rw [ar_out z] at hb
                      cases hb
                    have hbx : b ≠ x := fun z => hz (.inl (.inl z))
                    have hba : b ≠ ad := fun z => hz (.inl (.inr z))
                    by_cases hn1 : H1 b = none
                    · have hn0 : (Bs.ini2 (ar B ρ σ H1) (fun b => if b = ad then none else H1 b) x ad).H b = none := by
                        show (if b = ad then none else H1 b) = none
                        rw [if_neg hba]; exact hn1
                      rw [ar_none hz hn0] at hb
                      have hnB : ¬ ((B.add x).X b ∨ Own ρ σ b) := fun z => by
                        rcases z with (z | z) | z
                        · exact hbx z
                        · obtain ⟨o', q⟩ := S1.xt b z
                          rw [hn1] at q; cases q
                        · obtain ⟨o', q⟩ := S1.there z
                          rw [hn1] at q; cases q
                      have hBH : (B.add x).H b = none := by
                        show B.H b = none
                        cases eb : B.H b with
                        | none => rfl
                        | some o' =>
                          have := S1.bh _ _ eb
                          rw [hn1] at this; cases this
                      rw [ar_none hnB hBH]
                      exact hb
                    · have hn0 : ¬ (Bs.ini2 (ar B ρ σ H1) (fun b => if b = ad then none else H1 b) x ad).H b = none := by
                        show ¬ (if b = ad then none else H1 b) = none
                        rw [if_neg hba]; exact hn1
                      rw [ar_some hz hn0] at hb
                      have hb' : ar B ρ σ H1 b = some o := hb
                      have hnB : ¬ (B.X b ∨ Own ρ σ b) := fun z => by
                        rw [ar_out z] at hb'
                        cases hb'
                      have hnB' : ¬ ((B.add x).X b ∨ Own ρ σ b) := fun z => by
                        rcases z with (z | z) | z
                        · exact hbx z
                        · exact hnB (.inl z)
                        · exact hnB (.inr z)
                      by_cases hBH : B.H b = none
                      · rw [ar_none hnB hBH] at hb'
                        rw [ar_none hnB' hBH]
                        exact sH1 _ _ hb'
                      · rw [ar_some hnB hBH] at hb'
                        rw [ar_some hnB' hBH]
                        exact hb'
            · rw [if_neg hf] at h
              exact h.elim
        · rw [if_neg hsc] at h
          exact h.elim
  refine PySem.W.callWith_K (h₀ := X.base) I.ok.mod.kin Mk.kp (thn (haa.run pos pins s σ H _ I hta) fun us s1 ⟨vs, H1, I1, r, q⟩ => ⟨I1.kIn, ?_⟩) hst hpl
  exact run_makeSD Mk F (hr.mono hk) hb hd (tk.pass σ) I1 r q
end
/-- what the defaults stand for -/
def DV (K : PySem.W.Frag) (mg : Str → Option Value) (dD : List Dm.D) (us : List Value) : Prop := ∃ dvs : List V, Vals dvs us ∧ ∀ G : Hp, Reps K mg G dD dvs
theorem dv_nil {K : PySem.W.Frag} {mg : Str → Option Value} : DV K mg [] [] := ⟨[], .nil, fun _ => .nil⟩
theorem dv_int {K : PySem.W.Frag} {mg : Str → Option Value} {dD : List Dm.D} {us : List Value} {i : Int} {t : Tok} (r : DV K mg dD us) : DV K mg (.int i :: dD) (.int i t :: us) := by
  obtain ⟨dvs, h1, h2⟩ := r
  exact ⟨.int i :: dvs, .cons ⟨t, rfl⟩ h1, fun G => .cons (.int i) (h2 G)⟩
theorem dv_bl {K : PySem.W.Frag} {mg : Str → Option Value} {dD : List Dm.D} {us : List Value} {b : Bool} (r : DV K mg dD us) : DV K mg (.bl b :: dD) (.bool b :: us) := by
  obtain ⟨dvs, h1, h2⟩ := r
  exact ⟨.bl b :: dvs, .cons rfl h1, fun G => .cons (.bl b) (h2 G)⟩
theorem dv_str {K : PySem.W.Frag} {mg : Str → Option Value} {dD : List Dm.D} {us : List Value} {s : List Nat} {z : Str} {t : Tok} (h : z = ⟨s.toArray⟩) (r : DV K mg dD us) : DV K mg (.str s :: dD) (.str z t :: us) := by
  obtain ⟨dvs, h1, h2⟩ := r
  subst h
  exact ⟨.str ⟨s.toArray⟩ :: dvs, .cons ⟨t, rfl⟩ h1, fun G => .cons (.str s) (h2 G)⟩
theorem binds_dfl {K : PySem.W.Frag} {fd : FuncData} {T : Addr} {its : List Value} {m : Nat} {cls : Value} {od : Option Addr} {sl : Array (Option Value)} {ps : List Str} (lT : K.lookup T = some ⟨cls, od, .seq its.toArray m, sl⟩) (n j : Nat) (hn : n + (its.length - j) = ps.length)
    (h : ∀ us : List Value, us.length = n → ∃ k : Option (Array Value) → Sem (List (Str × Value)), bindArgs fd ⟨us, []⟩ = seqItems? (.ref T) >>= k ∧ k (some its.toArray) = pure (ps.zip (us ++ its.drop j))) : Binds K fd ps (its.drop j) := fun s us X hlen => by
  have hl : us.length = n := by
    rw [List.length_append, List.length_drop] at hlen
    omega
  obtain ⟨k, e1, e2⟩ := h us hl
  refine BindsTo.of_looks fun M => ?_
  rw [e1]
  exact looks_items X lT rfl (.of_pure e2)
theorem makeD {P : Program} {w : World} {K : PySem.W.Frag} {mg : Str → Option Value} {base : Heap} {b : Bool} {C : String} {k n : Nat} {g : IF} {dD : List Dm.D} {c f : Addr} {fd : FuncData} {ps : List Str} {ds : List Value} (hm : mg (C : Str) = some (.ref c)) (M : Mk K c f) (hb : Binds K fd ps ds) (hd : DV K mg dD ds)
    (F : FnOk P w K mg base (CXm b P w) k f fd ps (spI K mg C (n + dD.length) g)) : MakeOkD P w K mg base b C k n g dD := by
  obtain ⟨dvs, h1, h2⟩ := hd
  exact ⟨c, f, fd, ps, ds, dvs, hm, M, hb, h1, h2, F⟩
theorem makeBD {P : Program} {w : World} {K : PySem.W.Frag} {mg : Str → Option Value} {base : Heap} {b : Bool} {C : String} {k n : Nat} {g : IF} {dD : List Dm.D} {c f : Addr} {fd : FuncData} {ps : List Str} {ds : List Value} (hm : mg (C : Str) = some (.ref c)) (M : Mk K c f) (hb : Binds K fd ps ds) (hd : DV K mg dD ds)
    (F : FnOk P w K mg base (CXm b P w) k f fd ps (spIB K mg C (n + dD.length) g)) : MakeOkBD P w K mg base b C k n g dD := by
  obtain ⟨dvs, h1, h2⟩ := hd
  exact ⟨c, f, fd, ps, ds, dvs, hm, M, hb, h1, h2, F⟩
end Dm
end

section
set_option Elab.async false
set_option linter.all false
set_option maxRecDepth 100000
set_option maxHeartbeats 4000000
/-! Dm: str.partition, str.replace, int(text). -/
namespace Dm
open PySem PySem.Spec L2 TL PySem.StrLaws
/-- a token is given out on the way -/
def Up {α : Type} (t : Sem α) : Prop := ∀ (M : Model) (Γ : PySem.Ctx) (Q : α → Pos → Shared → Prop) (E : Value → Pos → Shared → Prop) (p : Pos) (s : Shared),
  Sem.wp M Γ t Q E p s → Sem.wp M Γ t (fun a p' s' => s.toks + 1 ≤ s'.toks ∧ Q a p' s') E p s
theorem Up.bind {α β : Type} {m : Sem α} {f : α → Sem β} (h : Up m) : Up (m >>= f) := fun M Γ Q E p s w => by
  rw [Sem.wp_bind'] at w ⊢
  exact Sem.wp_mono M Γ m (fun a p' s' ⟨h1, h2⟩ => Sem.wp_mono M Γ (f a) (fun _ _ _ x => x) (fun _ _ _ x => x.2) p' s' (Sem.wp_toks M Γ (s.toks + 1) (f a) _ _ p' s' h1 h2)) (fun _ _ _ x => x) p s (h M Γ _ E p s w)
theorem Up.bind_r {α β : Type} {m : Sem α} {f : α → Sem β} (h : ∀ a, Up (f a)) : Up (m >>= f) := fun M Γ Q E p s w => by
  rw [Sem.wp_bind'] at w ⊢
  refine Sem.wp_mono M Γ m (fun a p' s' h' => ?_) (fun _ _ _ x => x.2) p s (Sem.wp_toks M Γ s.toks m _ _ p s (Nat.le_refl _) w)
  obtain ⟨h1, h2⟩ := h'
  exact Sem.wp_mono M Γ (f a) (fun _ _ _ x => ⟨Nat.le_trans (Nat.succ_le_succ h1) x.1, x.2⟩) (fun _ _ _ x => x) p' s' (h a M Γ _ E p' s' h2)
theorem Up.hold {α : Type} {m : Sem α} {vs : List Value} (h : Up m) : Up (holding vs m) := fun M Γ Q E p s w => by
  rw [Sem.wp_holding] at w ⊢
  exact h M Γ Q E p s w
section
variable {env : Env} {pos c0 p2 pf : Pos} {i : Int} {j : Nat} {a b v : Expr} {hi : Option Expr}
theorem up_int : Up (eval (.Constant (.int i) j pos) env) := fun M Γ Q E p s w => ⟨Nat.le_refl _, w⟩
theorem up_str {x : Str} : Up (eval (.Constant (.str x) j pos) env) := fun M Γ Q E p s w => ⟨Nat.le_refl _, w⟩
theorem up_from : Up (eval (.Subscript v (.Slice (some (.Constant (.int i) j c0)) hi none p2) pos) env) := by
  rw [eval_Subscript]
  refine Up.bind_r fun o => Up.bind (Up.hold ?_)
  rw [arm_eval_Slice]
  exact Up.bind (up_int (i := i) (j := j) (pos := c0) (env := env))
theorem up_call3 {f : Str} (hs : starEach [a, b, .Constant (.int i) j c0] env = [(false, eval a env), (false, eval b env), (false, eval (.Constant (.int i) j c0) env)] := by rfl) :
    Up (eval (.Call (.Name f pf) [a, b, .Constant (.int i) j c0] [] pos) env) := by
  show Up (eval (.Name f pf) env >>= fun fv => callWith pos fv [] (backTo pos (starEach [a, b, .Constant (.int i) j c0] env)) (backToKw pos (keywordEach [] env)))
  rw [hs]
  refine Up.bind_r fun fv => ?_
  unfold callWith
  refine Up.bind (Up.hold ?_)
  unfold evalArgs
  refine Up.bind ?_
  show Up (spliced [(false, eval a env), (false, eval b env), (false, eval (.Constant (.int i) j c0) env)])
  unfold spliced
  refine Up.bind_r fun _ => Up.bind_r fun _ => Up.bind (Up.hold ?_)
  unfold spliced
  refine Up.bind_r fun _ => Up.bind_r fun _ => Up.bind (Up.hold ?_)
  unfold spliced
  exact Up.bind up_int
end
section
variable {X : Cx} {E : ExE} {W : WX} {pos p p2 c0 c1 apos : Pos} {a b c e : Expr} {ma mb mc : EM} {es : List Expr} {am : AM}
theorem pe_up {t : TE} {pins : List (Addr × Obj)} {s : Shared} {σ : St} {H : Hp} {Q : VK} (ha : PE X e t) (hu : Up (eval e X.env)) (I : Inv X pins σ H s) (h : t σ H Q) :
    wpAny (model X.prog X.w) X.A (eval e X.env) (fun v s1 => s.toks + 1 ≤ s1.toks ∧ EP X pins σ Q v s1) X.xe s := fun Γ p hΓ => hu _ Γ _ _ p s (ha.run pins s σ H Q I h Γ p hΓ)
abbrev PMk (X : Cx) (E : ExE) (W : WX) (e : Expr) (m : EM) : Prop := PET X e (tE X.K X.mg E W m)
theorem PETimp {t t' : TE} (h : PET X e t) (k : ∀ σ H Q, t' σ H Q → t σ H Q) : PET X e t' := fun pins s σ H Q h0 I h' => h pins s σ H Q h0 I (k σ H Q h')
theorem pmk_of (h : PM X E W e ma) : PMk X E W e ma := fun pins s σ H Q _ I q => h.run pins s σ H Q I q
theorem replL_one (c d : Nat) : ∀ s : List Nat, replL [c] [d] s = repl1 c d s
  | [] => replL_nil
  | x :: s => by
    by_cases h : x = c
    · rw [replL_hit (by simp) (by simp [h]), show ((x :: s).drop [c].length) = s from rfl, replL_one c d s]
      simp [repl1, h]
    · rw [replL_miss (by simp [h]), replL_one c d s]
      simp [repl1, h]
theorem replace_one (s : List Nat) (c d : Nat) : Txt.replace ⟨s.toArray⟩ ⟨[c].toArray⟩ ⟨[d].toArray⟩ = ⟨(repl1 c d s).toArray⟩ := by
  refine ext_tl ?_
  show (Txt.replace ⟨s.toArray⟩ ⟨[c].toArray⟩ ⟨[d].toArray⟩).cps.toList = _
  rw [replace_list (by show 1 ≤ [c].toArray.size; simp)]
  show replL [c].toArray.toList [d].toArray.toList s.toArray.toList = _
  simp only [List.toList_toArray]
  exact replL_one c d s
theorem gm_repl {y z : Str} {c d : Nat} (hy : y = ⟨[c].toArray⟩) (hz : z = ⟨[d].toArray⟩) {σ : St} {H : Hp} {Q : VK} (h : tE X.K X.mg E W (mS0 (fRepl c d) ma) σ H Q) : CwR.tReplC (tE X.K X.mg E W ma) y z σ H Q := by
  obtain ⟨B, ρ, S, h⟩ := h
  subst hy
  subst hz
  exact GM.bind S h fun x tx vx H1 rx e1 S1 h1 => by
    have rpx := rx.rp S1
    cases rpx <;> first | exact False.elim h1 | skip
    case str s =>
      have h2 : GM X.K X.mg W B ρ σ H1 (if s.length + (s.length + 1) * 1 ≤ lim then sOk (.str (repl1 c d s)) else .bad) Q := h1
      split at h2
      · rename_i hl
        refine ⟨_, rfl, ?_, ?_⟩
        · rw [lim_def] at hl
          show s.toArray.size + (s.toArray.size + 1) * [d].toArray.size ≤ 16777216
          simp only [List.size_toArray, List.length_singleton]
          exact hl
        · rw [replace_one]
          exact GM.sc (d := .str _) h2 (.str _)
      · exact False.elim h2
theorem pmk_repl {y z : Str} {c d j k : Nat} (hy : y = ⟨[c].toArray⟩) (hz : z = ⟨[d].toArray⟩) (ha : PM X E W a ma) (hyz : (y == z) = false := by decide)
    (hst : starEach [.Constant (.str y) j c0, .Constant (.str z) k c1] X.env = [(false, eval (.Constant (.str y) j c0) X.env), (false, eval (.Constant (.str z) k c1) X.env)] := by rfl)
    (hbase : attributeBase a "replace" X.env (eval a X.env) = eval a X.env := by rfl) (hline : (apos.endLine == pos.line) = true := by rfl) :
    PMk X E W (.Call (.Attribute a "replace" apos) [.Constant (.str y) j c0, .Constant (.str z) k c1] [] pos) (mS0 (fRepl c d) ma) :=
  PETimp (CwR.pet_replC ha hyz hst hbase hline) fun σ H Q h => gm_repl hy hz h
theorem pm_replG {y z : Str} {c d j k : Nat} (hy : y = ⟨[c].toArray⟩) (hz : z = ⟨[d].toArray⟩) (ha : PM X E W a ma) (hu : Up (eval a X.env)) (hyz : (y == z) = false := by decide)
    (hst : starEach [.Constant (.str y) j c0, .Constant (.str z) k c1] X.env = [(false, eval (.Constant (.str y) j c0) X.env), (false, eval (.Constant (.str z) k c1) X.env)] := by rfl)
    (hbase : attributeBase a "replace" X.env (eval a X.env) = eval a X.env := by rfl) (hline : (apos.endLine == pos.line) = true := by rfl) :
    PM X E W (.Call (.Attribute a "replace" apos) [.Constant (.str y) j c0, .Constant (.str z) k c1] [] pos) (mS0 (fRepl c d) ma) :=
  PE.imp (t := CwR.tReplC (tE X.K X.mg E W ma) y z) ⟨fun pins s σ H Q I h => by
    refine PySem.Call_method2 hbase hst hline (wpAny_mono (pe_up ha hu I h) (fun v s1 q => ?_) fun _ _ z => z)
    obtain ⟨hk, v', H1, I1, r1, x, e1, hb, q⟩ := q
    subst e1
    obtain ⟨tx, e2⟩ := r1
    subst e2
    refine ⟨"str", _, PySem.F.plainAttrs_str, PySem.F.slot_str_replace, PySem.F.type_str_replace, typeIs_str _ _ _, (fun _ e => nomatch e), Calls.callWith_builtin rfl (Calls.evalArgs_plain (Calls.spliced_cons ?_))⟩
    refine Calls.Constant_str (Calls.spliced_cons (Calls.Constant_str (Calls.spliced_nil ?_)))
    exact PySem.SC.replace (by show s1.toks ≠ 0; omega) (by show s1.toks + 1 ≠ 0; omega) (by show s1.toks ≠ s1.toks + 1; omega) hyz hb fun t' k => ⟨.str (Txt.replace x y z), H1, I1.tok k, ⟨t', rfl⟩, q⟩⟩ fun σ H Q h => gm_repl hy hz h
theorem pmk_bin {op : Operator} {r : R2} {f : Op2} (ho : OpR X (binaryOp op) r) (hf : OpM X E W r f) (ha : PMk X E W a ma) (hb : PMk X E W b mb) : PMk X E W (.BinOp a op b pos) (mB f ma mb) :=
  PETimp (CwR.pet_op ho ha hb) fun σ H Q ⟨B, ρ, S, h⟩ =>
    GM.bind S h fun x tx vx H1 rx e1 S1 h1 => GM.bind S1 h1 fun y ty vy H2 ry e2 S2 h2 => hf B ρ σ H2 x y vx vy Q S2 ((rx.rp S1).mono e2) (ry.rp S2) h2
/-- the left side gives out a token, the right side wants one -/
theorem pm_binG {op : Operator} {r : R2} {f : Op2} (ho : OpR X (binaryOp op) r) (hf : OpM X E W r f) (ha : PM X E W a ma) (hu : Up (eval a X.env)) (hb : PMk X E W b mb) : PM X E W (.BinOp a op b pos) (mB f ma mb) :=
  PE.imp (t := tOp r (tE X.K X.mg E W ma) (tE X.K X.mg E W mb)) ⟨fun pins s σ H Q I h => by
    refine wpAny_BinOp (wpAny_mono (pe_up ha hu I h) (fun v s1 q => ?_) fun _ _ z => z)
    obtain ⟨hk, x, H1, I1, r1, q1⟩ := q
    exact thn (hb pins s1 σ H1 _ (by omega) I1 q1) fun u s2 ⟨y, H2, I2, r2, q2⟩ => ho pins s2 σ H2 x y v u Q I2 r1 r2 q2⟩ fun σ H Q ⟨B, ρ, S, h⟩ =>
    GM.bind S h fun x tx vx H1 rx e1 S1 h1 => GM.bind S1 h1 fun y ty vy H2 ry e2 S2 h2 => hf B ρ σ H2 x y vx vy Q S2 ((rx.rp S1).mono e2) (ry.rp S2) h2
theorem pmk_add (ha : PMk X E W a ma) (hb : PMk X E W b mb) : PMk X E W (.BinOp a .Add b pos) (mB oAdd ma mb) := pmk_bin (OpR.or (OpR.or op_add op_add_str) (OpR.or op_cat op_catA)) om_add ha hb
theorem pm_addG (ha : PM X E W a ma) (hu : Up (eval a X.env)) (hb : PMk X E W b mb) : PM X E W (.BinOp a .Add b pos) (mB oAdd ma mb) := pm_binG (OpR.or (OpR.or op_add op_add_str) (OpR.or op_cat op_catA)) om_add ha hu hb
theorem strSub_l (s : List Nat) (i j : Nat) : PySem.Builtin.Str.strSub ⟨s.toArray⟩ i j = ⟨((s.drop i).take (j - i)).toArray⟩ := by
  refine ext_tl ?_
  show (PySem.Builtin.Str.strSub ⟨s.toArray⟩ i j).cps.toList = _
  rw [strSub_toList]
theorem part_eq (s : List Nat) (c : Nat) : Txt.partition ⟨s.toArray⟩ ⟨[c].toArray⟩ = match s.findIdx? (· == c) with
    | some i => (⟨(s.take i).toArray⟩, ⟨[c].toArray⟩, ⟨(s.drop (i + 1)).toArray⟩)
    | none => (⟨s.toArray⟩, ⟨([] : List Nat).toArray⟩, ⟨([] : List Nat).toArray⟩) := by
  have hat : ∀ i : Nat, At ⟨s.toArray⟩ ⟨[c].toArray⟩ (⟨s.toArray⟩ : Str).length i ↔ s[i]? = some c := fun i => by
    have := PySem.StrLaws.subAt_one ⟨s.toArray⟩ c i
    simpa [At] using this
  unfold Txt.partition
  rcases PySem.StrLaws.occ_head ⟨s.toArray⟩ ⟨[c].toArray⟩ 1 (Nat.le_refl _) with ⟨h0, hn⟩ | ⟨i, r, h0, h1, hn⟩
  · rw [h0]
    have : s.findIdx? (· == c) = none := by
      rw [List.findIdx?_eq_none_iff]
      intro x hx
      obtain ⟨i, hi⟩ := List.mem_iff_getElem?.mp hx
      have h2 := hn i
      rw [hat i, hi] at h2
      simpa using h2
    rw [this]
    rfl
  · rw [h0]
    have hi := (hat i).mp h1
    have : s.findIdx? (· == c) = some i := by
      rw [List.findIdx?_eq_some_iff_getElem]
      have hl : i < s.length := (List.getElem?_eq_some_iff.mp hi).1
      refine ⟨hl, ?_, fun j hj => ?_⟩
      · rw [(List.getElem?_eq_some_iff.mp hi).2]
        simp
      · have h2 := hn j hj
        rw [hat j, List.getElem?_eq_getElem (by omega)] at h2
        simpa using h2
    rw [this]
    show (PySem.Builtin.Str.strSub ⟨s.toArray⟩ 0 i, (⟨[c].toArray⟩ : Str), PySem.Builtin.Str.strSub ⟨s.toArray⟩ (i + [c].toArray.size) s.toArray.size) = _
    rw [strSub_l, strSub_l]
    simp only [List.drop_zero, Nat.sub_zero, List.size_toArray, List.length_singleton]
    rw [List.take_of_length_le (l := s.drop (i + 1)) (by rw [List.length_drop]; exact Nat.le_refl _)]
theorem pm_part (ha : PM X E W a ma) (hb : PM X E W b mb) (hs : starEach [b] X.env = [(false, eval b X.env)] := by rfl) (hbase : attributeBase a "partition" X.env (eval a X.env) = eval a X.env := by rfl) (hline : (apos.endLine == pos.line) = true := by rfl) :
    PM X E W (.Call (.Attribute a "partition" apos) [b] [] pos) (mS1 fPart ma mb) :=
  pm_s1 PySem.F.slot_str_partition PySem.F.type_str_partition mt_partition (fun B ρ σ H s y vy Q S ry h => by
    cases ry <;> first | exact False.elim h | skip
    case str t =>
      match t, h with
      | [c], h =>
        have h2 : GM X.K X.mg W B ρ σ H (if s.length ≤ lim then (match s.findIdx? (· == c) with
          | some i => Res.ok (D.seq .tup [.str (s.take i), .str [c], .str (s.drop (i + 1))], .cl)
          | none => .ok (.seq .tup [.str s, .str [], .str []], .cl)) else .bad) Q := h
        split at h2
        · rename_i hl
          rw [lim_def] at hl
          refine ⟨_, _, rfl, rfl, rfl, by rw [sizeLine_eq]; exact hl, fun p hp => ?_⟩
          rw [part_eq]
          cases e : s.findIdx? (· == c) with
          | none =>
            rw [e] at h2
            exact h2 (.ref p) _ (Same.upd hp) (Rep.tup (.of (ar_at S hp)) (.cons (.str _) (.cons (.str _) (.cons (.str _) .nil))))
          | some i =>
            rw [e] at h2
            exact h2 (.ref p) _ (Same.upd hp) (Rep.tup (.of (ar_at S hp)) (.cons (.str _) (.cons (.str _) (.cons (.str _) .nil))))
        · exact False.elim h2
      | [], h => exact False.elim h
      | _ :: _ :: _, h => exact False.elim h) ha hb hs hbase hline
theorem bm_intS : BltM X E W (fun xs H Q => ((∃ i, xs = [.int i] ∧ Q (.int i) H) ∨ ∃ k, xs = [.bl k] ∧ Q (.int (if k then 1 else 0)) H) ∨ ∃ a n, xs = [.str a] ∧ PySem.intText? a = some n ∧ a.length ≤ 640 ∧ Q (.int n) H) bIntS := by
  intro B ρ σ H xs vs Q S hl hx h
  match xs, h with
  | [], h => exact False.elim h
  | [x], h =>
    obtain ⟨v, rfl, r⟩ := args1 hl hx
    cases r <;> first | exact False.elim h | skip
    case bl i => exact .inl (.inr ⟨i, rfl, GM.sc (d := .int _) h (.int _)⟩)
    case int i => exact .inl (.inl ⟨i, rfl, GM.sc (d := .int _) h (.int _)⟩)
    case str s =>
      have h3 : GM X.K X.mg W B ρ σ H ((if !s.isEmpty && decide (s.length ≤ 640) && s.all isDig then Res.ok (D.int (decV s)) else .bad).bind fun d => .ok (d, .cl)) Q := h
      split at h3
      · rename_i hc
        simp only [Bool.and_eq_true, decide_eq_true_eq, Bool.not_eq_true', List.isEmpty_eq_false_iff, List.all_eq_true, isDig] at hc
        obtain ⟨⟨h1, h2⟩, h4⟩ := hc
        have e := PySem.intText_digits (x := ⟨s.toArray⟩) (fun c hc => h4 c hc) h1 (by show s.toArray.size ≤ 4300; simp; omega)
        refine .inr ⟨_, _, rfl, e, h2, GM.sc (d := .int _) h3 (.int _)⟩
      · exact False.elim h3
  | x :: y :: xs, h => cases x <;> exact False.elim h
theorem pet_slice {te : TE} {tl th : TO} {lo hi : Option Expr} {r : V → Option Int → Option Int → Hp → VK → Prop} (hr : SlR X r) (he : PET X e te) (hl : PO X lo tl) (hu : PO X hi th) : PET X (.Subscript e (.Slice lo hi none p2) pos) (tSl r te tl th) := by
  intro pins s σ H Q h0 I h
  refine PyProof.Rows.Subscript_ (thn (he pins s σ H _ h0 I h) fun v s1 ⟨x, H1, I1, r1, q1⟩ => ?_)
  refine wpAny_Slice (thn (hl.run pins s1 σ H1 _ I1 q1) fun vl s2 ⟨l, H2, I2, pl, q2⟩ => thn (hu.run pins s2 σ H2 _ I2 q2) fun vu s3 ⟨u, H3, I3, pu, q3⟩ => ?_)
  rw [evalPart_none]
  refine wpAny_pure ?_
  have I4 : Inv X pins σ H3 { s3 with heap := s3.heap.push { cls := .type "slice", data := .fields #[vl, vu, .none] } } := I3.kept (t' := s3.toks) fun b ob q => Heap.get?_push_of_some _ q
  obtain ⟨T, id, hT, ht, hg⟩ := hr pins { s3 with heap := s3.heap.push { cls := .type "slice", data := .fields #[vl, vu, .none] } } σ H3 x v vl vu l u s3.heap.objs.size Q I4 r1 (Heap.IsSliceOf.new ..) pl pu q3
  show wpAny (model X.prog X.w) X.A (PyProof.Rows.subscriptTail e (.Slice lo hi none p2) v (.ref s3.heap.objs.size)) (EP X pins σ Q) X.xe { s3 with heap := s3.heap.push { cls := .type "slice", data := .fields #[vl, vu, .none] } }
  exact PyProof.Rows.tail_any (ops := [.ref s3.heap.objs.size, v]) ht hT hg (by with_unfolding_all rfl)
theorem pmk_cut {lo hi : Option Expr} {ml mh : OM} {p2 : Pos} (ha : PMk X E W a ma) (hl : PMO X E W lo ml) (hh : PMO X E W hi mh)   : PMk X E W (.Subscript a (.Slice lo hi none p2) pos) (mCut ma ml mh) :=
  PETimp (pet_slice (SlR.or sl_str (SlR.or sl_list sl_tup)) ha hl hh) fun σ H Q ⟨B, ρ, S, h⟩ => GM.bind S h fun x tx vx H1 rx e1 S1 h1 =>
    GG.bindO S1 h1.gg fun l H2 e2 S2 h2 => GG.bindO S2 (GG.mono h2 e2 fun _ q => q) fun u H3 e3 S3 h3 => by
      have rp := ((rx.rp S1).mono e2).mono e3
      have h4 : GM X.K X.mg W B ρ σ H3 (dCut x l u) Q := by
        have g : GG X.mg W σ H3 (PV X.K X.mg B ρ σ H1 Q) (dCut x l u) := GG.mono h3 e3 fun _ q => q
        have e13 : Same H1 H3 := e2.trans e3
        refine GG.gm (GG.mono g (Same.refl H3) fun a q v H' e' r => q v H' (e13.trans e') ?_)
        obtain ⟨d, t⟩ := a
        cases t with
        | cl => exact r
        | own i => exact r
        | fr =>
          obtain ⟨a, o, k, ds, vs, q1, q2, q3, q4, hk, q5⟩ := r
          exact ⟨a, o, k, ds, vs, q1, q2, e13.free q3, q4, hk, q5⟩
      cases rp <;> first | exact False.elim h4 | skip
      case str s =>
        have h5 : GM X.K X.mg W B ρ σ H3 (if s.length ≤ lim then .ok (.str (cutL s l u), .cl) else .bad) Q := h4
        split at h5
        · rename_i hl
          refine .inl ⟨_, rfl, Nat.le_trans hl lim_le, ?_⟩
          rw [cutS_eq]
          exact GM.sc (d := .str _) h5 (.str _)
        · exact False.elim h5
      case lst p ds vs hv r => exact .inr (.inl ⟨p, vs, rfl, .of hv, fun p hp => GM.fresh S3 h4 (cutL_rep r l u) hp⟩)
      case rol p ds vs hv r => exact .inr (.inl ⟨p, vs, rfl, hv, fun p hp => GM.fresh S3 h4 (cutL_rep r l u) hp⟩)
      case tup p ds vs hv r =>
        have h5 : GM X.K X.mg W B ρ σ H3 (if sIx ds.length 0 l = 0 ∧ sIx ds.length ds.length u = ds.length then .bad else .ok (.seq .tup (cutL ds l u), .cl)) Q := h4
        split at h5
        · exact False.elim h5
        · rename_i hn
          refine .inr (.inr ⟨p, vs, rfl, same_tup S3.sub hv, ?_, fun p hp => ?_⟩)
          · rw [← sIx_eq, ← sIx_eq, ← r.length]
            exact hn
          · exact h5 (.ref p) _ (Same.upd hp) (Rep.tup (.of (ar_at S3 hp)) ((cutL_rep r l u).mono (ar_mono (Same.upd hp))))
end
end Dm
end

section
set_option Elab.async false
set_option linter.all false
set_option maxRecDepth 100000
namespace Wk
open PySem PySem.Spec L2 TL Dm M
open PyProof.Rows (envOfC)
def topS (i : Nat) : Stmt := PySem.Challenge.pw_padwright_k91_values_and_edges_told.main.body.getD i (.Pass ⟨0, 0, 0, 0⟩)
def clsS (i j : Nat) : Stmt := match topS i with
  | .ClassDef _ _ _ b _ _ _ _ _ _ _ => b.getD j (.Pass ⟨0, 0, 0, 0⟩)
  | s => s
section
variable {P : Program} {w : World} {K : PySem.W.Frag} {mg : Str → Option Value} {base : Heap}
theorem sc_Form_init : FnScope ["self", "width", "fill", "side", "strict"] ["self", "width", "fill", "side", "strict"] (defScope (clsS 26 0)) := ⟨rfl, rfl, rfl, by decide +kernel, rfl, by decide +kernel, by decide +kernel⟩
set_option maxHeartbeats 4000000 in
theorem ok_Form_init {f : Addr} {fd : FuncData} (F : FunD K "__init__" "Form.__init__" (clsS 26 0) f fd) {Cx : String} (fa_strict : ClsA K mg "strict" Cx) (fa_side : ClsA K mg "side" Cx) (fa_fill : ClsA K mg "fill" Cx) (fa_width : ClsA K mg "width" Cx) : ∀ mo, FnOk P w K mg base (CXm mo P w) 1 f fd ["self", "width", "fill", "side", "strict"] (spI K mg Cx 4 M.Form_init) := by
  intro mo
  have sc := sc_Form_init
  refine fn_i (np := 4) (k := 0) F sc rfl rfl fun cdv A outer s H E hr => ?_
  have tk := takes_m (m := mo) (X := cxOf (CXm mo P w) P w K mg base ["self", "width", "fill", "side", "strict"] "Form.__init__" (defScope (clsS 26 0)) f cdv A outer s H E) rfl rfl rfl rfl
  have hp := passes_of (X := cxOf (CXm mo P w) P w K mg base ["self", "width", "fill", "side", "strict"] "Form.__init__" (defScope (clsS 26 0)) f cdv A outer s H E) rfl
  have hu := hr.units
  have hu65 := hu65_of hr
  exact (psi_fld (f := "width") tk fa_width (pm_var 1)
      (psi_fld (f := "fill") tk fa_fill (pm_var 2)
      (psi_fld (f := "side") tk fa_side (pm_var 3)
      (psi_fld (f := "strict") tk fa_strict (pm_var 4)
      psi_nil))))
theorem sc_NumberForm_init : FnScope ["self", "figures", "places", "base", "sign", "size", "mark", "point", "way", "width", "fill", "side", "strict"] ["self", "figures", "places", "base", "sign", "size", "mark", "point", "way", "width", "fill", "side", "strict"] (defScope (clsS 39 0)) := ⟨rfl, rfl, rfl, by decide +kernel, rfl, by decide +kernel, by decide +kernel⟩
set_option maxHeartbeats 4000000 in
theorem ok_NumberForm_init {f : Addr} {fd : FuncData} (F : FunD K "__init__" "NumberForm.__init__" (clsS 39 0) f fd) {Cx : String} (fa_way : ClsA K mg "way" Cx) (fa_point : ClsA K mg "point" Cx) (fa_mark : ClsA K mg "mark" Cx) (fa_size : ClsA K mg "size" Cx) (fa_sign : ClsA K mg "sign" Cx) (fa_base : ClsA K mg "base" Cx) (fa_places : ClsA K mg "places" Cx) (fa_figures : ClsA K mg "figures" Cx) (ib_Form : ∀ mo, BaseOk P w K mg base mo "Form" Cx 1 4 M.Form_init) : ∀ mo, FnOk P w K mg base (CXm mo P w) 2 f fd ["self", "figures", "places", "base", "sign", "size", "mark", "point", "way", "width", "fill", "side", "strict"] (spI K mg Cx 12 M.NumberForm_init) := by
  intro mo
  have sc := sc_NumberForm_init
  refine fn_i (np := 12) (k := 1) F sc rfl rfl fun cdv A outer s H E hr => ?_
  have tk := takes_m (m := mo) (X := cxOf (CXm mo P w) P w K mg base ["self", "figures", "places", "base", "sign", "size", "mark", "point", "way", "width", "fill", "side", "strict"] "NumberForm.__init__" (defScope (clsS 39 0)) f cdv A outer s H E) rfl rfl rfl rfl
  have hp := passes_of (X := cxOf (CXm mo P w) P w K mg base ["self", "figures", "places", "base", "sign", "size", "mark", "point", "way", "width", "fill", "side", "strict"] "NumberForm.__init__" (defScope (clsS 39 0)) f cdv A outer s H E) rfl
  have hu := hr.units
  have hu65 := hu65_of hr
  exact (psi_base (N := "Form") (ib_Form mo) tk hr (pma_cons (pm_var 9) (pma_cons (pm_var 10) (pma_cons (pm_var 11) (pma_cons (pm_var 12) pma_nil)))) (amn_cons (amn_cons (amn_cons (amn_cons amn_nil))))
      (psi_fld (f := "figures") tk fa_figures (pm_var 1)
      (psi_fld (f := "places") tk fa_places (pm_var 2)
      (psi_fld (f := "base") tk fa_base (pm_var 3)
      (psi_fld (f := "sign") tk fa_sign (pm_var 4)
      (psi_fld (f := "size") tk fa_size (pm_var 5)
      (psi_fld (f := "mark") tk fa_mark (pm_var 6)
      (psi_fld (f := "point") tk fa_point (pm_var 7)
      (psi_fld (f := "way") tk fa_way (pm_var 8)
      psi_nil)))))))))
theorem sc_WordForm_init : FnScope ["self", "signs", "least", "most", "width", "fill", "side", "strict"] ["self", "signs", "least", "most", "width", "fill", "side", "strict"] (defScope (clsS 42 0)) := ⟨rfl, rfl, rfl, by decide +kernel, rfl, by decide +kernel, by decide +kernel⟩
set_option maxHeartbeats 4000000 in
theorem ok_WordForm_init {f : Addr} {fd : FuncData} (F : FunD K "__init__" "WordForm.__init__" (clsS 42 0) f fd) {Cx : String} (fa_most : ClsA K mg "most" Cx) (fa_least : ClsA K mg "least" Cx) (fa_signs : ClsA K mg "signs" Cx) (ib_Form : ∀ mo, BaseOk P w K mg base mo "Form" Cx 1 4 M.Form_init) : ∀ mo, FnOk P w K mg base (CXm mo P w) 2 f fd ["self", "signs", "least", "most", "width", "fill", "side", "strict"] (spI K mg Cx 7 M.WordForm_init) := by
  intro mo
  have sc := sc_WordForm_init
  refine fn_i (np := 7) (k := 1) F sc rfl rfl fun cdv A outer s H E hr => ?_
  have tk := takes_m (m := mo) (X := cxOf (CXm mo P w) P w K mg base ["self", "signs", "least", "most", "width", "fill", "side", "strict"] "WordForm.__init__" (defScope (clsS 42 0)) f cdv A outer s H E) rfl rfl rfl rfl
  have hp := passes_of (X := cxOf (CXm mo P w) P w K mg base ["self", "signs", "least", "most", "width", "fill", "side", "strict"] "WordForm.__init__" (defScope (clsS 42 0)) f cdv A outer s H E) rfl
  have hu := hr.units
  have hu65 := hu65_of hr
  exact (psi_base (N := "Form") (ib_Form mo) tk hr (pma_cons (pm_var 4) (pma_cons (pm_var 5) (pma_cons (pm_var 6) (pma_cons (pm_var 7) pma_nil)))) (amn_cons (amn_cons (amn_cons (amn_cons amn_nil))))
      (psi_fld (f := "signs") tk fa_signs (pm_var 1)
      (psi_fld (f := "least") tk fa_least (pm_var 2)
      (psi_fld (f := "most") tk fa_most (pm_var 3)
      psi_nil))))
theorem sc_ChoiceForm_init : FnScope ["self", "names", "width", "fill", "side", "strict"] ["self", "names", "width", "fill", "side", "strict"] (defScope (clsS 43 0)) := ⟨rfl, rfl, rfl, by decide +kernel, rfl, by decide +kernel, by decide +kernel⟩
set_option maxHeartbeats 4000000 in
theorem ok_ChoiceForm_init {f : Addr} {fd : FuncData} (F : FunD K "__init__" "ChoiceForm.__init__" (clsS 43 0) f fd) {Cx : String} (z_list : mg "list" = none) (fa_names : ClsA K mg "names" Cx) (ib_Form : ∀ mo, BaseOk P w K mg base mo "Form" Cx 1 4 M.Form_init) : ∀ mo, FnOk P w K mg base (CXm mo P w) 2 f fd ["self", "names", "width", "fill", "side", "strict"] (spI K mg Cx 5 M.ChoiceForm_init) := by
  intro mo
  have sc := sc_ChoiceForm_init
  refine fn_i (np := 5) (k := 1) F sc rfl rfl fun cdv A outer s H E hr => ?_
  have tk := takes_m (m := mo) (X := cxOf (CXm mo P w) P w K mg base ["self", "names", "width", "fill", "side", "strict"] "ChoiceForm.__init__" (defScope (clsS 43 0)) f cdv A outer s H E) rfl rfl rfl rfl
  have hp := passes_of (X := cxOf (CXm mo P w) P w K mg base ["self", "names", "width", "fill", "side", "strict"] "ChoiceForm.__init__" (defScope (clsS 43 0)) f cdv A outer s H E) rfl
  have hu := hr.units
  have hu65 := hu65_of hr
  exact (psi_base (N := "Form") (ib_Form mo) tk hr (pma_cons (pm_var 2) (pma_cons (pm_var 3) (pma_cons (pm_var 4) (pma_cons (pm_var 5) pma_nil)))) (amn_cons (amn_cons (amn_cons (amn_cons amn_nil))))
      (psi_fld (f := "names") tk fa_names (pm_list z_list (pma_cons (pm_var 1) pma_nil))
      psi_nil))
theorem sc_is_whole : FnScope ["thing"] ["thing"] (defScope (topS 17)) := ⟨rfl, rfl, rfl, by decide +kernel, rfl, by decide +kernel, by decide +kernel⟩
set_option maxHeartbeats 4000000 in
theorem ok_is_whole {f : Addr} {fd : FuncData} (F : Fun K "is_whole" "is_whole" (topS 17) f fd) (hm : mg "is_whole" = some (.ref f)) (b : Binds K fd ["thing"] []) (z_isinstance : mg "isinstance" = none) (z_int : mg "int" = none) (z_bool : mg "bool" = none) : ∀ mo, DefOk P w K mg base mo "is_whole" 1 1 M.is_whole := by
  intro mo
  have sc := sc_is_whole
  refine ⟨f, fd, ["thing"], hm, F.kp, b, fn_m (np := 1) (nl := 0) (k := 0) F sc rfl rfl fun cdv A outer s H E hr => ?_⟩
  have tk := takes_m (m := mo) (X := cxOf (CXm mo P w) P w K mg base ["thing"] "is_whole" (defScope (topS 17)) f cdv A outer s H E) rfl rfl rfl rfl
  have hp := passes_of (X := cxOf (CXm mo P w) P w K mg base ["thing"] "is_whole" (defScope (topS 17)) f cdv A outer s H E) rfl
  have hu := hr.units
  have hu65 := hu65_of hr
  exact (psm_one (psm_ret (pm_and (pm_is (T := "int") is_int (pm_var 0) z_isinstance z_int (by decide +kernel)) (pm_one (pm_not (pm_is (T := "bool") is_bool (pm_var 0) z_isinstance z_bool (by decide +kernel)))))))
theorem sc_divisor_of : FnScope ["one", "other", "rest"] ["one", "other"] (defScope (topS 30)) := ⟨rfl, rfl, rfl, by decide +kernel, rfl, by decide +kernel, by decide +kernel⟩
set_option maxHeartbeats 4000000 in
theorem ok_divisor_of {f : Addr} {fd : FuncData} (F : Fun K "divisor_of" "divisor_of" (topS 30) f fd) (hm : mg "divisor_of" = some (.ref f)) (b : Binds K fd ["one", "other"] []) (z_abs : mg "abs" = none) : ∀ mo, DefOk P w K mg base mo "divisor_of" 1 2 M.divisor_of := by
  intro mo
  have sc := sc_divisor_of
  refine ⟨f, fd, ["one", "other"], hm, F.kp, b, fn_m (np := 2) (nl := 1) (k := 0) F sc rfl rfl fun cdv A outer s H E hr => ?_⟩
  have tk := takes_m (m := mo) (X := cxOf (CXm mo P w) P w K mg base ["one", "other", "rest"] "divisor_of" (defScope (topS 30)) f cdv A outer s H E) rfl rfl rfl rfl
  have hp := passes_of (X := cxOf (CXm mo P w) P w K mg base ["one", "other", "rest"] "divisor_of" (defScope (topS 30)) f cdv A outer s H E) rfl
  have hu := hr.units
  have hu65 := hu65_of hr
  exact (psm_cons (psm_set 0 sc.nd (pm_bltB call_abs bm_abs z_abs (by decide +kernel) (pma_cons (pm_var 0) pma_nil)))
      (psm_cons (psm_set 1 sc.nd (pm_bltB call_abs bm_abs z_abs (by decide +kernel) (pma_cons (pm_var 1) pma_nil)))
      (psm_cons (psm_while fuel hp (pmt_gt (pm_var 1) pm_int) (psm_cons (psm_set 2 sc.nd (pm_mod (pm_var 0) (pm_var 1)))
      (psm_cons (psm_set 0 sc.nd (pm_var 1))
      (psm_one (psm_set 1 sc.nd (pm_var 2))))))
      (psm_one (psm_ret (pm_var 0))))))
theorem sc_is_fraction : FnScope ["thing"] ["thing"] (defScope (topS 31)) := ⟨rfl, rfl, rfl, by decide +kernel, rfl, by decide +kernel, by decide +kernel⟩
set_option maxHeartbeats 4000000 in
theorem ok_is_fraction {f : Addr} {fd : FuncData} (F : Fun K "is_fraction" "is_fraction" (topS 31) f fd) (hm : mg "is_fraction" = some (.ref f)) (b : Binds K fd ["thing"] []) (z_isinstance : mg "isinstance" = none) (z_tuple : mg "tuple" = none) (z_len : mg "len" = none) (d_is_whole : ∀ mo, DefOk P w K mg base mo "is_whole" 1 1 M.is_whole) (d_divisor_of : ∀ mo, DefOk P w K mg base mo "divisor_of" 1 2 M.divisor_of) : ∀ mo, DefOk P w K mg base mo "is_fraction" 2 1 M.is_fraction := by
  intro mo
  have sc := sc_is_fraction
  refine ⟨f, fd, ["thing"], hm, F.kp, b, fn_m (np := 1) (nl := 0) (k := 1) F sc rfl rfl fun cdv A outer s H E hr => ?_⟩
  have tk := takes_m (m := mo) (X := cxOf (CXm mo P w) P w K mg base ["thing"] "is_fraction" (defScope (topS 31)) f cdv A outer s H E) rfl rfl rfl rfl
  have hp := passes_of (X := cxOf (CXm mo P w) P w K mg base ["thing"] "is_fraction" (defScope (topS 31)) f cdv A outer s H E) rfl
  have hu := hr.units
  have hu65 := hu65_of hr
  exact (psm_cons (psm_if (pmt_w (pmw_or (pmt_not (pmt_tru (pm_is (T := "tuple") is_tuple (pm_var 0) z_isinstance z_tuple (by decide +kernel)))) (pmw_or1 (pmt_ne hu (pm_bltB call_len bm_len z_len (by decide +kernel) (pma_cons (pm_var 0) pma_nil)) pm_int)))) (psm_one (psm_ret pm_bl)) psm_nil)
      (psm_cons (psm_if (pmt_w (pmw_or (pmt_not (pmt_tru (pm_def (d_is_whole mo) tk hr (pma_cons (pm_ix (pm_var 0) pm_int) pma_nil) (amn_cons amn_nil)))) (pmw_or (pmt_not (pmt_tru (pm_def (d_is_whole mo) tk hr (pma_cons (pm_ix (pm_var 0) pm_int) pma_nil) (amn_cons amn_nil)))) (pmw_or1 (pmt_lt (pm_ix (pm_var 0) pm_int) pm_int))))) (psm_one (psm_ret pm_bl)) psm_nil)
      (psm_one (psm_ret (pm_eq hu (pm_def (d_divisor_of mo) tk hr (pma_cons (pm_ix (pm_var 0) pm_int) (pma_cons (pm_ix (pm_var 0) pm_int) pma_nil)) (amn_cons (amn_cons amn_nil))) pm_int)))))
theorem sc_read_figures : FnScope ["word", "sign"] ["word"] (defScope (topS 48)) := ⟨rfl, rfl, rfl, by decide +kernel, rfl, by decide +kernel, by decide +kernel⟩
set_option maxHeartbeats 4000000 in
theorem ok_read_figures {f : Addr} {fd : FuncData} (F : Fun K "read_figures" "read_figures" (topS 48) f fd) (hm : mg "read_figures" = some (.ref f)) (b : Binds K fd ["word"] []) (z_len : mg "len" = none) (z_int : mg "int" = none) (g_MOST_FIGURES : GInt mg "MOST_FIGURES" 60) (g_FIGURES_deskwords : GStr mg "FIGURES_deskwords" [48, 49, 50, 51, 52, 53, 54, 55, 56, 57]) (x_NoRow : ExcOk K mg "NoRow") : ∀ mo, DefOk P w K mg base mo "read_figures" 1 1 M.read_figures := by
  intro mo
  have sc := sc_read_figures
  refine ⟨f, fd, ["word"], hm, F.kp, b, fn_m (np := 1) (nl := 1) (k := 0) F sc rfl rfl fun cdv A outer s H E hr => ?_⟩
  have tk := takes_m (m := mo) (X := cxOf (CXm mo P w) P w K mg base ["word", "sign"] "read_figures" (defScope (topS 48)) f cdv A outer s H E) rfl rfl rfl rfl
  have hp := passes_of (X := cxOf (CXm mo P w) P w K mg base ["word", "sign"] "read_figures" (defScope (topS 48)) f cdv A outer s H E) rfl
  have hu := hr.units
  have hu65 := hu65_of hr
  exact (psm_cons (psm_if (pmt_w (pmw_or (pmt_not (pmt_chain (OpR.or op_le op_le_str) (OpR.or op_le op_le_str) cm_le cm_le mild_le mild_le pm_int (pm_bltB call_len bm_len z_len (by decide +kernel) (pma_cons (pm_var 0) pma_nil)) (g_MOST_FIGURES.pm rfl))) (pmw_or1 (pmt_w (pmw_and (pmt_gt (pm_bltB call_len bm_len z_len (by decide +kernel) (pma_cons (pm_var 0) pma_nil)) pm_int) (pmw_and1 (pmt_eq hu (pm_ix (pm_var 0) pm_int) (pm_str (s := [48]) (by decide +kernel))))))))) (psm_one (psm_raiseC (C := "NoRow") x_NoRow rfl tk)) psm_nil)
      (psm_cons (psm_for hp rfl (pmi_any (pm_var 0)) (pg_name (i := 1) sc.nd rfl (by first | exact Or.inl rfl | exact Or.inr rfl)) (put1_ok 1) (psm_one (psm_if (pmt_notIn hu65 (pm_var 1) (g_FIGURES_deskwords.pm rfl)) (psm_one (psm_raiseC (C := "NoRow") x_NoRow rfl tk)) psm_nil)))
      (psm_one (psm_ret (pm_bltT (CallR.or call_int1 call_int_str) bm_intS z_int (by decide +kernel) (pma_cons (pm_var 0) pma_nil))))))
theorem sc_read_fraction : FnScope ["word", "rest", "first", "slash", "second", "top", "bottom"] ["word"] (defScope (topS 49)) := ⟨rfl, rfl, rfl, by decide +kernel, rfl, by decide +kernel, by decide +kernel⟩
set_option maxHeartbeats 4000000 in
theorem ok_read_fraction {f : Addr} {fd : FuncData} (F : Fun K "read_fraction" "read_fraction" (topS 49) f fd) (hm : mg "read_fraction" = some (.ref f)) (b : Binds K fd ["word"] []) (x_NoRow : ExcOk K mg "NoRow") (d_read_figures : ∀ mo, DefOk P w K mg base mo "read_figures" 1 1 M.read_figures) (d_is_fraction : ∀ mo, DefOk P w K mg base mo "is_fraction" 2 1 M.is_fraction) : ∀ mo, DefOk P w K mg base mo "read_fraction" 3 1 M.read_fraction := by
  intro mo
  have sc := sc_read_fraction
  refine ⟨f, fd, ["word"], hm, F.kp, b, fn_m (np := 1) (nl := 6) (k := 2) F sc rfl rfl fun cdv A outer s H E hr => ?_⟩
  have tk := takes_m (m := mo) (X := cxOf (CXm mo P w) P w K mg base ["word", "rest", "first", "slash", "second", "top", "bottom"] "read_fraction" (defScope (topS 49)) f cdv A outer s H E) rfl rfl rfl rfl
  have hp := passes_of (X := cxOf (CXm mo P w) P w K mg base ["word", "rest", "first", "slash", "second", "top", "bottom"] "read_fraction" (defScope (topS 49)) f cdv A outer s H E) rfl
  have hu := hr.units
  have hu65 := hu65_of hr
  exact (psm_cons (psm_set 1 sc.nd (pm_var 0))
      (psm_cons (psm_if (pmt_tru (pm_starts (pm_var 0) (pm_str (s := [45]) (by decide +kernel)))) (psm_one (psm_set 1 sc.nd (pm_cut (pm_var 0) (pmo_some pm_int) pmo_none))) psm_nil)
      (psm_cons (psm_unp (is := [2, 3, 4]) (pm_part (pm_var 1) (pm_str (s := [47]) (by decide +kernel))) rfl (pg_tup (n := 3) rfl (pgs_cons (pg_name (i := 2) sc.nd rfl (by first | exact Or.inl rfl | exact Or.inr rfl)) (pgs_cons (pg_name (i := 3) sc.nd rfl (by first | exact Or.inl rfl | exact Or.inr rfl)) (pgs_cons (pg_name (i := 4) sc.nd rfl (by first | exact Or.inl rfl | exact Or.inr rfl)) pgs_nil)))))
      (psm_cons (psm_set 5 sc.nd (pm_def (d_read_figures mo) tk hr (pma_cons (pm_var 2) pma_nil) (amn_cons amn_nil)))
      (psm_cons (psm_set 6 sc.nd pm_int)
      (psm_cons (psm_if (pmt_ne hu (pm_var 3) (pm_str (s := []) (by decide +kernel))) (psm_one (psm_set 6 sc.nd (pm_def (d_read_figures mo) tk hr (pma_cons (pm_var 4) pma_nil) (amn_cons amn_nil)))) psm_nil)
      (psm_cons (psm_if (pmt_w (pmw_or (pmt_not (pmt_tru (pm_def (d_is_fraction mo) tk hr (pma_cons (pm_tup (pma_cons (pm_var 5) (pma_cons (pm_var 6) pma_nil))) pma_nil) (amn_cons amn_nil)))) (pmw_or1 (pmt_w (pmw_and (pmt_ne hu (pm_var 3) (pm_str (s := []) (by decide +kernel))) (pmw_and1 (pmt_eq hu (pm_var 6) pm_int))))))) (psm_one (psm_raiseC (C := "NoRow") x_NoRow rfl tk)) psm_nil)
      (psm_cons (psm_if (pmt_eq hu (pm_var 1) (pm_var 0)) (psm_one (psm_ret (pm_tup (pma_cons (pm_var 5) (pma_cons (pm_var 6) pma_nil))))) psm_nil)
      (psm_cons (psm_if (pmt_eq hu (pm_var 5) pm_int) (psm_one (psm_raiseC (C := "NoRow") x_NoRow rfl tk)) psm_nil)
      (psm_one (psm_ret (pm_tup (pma_cons (pm_neg (pm_var 5)) (pma_cons (pm_var 6) pma_nil))))))))))))))
theorem sc_read_signs : FnScope ["word"] ["word"] (defScope (topS 50)) := ⟨rfl, rfl, rfl, by decide +kernel, rfl, by decide +kernel, by decide +kernel⟩
set_option maxHeartbeats 4000000 in
theorem ok_read_signs {f : Addr} {fd : FuncData} (F : Fun K "read_signs" "read_signs" (topS 50) f fd) (hm : mg "read_signs" = some (.ref f)) (b : Binds K fd ["word"] []) (x_NoRow : ExcOk K mg "NoRow") : ∀ mo, DefOk P w K mg base mo "read_signs" 1 1 M.read_signs := by
  intro mo
  have sc := sc_read_signs
  refine ⟨f, fd, ["word"], hm, F.kp, b, fn_m (np := 1) (nl := 0) (k := 0) F sc rfl rfl fun cdv A outer s H E hr => ?_⟩
  have tk := takes_m (m := mo) (X := cxOf (CXm mo P w) P w K mg base ["word"] "read_signs" (defScope (topS 50)) f cdv A outer s H E) rfl rfl rfl rfl
  have hp := passes_of (X := cxOf (CXm mo P w) P w K mg base ["word"] "read_signs" (defScope (topS 50)) f cdv A outer s H E) rfl
  have hu := hr.units
  have hu65 := hu65_of hr
  exact (psm_cons (psm_if (pmt_not (pmt_tru (pm_starts (pm_var 0) (pm_str (s := [61]) (by decide +kernel))))) (psm_one (psm_raiseC (C := "NoRow") x_NoRow rfl tk)) psm_nil)
      (psm_one (psm_ret (pm_replG (c := 95) (d := 32) (by decide +kernel) (by decide +kernel) (pm_cut (pm_var 0) (pmo_some pm_int) pmo_none) up_from))))
theorem sc_read_value : FnScope ["form", "word"] ["form", "word"] (defScope (topS 51)) := ⟨rfl, rfl, rfl, by decide +kernel, rfl, by decide +kernel, by decide +kernel⟩
set_option maxHeartbeats 4000000 in
theorem ok_read_value {f : Addr} {fd : FuncData} (F : Fun K "read_value" "read_value" (topS 51) f fd) (hm : mg "read_value" = some (.ref f)) (b : Binds K fd ["form", "word"] []) (z_isinstance : mg "isinstance" = none) (x_NoRow : ExcOk K mg "NoRow") (d_read_fraction : ∀ mo, DefOk P w K mg base mo "read_fraction" 3 1 M.read_fraction) (d_read_signs : ∀ mo, DefOk P w K mg base mo "read_signs" 1 1 M.read_signs) (isc_NumberForm : IsO K mg "NumberForm" ["NumberForm", "WordForm", "ChoiceForm"] ["NumberForm"]) (isc_WordForm : IsO K mg "WordForm" ["NumberForm", "WordForm", "ChoiceForm"] ["WordForm"]) : ∀ mo, DefOk P w K mg base mo "read_value" 4 2 M.read_value := by
  intro mo
  have sc := sc_read_value
  refine ⟨f, fd, ["form", "word"], hm, F.kp, b, fn_m (np := 2) (nl := 0) (k := 3) F sc rfl rfl fun cdv A outer s H E hr => ?_⟩
  have tk := takes_m (m := mo) (X := cxOf (CXm mo P w) P w K mg base ["form", "word"] "read_value" (defScope (topS 51)) f cdv A outer s H E) rfl rfl rfl rfl
  have hp := passes_of (X := cxOf (CXm mo P w) P w K mg base ["form", "word"] "read_value" (defScope (topS 51)) f cdv A outer s H E) rfl
  have hu := hr.units
  have hu65 := hu65_of hr
  exact (psm_cons (psm_if (pmt_tru (pm_isO (D := "NumberForm") isc_NumberForm (pm_var 0) z_isinstance)) (psm_one (psm_ret (pm_def (d_read_fraction mo) tk hr (pma_cons (pm_var 1) pma_nil) (amn_cons amn_nil)))) psm_nil)
      (psm_cons (psm_if (pmt_tru (pm_isO (D := "WordForm") isc_WordForm (pm_var 0) z_isinstance)) (psm_one (psm_ret (pm_def (d_read_signs mo) tk hr (pma_cons (pm_var 1) pma_nil) (amn_cons amn_nil)))) psm_nil)
      (psm_cons (psm_if (pmt_eq hu (pm_var 1) (pm_str (s := []) (by decide +kernel))) (psm_one (psm_raiseC (C := "NoRow") x_NoRow rfl tk)) psm_nil)
      (psm_one (psm_ret (pm_var 1))))))
theorem sc_show_value : FnScope ["form", "value"] ["form", "value"] (defScope (topS 52)) := ⟨rfl, rfl, rfl, by decide +kernel, rfl, by decide +kernel, by decide +kernel⟩
set_option maxHeartbeats 4000000 in
theorem ok_show_value {f : Addr} {fd : FuncData} (F : Fun K "show_value" "show_value" (topS 52) f fd) (hm : mg "show_value" = some (.ref f)) (b : Binds K fd ["form", "value"] []) (z_isinstance : mg "isinstance" = none) (z_str : mg "str" = none) (d_show_edge : ∀ mo, DefOk P w K mg base mo "show_edge" 1 1 M.show_edge) (isc_NumberForm : IsO K mg "NumberForm" ["NumberForm", "WordForm", "ChoiceForm"] ["NumberForm"]) (isc_WordForm : IsO K mg "WordForm" ["NumberForm", "WordForm", "ChoiceForm"] ["WordForm"]) : ∀ mo, DefOk P w K mg base mo "show_value" 2 2 M.show_value := by
  intro mo
  have sc := sc_show_value
  refine ⟨f, fd, ["form", "value"], hm, F.kp, b, fn_m (np := 2) (nl := 0) (k := 1) F sc rfl rfl fun cdv A outer s H E hr => ?_⟩
  have tk := takes_m (m := mo) (X := cxOf (CXm mo P w) P w K mg base ["form", "value"] "show_value" (defScope (topS 52)) f cdv A outer s H E) rfl rfl rfl rfl
  have hp := passes_of (X := cxOf (CXm mo P w) P w K mg base ["form", "value"] "show_value" (defScope (topS 52)) f cdv A outer s H E) rfl
  have hu := hr.units
  have hu65 := hu65_of hr
  exact (psm_cons (psm_if (pmt_tru (pm_isO (D := "NumberForm") isc_NumberForm (pm_var 0) z_isinstance)) (psm_cons (psm_if (pmt_eq hu (pm_ix (pm_var 1) pm_int) pm_int) (psm_one (psm_ret (pm_bltT call_str_int bm_str z_str (by decide +kernel) (pma_cons (pm_ix (pm_var 1) pm_int) pma_nil)))) psm_nil)
      (psm_one (psm_ret (pm_add (pm_add (pm_bltT call_str_int bm_str z_str (by decide +kernel) (pma_cons (pm_ix (pm_var 1) pm_int) pma_nil)) (pm_str (s := [47]) (by decide +kernel))) (pm_bltT call_str_int bm_str z_str (by decide +kernel) (pma_cons (pm_ix (pm_var 1) pm_int) pma_nil)))))) psm_nil)
      (psm_cons (psm_if (pmt_tru (pm_isO (D := "WordForm") isc_WordForm (pm_var 0) z_isinstance)) (psm_one (psm_ret (pm_def (d_show_edge mo) tk hr (pma_cons (pm_var 1) pma_nil) (amn_cons amn_nil)))) psm_nil)
      (psm_one (psm_ret (pm_var 1)))))
theorem sc_read_edge : FnScope ["word", "edge"] ["word"] (defScope (topS 53)) := ⟨rfl, rfl, rfl, by decide +kernel, rfl, by decide +kernel, by decide +kernel⟩
set_option maxHeartbeats 4000000 in
theorem ok_read_edge {f : Addr} {fd : FuncData} (F : Fun K "read_edge" "read_edge" (topS 53) f fd) (hm : mg "read_edge" = some (.ref f)) (b : Binds K fd ["word"] []) (z_len : mg "len" = none) (g_MOST_EDGE : GInt mg "MOST_EDGE" 8) (x_NoRow : ExcOk K mg "NoRow") (d_read_signs : ∀ mo, DefOk P w K mg base mo "read_signs" 1 1 M.read_signs) : ∀ mo, DefOk P w K mg base mo "read_edge" 2 1 M.read_edge := by
  intro mo
  have sc := sc_read_edge
  refine ⟨f, fd, ["word"], hm, F.kp, b, fn_m (np := 1) (nl := 1) (k := 1) F sc rfl rfl fun cdv A outer s H E hr => ?_⟩
  have tk := takes_m (m := mo) (X := cxOf (CXm mo P w) P w K mg base ["word", "edge"] "read_edge" (defScope (topS 53)) f cdv A outer s H E) rfl rfl rfl rfl
  have hp := passes_of (X := cxOf (CXm mo P w) P w K mg base ["word", "edge"] "read_edge" (defScope (topS 53)) f cdv A outer s H E) rfl
  have hu := hr.units
  have hu65 := hu65_of hr
  exact (psm_cons (psm_set 1 sc.nd (pm_def (d_read_signs mo) tk hr (pma_cons (pm_var 0) pma_nil) (amn_cons amn_nil)))
      (psm_cons (psm_if (pmt_gt (pm_bltB call_len bm_len z_len (by decide +kernel) (pma_cons (pm_var 1) pma_nil)) (g_MOST_EDGE.pm rfl)) (psm_one (psm_raiseC (C := "NoRow") x_NoRow rfl tk)) psm_nil)
      (psm_one (psm_ret (pm_var 1)))))
theorem sc_show_edge : FnScope ["text"] ["text"] (defScope (topS 54)) := ⟨rfl, rfl, rfl, by decide +kernel, rfl, by decide +kernel, by decide +kernel⟩
set_option maxHeartbeats 4000000 in
theorem ok_show_edge {f : Addr} {fd : FuncData} (F : Fun K "show_edge" "show_edge" (topS 54) f fd) (hm : mg "show_edge" = some (.ref f)) (b : Binds K fd ["text"] []) : ∀ mo, DefOk P w K mg base mo "show_edge" 1 1 M.show_edge := by
  intro mo
  have sc := sc_show_edge
  refine ⟨f, fd, ["text"], hm, F.kp, b, fn_m (np := 1) (nl := 0) (k := 0) F sc rfl rfl fun cdv A outer s H E hr => ?_⟩
  have tk := takes_m (m := mo) (X := cxOf (CXm mo P w) P w K mg base ["text"] "show_edge" (defScope (topS 54)) f cdv A outer s H E) rfl rfl rfl rfl
  have hp := passes_of (X := cxOf (CXm mo P w) P w K mg base ["text"] "show_edge" (defScope (topS 54)) f cdv A outer s H E) rfl
  have hu := hr.units
  have hu65 := hu65_of hr
  exact (psm_one (psm_ret (pm_addG (pm_str (s := [61]) (by decide +kernel)) up_str (pmk_repl (c := 32) (d := 95) (by decide +kernel) (by decide +kernel) (pm_var 0)))))
theorem sc__law_cell_at : FnScope ["_law_script", "_law_k"] ["_law_script", "_law_k"] (defScope (topS 56)) := ⟨rfl, rfl, rfl, by decide +kernel, rfl, by decide +kernel, by decide +kernel⟩
set_option maxHeartbeats 4000000 in
theorem ok__law_cell_at {f : Addr} {fd : FuncData} (F : Fun K "_law_cell_at" "_law_cell_at" (topS 56) f fd) (hm : mg "_law_cell_at" = some (.ref f)) (b : Binds K fd ["_law_script", "_law_k"] []) (z_len : mg "len" = none) : ∀ mo, DefOk P w K mg base mo "_law_cell_at" 1 2 M._law_cell_at := by
  intro mo
  have sc := sc__law_cell_at
  refine ⟨f, fd, ["_law_script", "_law_k"], hm, F.kp, b, fn_m (np := 2) (nl := 0) (k := 0) F sc rfl rfl fun cdv A outer s H E hr => ?_⟩
  have tk := takes_m (m := mo) (X := cxOf (CXm mo P w) P w K mg base ["_law_script", "_law_k"] "_law_cell_at" (defScope (topS 56)) f cdv A outer s H E) rfl rfl rfl rfl
  have hp := passes_of (X := cxOf (CXm mo P w) P w K mg base ["_law_script", "_law_k"] "_law_cell_at" (defScope (topS 56)) f cdv A outer s H E) rfl
  have hu := hr.units
  have hu65 := hu65_of hr
  exact (psm_cons (psm_if (pmt_lt (pm_var 1) (pm_bltB call_len bm_len z_len (by decide +kernel) (pma_cons (pm_var 0) pma_nil))) (psm_one (psm_ret (pm_ix (pm_var 0) (pm_var 1)))) psm_nil)
      (psm_one (psm_ret pm_int)))
theorem sc__law_whole : FnScope ["_law_thing"] ["_law_thing"] (defScope (topS 57)) := ⟨rfl, rfl, rfl, by decide +kernel, rfl, by decide +kernel, by decide +kernel⟩
set_option maxHeartbeats 4000000 in
theorem ok__law_whole {f : Addr} {fd : FuncData} (F : Fun K "_law_whole" "_law_whole" (topS 57) f fd) (hm : mg "_law_whole" = some (.ref f)) (b : Binds K fd ["_law_thing"] []) (z_isinstance : mg "isinstance" = none) (z_int : mg "int" = none) (z_bool : mg "bool" = none) : ∀ mo, DefOk P w K mg base mo "_law_whole" 1 1 M._law_whole := by
  intro mo
  have sc := sc__law_whole
  refine ⟨f, fd, ["_law_thing"], hm, F.kp, b, fn_m (np := 1) (nl := 0) (k := 0) F sc rfl rfl fun cdv A outer s H E hr => ?_⟩
  have tk := takes_m (m := mo) (X := cxOf (CXm mo P w) P w K mg base ["_law_thing"] "_law_whole" (defScope (topS 57)) f cdv A outer s H E) rfl rfl rfl rfl
  have hp := passes_of (X := cxOf (CXm mo P w) P w K mg base ["_law_thing"] "_law_whole" (defScope (topS 57)) f cdv A outer s H E) rfl
  have hu := hr.units
  have hu65 := hu65_of hr
  exact (psm_one (psm_ret (pm_and (pm_is (T := "int") is_int (pm_var 0) z_isinstance z_int (by decide +kernel)) (pm_one (pm_not (pm_is (T := "bool") is_bool (pm_var 0) z_isinstance z_bool (by decide +kernel)))))))
theorem sc__law_pick : FnScope ["_law_cell", "_law_salt", "_law_many", "_law_one", "_law_two"] ["_law_cell", "_law_salt", "_law_many"] (defScope (topS 58)) := ⟨rfl, rfl, rfl, by decide +kernel, rfl, by decide +kernel, by decide +kernel⟩
set_option maxHeartbeats 4000000 in
theorem ok__law_pick {f : Addr} {fd : FuncData} (F : Fun K "_law_pick" "_law_pick" (topS 58) f fd) (hm : mg "_law_pick" = some (.ref f)) (b : Binds K fd ["_law_cell", "_law_salt", "_law_many"] []) : ∀ mo, DefOk P w K mg base mo "_law_pick" 1 3 M._law_pick := by
  intro mo
  have sc := sc__law_pick
  refine ⟨f, fd, ["_law_cell", "_law_salt", "_law_many"], hm, F.kp, b, fn_m (np := 3) (nl := 2) (k := 0) F sc rfl rfl fun cdv A outer s H E hr => ?_⟩
  have tk := takes_m (m := mo) (X := cxOf (CXm mo P w) P w K mg base ["_law_cell", "_law_salt", "_law_many", "_law_one", "_law_two"] "_law_pick" (defScope (topS 58)) f cdv A outer s H E) rfl rfl rfl rfl
  have hp := passes_of (X := cxOf (CXm mo P w) P w K mg base ["_law_cell", "_law_salt", "_law_many", "_law_one", "_law_two"] "_law_pick" (defScope (topS 58)) f cdv A outer s H E) rfl
  have hu := hr.units
  have hu65 := hu65_of hr
  exact (psm_cons (psm_if (pmt_w (pmw_and (pmt_gt (pm_var 0) (pm_pow pm_int pm_int)) (pmw_and1 (pmt_gt (pm_shr (pm_var 0) (pm_mul pm_int (pm_var 1))) pm_int)))) (psm_one (psm_ret (pm_mod (pm_mod (pm_shr (pm_var 0) (pm_mul pm_int (pm_var 1))) pm_int) (pm_var 2)))) psm_nil)
      (psm_cons (psm_set 3 sc.nd (pm_mod (pm_add (pm_add (pm_mod (pm_var 0) pm_int) pm_int) (pm_mul pm_int (pm_var 1))) pm_int))
      (psm_cons (psm_set 3 sc.nd (pm_mod (pm_mul (pm_var 3) (pm_var 3)) pm_int))
      (psm_cons (psm_set 4 sc.nd (pm_mod (pm_mul (pm_add (pm_var 3) pm_int) (pm_add (pm_add (pm_fdiv (pm_var 3) pm_int) pm_int) (pm_var 1))) pm_int))
      (psm_one (psm_ret (pm_mod (pm_fdiv (pm_var 4) pm_int) (pm_var 2))))))))
theorem sc__law_great : FnScope ["_law_cell", "_law_at", "_law_limit", "_law_one"] ["_law_cell", "_law_at", "_law_limit"] (defScope (topS 59)) := ⟨rfl, rfl, rfl, by decide +kernel, rfl, by decide +kernel, by decide +kernel⟩
set_option maxHeartbeats 4000000 in
theorem ok__law_great {f : Addr} {fd : FuncData} (F : Fun K "_law_great" "_law_great" (topS 59) f fd) (hm : mg "_law_great" = some (.ref f)) (b : Binds K fd ["_law_cell", "_law_at", "_law_limit"] []) : ∀ mo, DefOk P w K mg base mo "_law_great" 1 3 M._law_great := by
  intro mo
  have sc := sc__law_great
  refine ⟨f, fd, ["_law_cell", "_law_at", "_law_limit"], hm, F.kp, b, fn_m (np := 3) (nl := 1) (k := 0) F sc rfl rfl fun cdv A outer s H E hr => ?_⟩
  have tk := takes_m (m := mo) (X := cxOf (CXm mo P w) P w K mg base ["_law_cell", "_law_at", "_law_limit", "_law_one"] "_law_great" (defScope (topS 59)) f cdv A outer s H E) rfl rfl rfl rfl
  have hp := passes_of (X := cxOf (CXm mo P w) P w K mg base ["_law_cell", "_law_at", "_law_limit", "_law_one"] "_law_great" (defScope (topS 59)) f cdv A outer s H E) rfl
  have hu := hr.units
  have hu65 := hu65_of hr
  exact (psm_cons (psm_if (pmt_w (pmw_and (pmt_gt (pm_var 0) (pm_pow pm_int pm_int)) (pmw_and1 (pmt_gt (pm_shr (pm_var 0) (pm_add pm_int (pm_mul pm_int (pm_var 1)))) pm_int)))) (psm_one (psm_ret (pm_mod (pm_shr (pm_var 0) (pm_add pm_int (pm_mul pm_int (pm_var 1)))) (pm_var 2)))) psm_nil)
      (psm_cons (psm_set 3 sc.nd (pm_add (pm_add (pm_mod (pm_var 0) (pm_pow pm_int pm_int)) (pm_mul pm_int (pm_var 1))) pm_int))
      (psm_one (psm_ret (pm_mod (pm_mul (pm_var 3) pm_int) (pm_var 2))))))
theorem sc__law_divisor : FnScope ["_law_one", "_law_other"] ["_law_one", "_law_other"] (defScope (topS 60)) := ⟨rfl, rfl, rfl, by decide +kernel, rfl, by decide +kernel, by decide +kernel⟩
set_option maxHeartbeats 4000000 in
theorem ok__law_divisor {f : Addr} {fd : FuncData} (F : Fun K "_law_divisor" "_law_divisor" (topS 60) f fd) (hm : mg "_law_divisor" = some (.ref f)) (b : Binds K fd ["_law_one", "_law_other"] []) (z_abs : mg "abs" = none) : ∀ mo, DefOk P w K mg base mo "_law_divisor" 1 2 M._law_divisor := by
  intro mo
  have sc := sc__law_divisor
  refine ⟨f, fd, ["_law_one", "_law_other"], hm, F.kp, b, fn_m (np := 2) (nl := 0) (k := 0) F sc rfl rfl fun cdv A outer s H E hr => ?_⟩
  have tk := takes_m (m := mo) (X := cxOf (CXm mo P w) P w K mg base ["_law_one", "_law_other"] "_law_divisor" (defScope (topS 60)) f cdv A outer s H E) rfl rfl rfl rfl
  have hp := passes_of (X := cxOf (CXm mo P w) P w K mg base ["_law_one", "_law_other"] "_law_divisor" (defScope (topS 60)) f cdv A outer s H E) rfl
  have hu := hr.units
  have hu65 := hu65_of hr
  exact (psm_cons (psm_while fuel hp (pmt_ne hu (pm_var 1) pm_int) (psm_one (psm_par 0 1 sc.nd (pma_cons (pm_var 1) (pma_cons (pm_mod (pm_var 0) (pm_var 1)) pma_nil)))))
      (psm_one (psm_ret (pm_bltB call_abs bm_abs z_abs (by decide +kernel) (pma_cons (pm_var 0) pma_nil)))))
theorem sc__law_lowest : FnScope ["_law_top", "_law_bottom", "_law_many"] ["_law_top", "_law_bottom"] (defScope (topS 61)) := ⟨rfl, rfl, rfl, by decide +kernel, rfl, by decide +kernel, by decide +kernel⟩
set_option maxHeartbeats 4000000 in
theorem ok__law_lowest {f : Addr} {fd : FuncData} (F : Fun K "_law_lowest" "_law_lowest" (topS 61) f fd) (hm : mg "_law_lowest" = some (.ref f)) (b : Binds K fd ["_law_top", "_law_bottom"] []) (d__law_divisor : ∀ mo, DefOk P w K mg base mo "_law_divisor" 1 2 M._law_divisor) : ∀ mo, DefOk P w K mg base mo "_law_lowest" 2 2 M._law_lowest := by
  intro mo
  have sc := sc__law_lowest
  refine ⟨f, fd, ["_law_top", "_law_bottom"], hm, F.kp, b, fn_m (np := 2) (nl := 1) (k := 1) F sc rfl rfl fun cdv A outer s H E hr => ?_⟩
  have tk := takes_m (m := mo) (X := cxOf (CXm mo P w) P w K mg base ["_law_top", "_law_bottom", "_law_many"] "_law_lowest" (defScope (topS 61)) f cdv A outer s H E) rfl rfl rfl rfl
  have hp := passes_of (X := cxOf (CXm mo P w) P w K mg base ["_law_top", "_law_bottom", "_law_many"] "_law_lowest" (defScope (topS 61)) f cdv A outer s H E) rfl
  have hu := hr.units
  have hu65 := hu65_of hr
  exact (psm_cons (psm_set 2 sc.nd (pm_def (d__law_divisor mo) tk hr (pma_cons (pm_var 0) (pma_cons (pm_var 1) pma_nil)) (amn_cons (amn_cons amn_nil))))
      (psm_one (psm_ret (pm_tup (pma_cons (pm_fdiv (pm_var 0) (pm_var 2)) (pma_cons (pm_fdiv (pm_var 1) (pm_var 2)) pma_nil))))))
theorem sc__law_size : FnScope ["_law_cell", "_law_salt", "_law_at", "_law_way"] ["_law_cell", "_law_salt", "_law_at"] (defScope (topS 62)) := ⟨rfl, rfl, rfl, by decide +kernel, rfl, by decide +kernel, by decide +kernel⟩
set_option maxHeartbeats 4000000 in
theorem ok__law_size {f : Addr} {fd : FuncData} (F : Fun K "_law_size" "_law_size" (topS 62) f fd) (hm : mg "_law_size" = some (.ref f)) (b : Binds K fd ["_law_cell", "_law_salt", "_law_at"] []) (d__law_pick : ∀ mo, DefOk P w K mg base mo "_law_pick" 1 3 M._law_pick) (d__law_great : ∀ mo, DefOk P w K mg base mo "_law_great" 1 3 M._law_great) : ∀ mo, DefOk P w K mg base mo "_law_size" 2 3 M._law_size := by
  intro mo
  have sc := sc__law_size
  refine ⟨f, fd, ["_law_cell", "_law_salt", "_law_at"], hm, F.kp, b, fn_m (np := 3) (nl := 1) (k := 1) F sc rfl rfl fun cdv A outer s H E hr => ?_⟩
  have tk := takes_m (m := mo) (X := cxOf (CXm mo P w) P w K mg base ["_law_cell", "_law_salt", "_law_at", "_law_way"] "_law_size" (defScope (topS 62)) f cdv A outer s H E) rfl rfl rfl rfl
  have hp := passes_of (X := cxOf (CXm mo P w) P w K mg base ["_law_cell", "_law_salt", "_law_at", "_law_way"] "_law_size" (defScope (topS 62)) f cdv A outer s H E) rfl
  have hu := hr.units
  have hu65 := hu65_of hr
  exact (psm_cons (psm_set 3 sc.nd (pm_def (d__law_pick mo) tk hr (pma_cons (pm_var 0) (pma_cons (pm_var 1) (pma_cons pm_int pma_nil))) (amn_cons (amn_cons (amn_cons amn_nil)))))
      (psm_cons (psm_if (pmt_eq hu (pm_var 3) pm_int) (psm_one (psm_ret (pm_def (d__law_pick mo) tk hr (pma_cons (pm_var 0) (pma_cons (pm_add (pm_var 1) pm_int) (pma_cons pm_int pma_nil))) (amn_cons (amn_cons (amn_cons amn_nil)))))) psm_nil)
      (psm_cons (psm_if (pmt_eq hu (pm_var 3) pm_int) (psm_one (psm_ret (pm_sub (pm_sub (pm_pow pm_int pm_int) pm_int) (pm_def (d__law_pick mo) tk hr (pma_cons (pm_var 0) (pma_cons (pm_add (pm_var 1) pm_int) (pma_cons pm_int pma_nil))) (amn_cons (amn_cons (amn_cons amn_nil))))))) psm_nil)
      (psm_one (psm_ret (pm_def (d__law_great mo) tk hr (pma_cons (pm_var 0) (pma_cons (pm_var 2) (pma_cons (pm_ix (pm_lst (pma_cons (pm_pow pm_int pm_int) (pma_cons (pm_pow pm_int pm_int) pma_nil))) (pm_sub (pm_var 3) pm_int)) pma_nil))) (amn_cons (amn_cons (amn_cons amn_nil)))))))))
theorem sc__law_plain_text : FnScope ["_law_cell", "_law_salt", "_law_most", "_law_some", "_law_size_here", "_law_k"] ["_law_cell", "_law_salt", "_law_most"] (defScope (topS 63)) := ⟨rfl, rfl, rfl, by decide +kernel, rfl, by decide +kernel, by decide +kernel⟩
set_option maxHeartbeats 4000000 in
theorem ok__law_plain_text {f : Addr} {fd : FuncData} (F : Fun K "_law_plain_text" "_law_plain_text" (topS 63) f fd) (hm : mg "_law_plain_text" = some (.ref f)) (b : Binds K fd ["_law_cell", "_law_salt", "_law_most"] []) (z_range : mg "range" = none) (d__law_pick : ∀ mo, DefOk P w K mg base mo "_law_pick" 1 3 M._law_pick) : ∀ mo, DefOk P w K mg base mo "_law_plain_text" 2 3 M._law_plain_text := by
  intro mo
  have sc := sc__law_plain_text
  refine ⟨f, fd, ["_law_cell", "_law_salt", "_law_most"], hm, F.kp, b, fn_m (np := 3) (nl := 3) (k := 1) F sc rfl rfl fun cdv A outer s H E hr => ?_⟩
  have tk := takes_m (m := mo) (X := cxOf (CXm mo P w) P w K mg base ["_law_cell", "_law_salt", "_law_most", "_law_some", "_law_size_here", "_law_k"] "_law_plain_text" (defScope (topS 63)) f cdv A outer s H E) rfl rfl rfl rfl
  have hp := passes_of (X := cxOf (CXm mo P w) P w K mg base ["_law_cell", "_law_salt", "_law_most", "_law_some", "_law_size_here", "_law_k"] "_law_plain_text" (defScope (topS 63)) f cdv A outer s H E) rfl
  have hu := hr.units
  have hu65 := hu65_of hr
  exact (psm_cons (psm_set 3 sc.nd (pm_str (s := [32, 33, 44, 45, 46, 47, 48, 57, 58, 61, 65, 90, 97, 98, 122, 126, 39, 40, 43]) (by decide +kernel)))
      (psm_cons (psm_set 4 sc.nd (pm_def (d__law_pick mo) tk hr (pma_cons (pm_var 0) (pma_cons (pm_add (pm_var 1) pm_int) (pma_cons (pm_add (pm_var 2) pm_int) pma_nil))) (amn_cons (amn_cons (amn_cons amn_nil)))))
      (psm_one (psm_ret (pm_join (pm_str (s := []) (by decide +kernel)) (pm_lc (own := [("_law_k", 5)]) rfl sc.nd (pmi_r1 (pm_var 4) z_range) (blkOk_by (own := [("_law_k", 5)]) (N := ["_law_cell", "_law_salt", "_law_most", "_law_some", "_law_size_here", "_law_k"]) (sc := defScope (topS 63)) (by decide +kernel)) (putC1 (by simp)) (fun _ _ _ _ _ => (pg_name (i := 5) sc.nd rfl (by first | exact Or.inl rfl | exact Or.inr rfl))) (fun _ _ _ _ _ => ptsm_nil) (fun _ _ _ _ _ => (pm_ix (pm_var 3) (pm_def (d__law_pick mo) tks0 hr (pma_cons (pm_var 0) (pma_cons (pm_add (pm_var 1) (pm_var 5)) (pma_cons pm_int pma_nil))) (amn_cons (amn_cons (amn_cons amn_nil))))))))))))
theorem sc__law_refused : FnScope ["_law_asked", "e"] ["_law_asked"] (defScope (topS 64)) := ⟨rfl, rfl, rfl, by decide +kernel, rfl, by decide +kernel, by decide +kernel⟩
set_option maxHeartbeats 4000000 in
theorem ok__law_refused {f : Addr} {fd : FuncData} (F : Fun K "_law_refused" "_law_refused" (topS 64) f fd) (hm : mg "_law_refused" = some (.ref f)) (b : Binds K fd ["_law_asked"] []) (z_isinstance : mg "isinstance" = none) (z_ValueError : mg "ValueError" = none) (hc_NoRow_PadError : PySem.W.exmOne K (clsV mg "NoRow") (clsV mg "PadError") = some true) (qc_NoRow : ExD K mg "NoRow") (nc_NoValue : ClsN mg "NoValue") (kc_NoRow_NoValue : PySem.W.kitOne K (clsV mg "NoRow") (clsV mg "NoValue") = some false) (nc_NoText : ClsN mg "NoText") (kc_NoRow_NoText : PySem.W.kitOne K (clsV mg "NoRow") (clsV mg "NoText") = some false) (nc_NoNumber : ClsN mg "NoNumber") (kc_NoRow_NoNumber : PySem.W.kitOne K (clsV mg "NoRow") (clsV mg "NoNumber") = some false) (nc_NoForm : ClsN mg "NoForm") (kc_NoRow_NoForm : PySem.W.kitOne K (clsV mg "NoRow") (clsV mg "NoForm") = some false) (nc_NoRow : ClsN mg "NoRow") (kc_NoRow_NoRow : PySem.W.kitOne K (clsV mg "NoRow") (clsV mg "NoRow") = some true) (kbc_NoRow_ValueError : PySem.W.kitOne K (clsV mg "NoRow") (.type "ValueError") = some true) (nc_PadError : ClsN mg "PadError") (d_read_edge : ∀ mo, DefOk P w K mg base mo "read_edge" 2 1 M.read_edge) (d_read_value : ∀ mo, DefOk P w K mg base mo "read_value" 4 2 M.read_value) : DefOk P w K mg base false "_law_refused" 5 1 M._law_refused := by
  have sc := sc__law_refused
  refine ⟨f, fd, ["_law_asked"], hm, F.kp, b, fn_m (np := 1) (nl := 1) (k := 4) F sc rfl rfl fun cdv A outer s H E hr => ?_⟩
  have tk := takes_m (m := false) (X := cxOf (CXm false P w) P w K mg base ["_law_asked", "e"] "_law_refused" (defScope (topS 64)) f cdv A outer s H E) rfl rfl rfl rfl
  have hp := passes_of (X := cxOf (CXm false P w) P w K mg base ["_law_asked", "e"] "_law_refused" (defScope (topS 64)) f cdv A outer s H E) rfl
  have hu := hr.units
  have hu65 := hu65_of hr
  exact (psm_cons (psm_try (P := "PadError") ["NoRow"] ["NoRow"] 1 sc.nd tk nc_PadError (fa_cons hc_NoRow_PadError fa_nil) (fun W tk0 xe0 tk hp => (psm_one (psm_if (pmt_isN (pm_ix (pm_var 0) pm_int) pm_non) (psm_one (psm_expr (pm_def (d_read_edge false) tk hr (pma_cons (pm_ix (pm_var 0) pm_int) pma_nil) (amn_cons amn_nil)))) (psm_one (psm_expr (pm_def (d_read_value false) tk hr (pma_cons (pm_ix (pm_var 0) pm_int) (pma_cons (pm_ix (pm_var 0) pm_int) pma_nil)) (amn_cons (amn_cons amn_nil)))))))) (fa_cons (fun a oe pn hz hf => (psm_cons (psm_if (pmt_tru (pm_exIsT qc_NoRow hz hf (clp_cons (cl_n nc_NoForm) (cv_n nc_NoForm) (clp_cons (cl_n nc_NoNumber) (cv_n nc_NoNumber) (clp_cons (cl_n nc_NoText) (cv_n nc_NoText) (clp_cons (cl_n nc_NoValue) (cv_n nc_NoValue) clp_nil)))) (kan_f kc_NoRow_NoForm (kan_f kc_NoRow_NoNumber (kan_f kc_NoRow_NoText (kan_f kc_NoRow_NoValue kan_nil)))) rfl (by simp) z_isinstance)) (psm_one (psm_ret pm_bl)) psm_nil)
      (psm_one (psm_ret (pm_and (pm_exIs qc_NoRow hz hf (cl_n nc_NoRow) (cv_n nc_NoRow) kc_NoRow_NoRow rfl z_isinstance) (pm_one (pm_exIs qc_NoRow hz hf (cl_blt z_ValueError (by decide +kernel)) (.ty "ValueError") kbc_NoRow_ValueError rfl z_isinstance))))))) fa_nil))
      (psm_one (psm_ret pm_bl)))
theorem sc__law_no_number : FnScope ["_law_cell", "_law_some"] ["_law_cell"] (defScope (topS 65)) := ⟨rfl, rfl, rfl, by decide +kernel, rfl, by decide +kernel, by decide +kernel⟩
set_option maxHeartbeats 4000000 in
theorem ok__law_no_number {f : Addr} {fd : FuncData} (F : Fun K "_law_no_number" "_law_no_number" (topS 65) f fd) (hm : mg "_law_no_number" = some (.ref f)) (b : Binds K fd ["_law_cell"] []) (z_len : mg "len" = none) (d__law_pick : ∀ mo, DefOk P w K mg base mo "_law_pick" 1 3 M._law_pick) : ∀ mo, DefOk P w K mg base mo "_law_no_number" 2 1 M._law_no_number := by
  intro mo
  have sc := sc__law_no_number
  refine ⟨f, fd, ["_law_cell"], hm, F.kp, b, fn_m (np := 1) (nl := 1) (k := 1) F sc rfl rfl fun cdv A outer s H E hr => ?_⟩
  have tk := takes_m (m := mo) (X := cxOf (CXm mo P w) P w K mg base ["_law_cell", "_law_some"] "_law_no_number" (defScope (topS 65)) f cdv A outer s H E) rfl rfl rfl rfl
  have hp := passes_of (X := cxOf (CXm mo P w) P w K mg base ["_law_cell", "_law_some"] "_law_no_number" (defScope (topS 65)) f cdv A outer s H E) rfl
  have hu := hr.units
  have hu65 := hu65_of hr
  exact (psm_cons (psm_set 1 sc.nd (pm_lst (pma_cons (pm_str (s := []) (by decide +kernel)) (pma_cons (pm_str (s := [45]) (by decide +kernel)) (pma_cons (pm_str (s := [45, 48]) (by decide +kernel)) (pma_cons (pm_str (s := [48, 49]) (by decide +kernel)) (pma_cons (pm_str (s := [49, 47]) (by decide +kernel)) (pma_cons (pm_str (s := [47, 50]) (by decide +kernel)) (pma_cons (pm_str (s := [50, 47, 52]) (by decide +kernel)) (pma_cons (pm_str (s := [51, 47, 49]) (by decide +kernel)) (pma_cons (pm_str (s := [49, 47, 48]) (by decide +kernel)) (pma_cons (pm_str (s := [43, 49]) (by decide +kernel)) (pma_cons (pm_str (s := [49, 46, 48]) (by decide +kernel)) (pma_cons (pm_str (s := [45, 45, 49]) (by decide +kernel)) (pma_cons (pm_str (s := [49, 47, 45, 50]) (by decide +kernel)) (pma_cons (pm_str (s := [49, 47, 48, 50]) (by decide +kernel)) (pma_cons (pm_str (s := [32, 49]) (by decide +kernel)) (pma_cons (pm_str (s := [120]) (by decide +kernel)) (pma_cons (pm_str (s := [49, 32]) (by decide +kernel)) pma_nil)))))))))))))))))))
      (psm_cons (psm_set 1 sc.nd (pm_add (pm_var 1) (pm_lst (pma_cons (pm_add (pm_str (s := [49]) (by decide +kernel)) (pm_mul (pm_str (s := [48]) (by decide +kernel)) pm_int)) (pma_cons (pm_add (pm_str (s := [49, 47, 49]) (by decide +kernel)) (pm_mul (pm_str (s := [48]) (by decide +kernel)) pm_int)) (pma_cons (pm_str (s := [48, 47, 50]) (by decide +kernel)) (pma_cons (pm_str (s := [45, 48, 47, 49]) (by decide +kernel)) (pma_cons (pm_str (s := [48, 47, 49]) (by decide +kernel)) (pma_cons (pm_str (s := [49, 47, 50, 47, 51]) (by decide +kernel)) pma_nil)))))))))
      (psm_cons (psm_set 1 sc.nd (pm_add (pm_var 1) (pm_lst (pma_cons (pm_str (s := [61, 49]) (by decide +kernel)) (pma_cons (pm_str (s := [49, 101, 51]) (by decide +kernel)) (pma_cons (pm_str (s := [49, 95, 48]) (by decide +kernel)) (pma_cons (pm_str (s := [97]) (by decide +kernel)) (pma_cons (pm_str (s := [45, 49, 47, 49]) (by decide +kernel)) (pma_cons (pm_str (s := [48, 48]) (by decide +kernel)) pma_nil)))))))))
      (psm_one (psm_ret (pm_ix (pm_var 1) (pm_def (d__law_pick mo) tk hr (pma_cons (pm_var 0) (pma_cons pm_int (pma_cons (pm_bltB call_len bm_len z_len (by decide +kernel) (pma_cons (pm_var 1) pma_nil)) pma_nil))) (amn_cons (amn_cons (amn_cons amn_nil))))))))))
theorem sc__law_number_right : FnScope ["_law_cell", "_law_other", "_law_form", "_law_top", "_law_bottom", "_law_word", "_law_found"] ["_law_cell", "_law_other"] (defScope (topS 66)) := ⟨rfl, rfl, rfl, by decide +kernel, rfl, by decide +kernel, by decide +kernel⟩
set_option maxHeartbeats 4000000 in
theorem ok__law_number_right {f : Addr} {fd : FuncData} (F : Fun K "_law_number_right" "_law_number_right" (topS 66) f fd) (hm : mg "_law_number_right" = some (.ref f)) (b : Binds K fd ["_law_cell", "_law_other"] []) (z_str : mg "str" = none) (z_isinstance : mg "isinstance" = none) (z_tuple : mg "tuple" = none) (d__law_size : ∀ mo, DefOk P w K mg base mo "_law_size" 2 3 M._law_size) (d__law_lowest : ∀ mo, DefOk P w K mg base mo "_law_lowest" 2 2 M._law_lowest) (d__law_pick : ∀ mo, DefOk P w K mg base mo "_law_pick" 1 3 M._law_pick) (d_read_value : ∀ mo, DefOk P w K mg base mo "read_value" 4 2 M.read_value) (d__law_whole : ∀ mo, DefOk P w K mg base mo "_law_whole" 1 1 M._law_whole) (d_show_value : ∀ mo, DefOk P w K mg base mo "show_value" 2 2 M.show_value) (d__law_no_number : ∀ mo, DefOk P w K mg base mo "_law_no_number" 2 1 M._law_no_number) (d__law_refused : DefOk P w K mg base false "_law_refused" 5 1 M._law_refused) (mkD_NumberForm_2 : ∀ mo, MakeOkD P w K mg base mo "NumberForm" 2 2 M.NumberForm_init [.int 10, .str [109, 105, 110, 117, 115], .int 0, .str [44], .str [46], .str [110, 101, 97, 114], .int 0, .str [32], .str [114, 105, 103, 104, 116], .bl false]) : DefOk P w K mg base false "_law_number_right" 6 2 M._law_number_right := by
  have sc := sc__law_number_right
  refine ⟨f, fd, ["_law_cell", "_law_other"], hm, F.kp, b, fn_m (np := 2) (nl := 5) (k := 5) F sc rfl rfl fun cdv A outer s H E hr => ?_⟩
  have tk := takes_m (m := false) (X := cxOf (CXm false P w) P w K mg base ["_law_cell", "_law_other", "_law_form", "_law_top", "_law_bottom", "_law_word", "_law_found"] "_law_number_right" (defScope (topS 66)) f cdv A outer s H E) rfl rfl rfl rfl
  have hp := passes_of (X := cxOf (CXm false P w) P w K mg base ["_law_cell", "_law_other", "_law_form", "_law_top", "_law_bottom", "_law_word", "_law_found"] "_law_number_right" (defScope (topS 66)) f cdv A outer s H E) rfl
  have hu := hr.units
  have hu65 := hu65_of hr
  exact (psm_cons (psm_set 2 sc.nd (pm_makeD (C := "NumberForm") (mkD_NumberForm_2 false) tk hr (pma_cons pm_int (pma_cons pm_int pma_nil)) (amn_cons (amn_cons amn_nil))))
      (psm_frz 2 (psm_cons (psm_unp (is := [3, 4]) (pm_def (d__law_lowest false) tk hr (pma_cons (pm_def (d__law_size false) tk hr (pma_cons (pm_var 0) (pma_cons pm_int (pma_cons pm_int pma_nil))) (amn_cons (amn_cons (amn_cons amn_nil)))) (pma_cons (pm_add pm_int (pm_def (d__law_size false) tk hr (pma_cons (pm_var 1) (pma_cons pm_int (pma_cons pm_int pma_nil))) (amn_cons (amn_cons (amn_cons amn_nil))))) pma_nil)) (amn_cons (amn_cons amn_nil))) rfl (pg_tup (n := 2) rfl (pgs_cons (pg_name (i := 3) sc.nd rfl (by first | exact Or.inl rfl | exact Or.inr rfl)) (pgs_cons (pg_name (i := 4) sc.nd rfl (by first | exact Or.inl rfl | exact Or.inr rfl)) pgs_nil))))
      (psm_cons (psm_if (pmt_eq hu (pm_var 4) (pm_pow pm_int pm_int)) (psm_one (psm_set 4 sc.nd pm_int)) psm_nil)
      (psm_cons (psm_set 3 sc.nd (pm_ix (pm_lst (pma_cons (pm_var 3) (pma_cons (pm_neg (pm_var 3)) pma_nil))) (pm_def (d__law_pick false) tk hr (pma_cons (pm_var 0) (pma_cons pm_int (pma_cons pm_int pma_nil))) (amn_cons (amn_cons (amn_cons amn_nil))))))
      (psm_cons (psm_set 5 sc.nd (pm_bltT call_str_int bm_str z_str (by decide +kernel) (pma_cons (pm_var 3) pma_nil)))
      (psm_cons (psm_if (pmt_gt (pm_var 4) pm_int) (psm_one (psm_set 5 sc.nd (pm_add (pm_add (pm_var 5) (pm_str (s := [47]) (by decide +kernel))) (pm_bltT call_str_int bm_str z_str (by decide +kernel) (pma_cons (pm_var 4) pma_nil))))) psm_nil)
      (psm_cons (psm_set 6 sc.nd (pm_def (d_read_value false) tk hr (pma_cons (pm_var 2) (pma_cons (pm_var 5) pma_nil)) (amn_cons (amn_cons amn_nil))))
      (psm_cons (psm_if (pmt_w (pmw_or (pmt_not (pmt_tru (pm_is (T := "tuple") is_tuple (pm_var 6) z_isinstance z_tuple (by decide +kernel)))) (pmw_or1 (pmt_ne hu (pm_var 6) (pm_tup (pma_cons (pm_var 3) (pma_cons (pm_var 4) pma_nil))))))) (psm_one (psm_ret pm_bl)) psm_nil)
      (psm_cons (psm_if (pmt_w (pmw_or (pmt_not (pmt_tru (pm_def (d__law_whole false) tk hr (pma_cons (pm_ix (pm_var 6) pm_int) pma_nil) (amn_cons amn_nil)))) (pmw_or1 (pmt_not (pmt_tru (pm_def (d__law_whole false) tk hr (pma_cons (pm_ix (pm_var 6) pm_int) pma_nil) (amn_cons amn_nil))))))) (psm_one (psm_ret pm_bl)) psm_nil)
      (psm_one (psm_ret (pm_and (pm_eq hu (pm_def (d_show_value false) tk hr (pma_cons (pm_var 2) (pma_cons (pm_tup (pma_cons (pm_var 3) (pma_cons (pm_var 4) pma_nil))) pma_nil)) (amn_cons (amn_cons amn_nil))) (pm_var 5)) (pm_one (pm_def d__law_refused tk hr (pma_cons (pm_tup (pma_cons (pm_var 2) (pma_cons (pm_def (d__law_no_number false) tk hr (pma_cons (pm_var 0) pma_nil) (amn_cons amn_nil)) pma_nil))) pma_nil) (amn_cons amn_nil))))))))))))))))
theorem sc__law_text_right : FnScope ["_law_cell", "_law_other", "_law_edge", "_law_told", "_law_form", "_law_word", "_law_longer", "_law_bad"] ["_law_cell", "_law_other"] (defScope (topS 67)) := ⟨rfl, rfl, rfl, by decide +kernel, rfl, by decide +kernel, by decide +kernel⟩
set_option maxHeartbeats 4000000 in
theorem ok__law_text_right {f : Addr} {fd : FuncData} (F : Fun K "_law_text_right" "_law_text_right" (topS 67) f fd) (hm : mg "_law_text_right" = some (.ref f)) (b : Binds K fd ["_law_cell", "_law_other"] []) (d__law_plain_text : ∀ mo, DefOk P w K mg base mo "_law_plain_text" 2 3 M._law_plain_text) (d_show_edge : ∀ mo, DefOk P w K mg base mo "show_edge" 1 1 M.show_edge) (d_read_edge : ∀ mo, DefOk P w K mg base mo "read_edge" 2 1 M.read_edge) (d_show_value : ∀ mo, DefOk P w K mg base mo "show_value" 2 2 M.show_value) (d_read_value : ∀ mo, DefOk P w K mg base mo "read_value" 4 2 M.read_value) (d__law_pick : ∀ mo, DefOk P w K mg base mo "_law_pick" 1 3 M._law_pick) (d__law_refused : DefOk P w K mg base false "_law_refused" 5 1 M._law_refused) (mkD_WordForm_3 : ∀ mo, MakeOkD P w K mg base mo "WordForm" 2 3 M.WordForm_init [.int 0, .str [32], .str [108, 101, 102, 116], .bl false]) : DefOk P w K mg base false "_law_text_right" 6 2 M._law_text_right := by
  have sc := sc__law_text_right
  refine ⟨f, fd, ["_law_cell", "_law_other"], hm, F.kp, b, fn_m (np := 2) (nl := 6) (k := 5) F sc rfl rfl fun cdv A outer s H E hr => ?_⟩
  have tk := takes_m (m := false) (X := cxOf (CXm false P w) P w K mg base ["_law_cell", "_law_other", "_law_edge", "_law_told", "_law_form", "_law_word", "_law_longer", "_law_bad"] "_law_text_right" (defScope (topS 67)) f cdv A outer s H E) rfl rfl rfl rfl
  have hp := passes_of (X := cxOf (CXm false P w) P w K mg base ["_law_cell", "_law_other", "_law_edge", "_law_told", "_law_form", "_law_word", "_law_longer", "_law_bad"] "_law_text_right" (defScope (topS 67)) f cdv A outer s H E) rfl
  have hu := hr.units
  have hu65 := hu65_of hr
  exact (psm_cons (psm_set 2 sc.nd (pm_def (d__law_plain_text false) tk hr (pma_cons (pm_var 0) (pma_cons pm_int (pma_cons pm_int pma_nil))) (amn_cons (amn_cons (amn_cons amn_nil)))))
      (psm_cons (psm_set 3 sc.nd (pm_def (d__law_plain_text false) tk hr (pma_cons (pm_var 1) (pma_cons pm_int (pma_cons pm_int pma_nil))) (amn_cons (amn_cons (amn_cons amn_nil)))))
      (psm_cons (psm_set 4 sc.nd (pm_makeD (C := "WordForm") (mkD_WordForm_3 false) tk hr (pma_cons (pm_str (s := [97, 98]) (by decide +kernel)) (pma_cons pm_int (pma_cons pm_int pma_nil))) (amn_cons (amn_cons (amn_cons amn_nil)))))
      (psm_frz 4 (psm_cons (psm_if (pmt_w (pmw_or (pmt_ne hu (pm_def (d_show_edge false) tk hr (pma_cons (pm_var 2) pma_nil) (amn_cons amn_nil)) (pm_addG (pm_str (s := [61]) (by decide +kernel)) up_str (pmk_repl (c := 32) (d := 95) (by decide +kernel) (by decide +kernel) (pm_var 2)))) (pmw_or1 (pmt_ne hu (pm_def (d_read_edge false) tk hr (pma_cons (pm_addG (pm_str (s := [61]) (by decide +kernel)) up_str (pmk_repl (c := 32) (d := 95) (by decide +kernel) (by decide +kernel) (pm_var 2))) pma_nil) (amn_cons amn_nil)) (pm_var 2))))) (psm_one (psm_ret pm_bl)) psm_nil)
      (psm_cons (psm_set 5 sc.nd (pm_addG (pm_str (s := [61]) (by decide +kernel)) up_str (pmk_repl (c := 32) (d := 95) (by decide +kernel) (by decide +kernel) (pm_var 3))))
      (psm_cons (psm_if (pmt_w (pmw_or (pmt_ne hu (pm_def (d_show_value false) tk hr (pma_cons (pm_var 4) (pma_cons (pm_var 3) pma_nil)) (amn_cons (amn_cons amn_nil))) (pm_var 5)) (pmw_or1 (pmt_ne hu (pm_def (d_read_value false) tk hr (pma_cons (pm_var 4) (pma_cons (pm_var 5) pma_nil)) (amn_cons (amn_cons amn_nil))) (pm_var 3))))) (psm_one (psm_ret pm_bl)) psm_nil)
      (psm_cons (psm_set 6 sc.nd (pm_addG (pm_str (s := [61]) (by decide +kernel)) up_str (pmk_cut (pmk_add (pmk_repl (c := 32) (d := 95) (by decide +kernel) (by decide +kernel) (pm_var 3)) (pmk_of (pm_str (s := [97, 98, 99, 100, 101, 102, 103, 104, 105]) (by decide +kernel)))) pmo_none (pmo_some (pm_add pm_int (pm_def (d__law_pick false) tk hr (pma_cons (pm_var 0) (pma_cons pm_int (pma_cons pm_int pma_nil))) (amn_cons (amn_cons (amn_cons amn_nil)))))))))
      (psm_cons (psm_set 7 sc.nd (pm_ix (pm_lst (pma_cons (pm_str (s := []) (by decide +kernel)) (pma_cons (pm_str (s := [97, 61]) (by decide +kernel)) (pma_cons (pm_str (s := [97, 98]) (by decide +kernel)) (pma_cons (pm_str (s := [95]) (by decide +kernel)) (pma_cons (pm_str (s := [45, 61]) (by decide +kernel)) (pma_cons (pm_str (s := [45]) (by decide +kernel)) pma_nil))))))) (pm_def (d__law_pick false) tk hr (pma_cons (pm_var 1) (pma_cons pm_int (pma_cons pm_int pma_nil))) (amn_cons (amn_cons (amn_cons amn_nil))))))
      (psm_one (psm_ret (pm_and (pm_def d__law_refused tk hr (pma_cons (pm_tup (pma_cons pm_non (pma_cons (pm_var 6) pma_nil))) pma_nil) (amn_cons amn_nil)) (pm_and (pm_def d__law_refused tk hr (pma_cons (pm_tup (pma_cons pm_non (pma_cons (pm_var 7) pma_nil))) pma_nil) (amn_cons amn_nil)) (pm_one (pm_def d__law_refused tk hr (pma_cons (pm_tup (pma_cons (pm_var 4) (pma_cons (pm_var 7) pma_nil))) pma_nil) (amn_cons amn_nil))))))))))))))))
theorem sc__law_name_right : FnScope ["_law_cell", "_law_form", "_law_name"] ["_law_cell"] (defScope (topS 68)) := ⟨rfl, rfl, rfl, by decide +kernel, rfl, by decide +kernel, by decide +kernel⟩
set_option maxHeartbeats 4000000 in
theorem ok__law_name_right {f : Addr} {fd : FuncData} (F : Fun K "_law_name_right" "_law_name_right" (topS 68) f fd) (hm : mg "_law_name_right" = some (.ref f)) (b : Binds K fd ["_law_cell"] []) (d__law_plain_text : ∀ mo, DefOk P w K mg base mo "_law_plain_text" 2 3 M._law_plain_text) (d_read_value : ∀ mo, DefOk P w K mg base mo "read_value" 4 2 M.read_value) (d_show_value : ∀ mo, DefOk P w K mg base mo "show_value" 2 2 M.show_value) (d__law_refused : DefOk P w K mg base false "_law_refused" 5 1 M._law_refused) (mkD_ChoiceForm_1 : ∀ mo, MakeOkD P w K mg base mo "ChoiceForm" 2 1 M.ChoiceForm_init [.int 0, .str [32], .str [108, 101, 102, 116], .bl false]) : DefOk P w K mg base false "_law_name_right" 6 1 M._law_name_right := by
  have sc := sc__law_name_right
  refine ⟨f, fd, ["_law_cell"], hm, F.kp, b, fn_m (np := 1) (nl := 2) (k := 5) F sc rfl rfl fun cdv A outer s H E hr => ?_⟩
  have tk := takes_m (m := false) (X := cxOf (CXm false P w) P w K mg base ["_law_cell", "_law_form", "_law_name"] "_law_name_right" (defScope (topS 68)) f cdv A outer s H E) rfl rfl rfl rfl
  have hp := passes_of (X := cxOf (CXm false P w) P w K mg base ["_law_cell", "_law_form", "_law_name"] "_law_name_right" (defScope (topS 68)) f cdv A outer s H E) rfl
  have hu := hr.units
  have hu65 := hu65_of hr
  exact (psm_cons (psm_set 1 sc.nd (pm_makeD (C := "ChoiceForm") (mkD_ChoiceForm_1 false) tk hr (pma_cons (pm_lst (pma_cons (pm_str (s := [97]) (by decide +kernel)) pma_nil)) pma_nil) (amn_cons amn_nil)))
      (psm_frz 1 (psm_cons (psm_set 2 sc.nd (pm_add (pm_replG (c := 32) (d := 95) (by decide +kernel) (by decide +kernel) (pm_def (d__law_plain_text false) tk hr (pma_cons (pm_var 0) (pma_cons pm_int (pma_cons pm_int pma_nil))) (amn_cons (amn_cons (amn_cons amn_nil)))) up_call3) (pm_str (s := [120]) (by decide +kernel))))
      (psm_one (psm_ret (pm_and (pm_eq hu (pm_def (d_read_value false) tk hr (pma_cons (pm_var 1) (pma_cons (pm_var 2) pma_nil)) (amn_cons (amn_cons amn_nil))) (pm_var 2)) (pm_and (pm_eq hu (pm_def (d_show_value false) tk hr (pma_cons (pm_var 1) (pma_cons (pm_var 2) pma_nil)) (amn_cons (amn_cons amn_nil))) (pm_var 2)) (pm_one (pm_def d__law_refused tk hr (pma_cons (pm_tup (pma_cons (pm_var 1) (pma_cons (pm_str (s := []) (by decide +kernel)) pma_nil))) pma_nil) (amn_cons amn_nil))))))))))
theorem sc_law : FnScope ["_law_script", "_law_k", "_law_cell", "_law_other"] ["_law_script"] (defScope (topS 69)) := ⟨rfl, rfl, rfl, by decide +kernel, rfl, by decide +kernel, by decide +kernel⟩
set_option maxHeartbeats 4000000 in
theorem fnok_law {f : Addr} {fd : FuncData} (F : Fun K "law" "law" (topS 69) f fd) (z_len : mg "len" = none) (z_min : mg "min" = none) (z_max : mg "max" = none) (z_range : mg "range" = none) (d__law_cell_at : ∀ mo, DefOk P w K mg base mo "_law_cell_at" 1 2 M._law_cell_at) (d__law_number_right : DefOk P w K mg base false "_law_number_right" 6 2 M._law_number_right) (d__law_text_right : DefOk P w K mg base false "_law_text_right" 6 2 M._law_text_right) (d__law_name_right : DefOk P w K mg base false "_law_name_right" 6 1 M._law_name_right) : FnOk P w K mg base (CXm false P w) 7 f fd ["_law_script"] (spM K mg 1 M.law) := by
  have sc := sc_law
  refine fn_m (np := 1) (nl := 3) (k := 6) F sc rfl rfl fun cdv A outer s H E hr => ?_
  have tk := takes_m (m := false) (X := cxOf (CXm false P w) P w K mg base ["_law_script", "_law_k", "_law_cell", "_law_other"] "law" (defScope (topS 69)) f cdv A outer s H E) rfl rfl rfl rfl
  have hp := passes_of (X := cxOf (CXm false P w) P w K mg base ["_law_script", "_law_k", "_law_cell", "_law_other"] "law" (defScope (topS 69)) f cdv A outer s H E) rfl
  have hu := hr.units
  have hu65 := hu65_of hr
  exact (psm_cons (psm_for hp rfl (pmi_r1 (pm_bltB (call_max2 rfl) bm_max z_max (by decide +kernel) (pma_cons pm_int (pma_cons (pm_bltB (call_min2 rfl) bm_min z_min (by decide +kernel) (pma_cons pm_int (pma_cons (pm_fdiv (pm_bltB call_len bm_len z_len (by decide +kernel) (pma_cons (pm_var 0) pma_nil)) pm_int) pma_nil))) pma_nil))) z_range) (pg_name (i := 1) sc.nd rfl (by first | exact Or.inl rfl | exact Or.inr rfl)) (put1_ok 1) (psm_cons (psm_set 2 sc.nd (pm_def (d__law_cell_at false) tk hr (pma_cons (pm_var 0) (pma_cons (pm_mul pm_int (pm_var 1)) pma_nil)) (amn_cons (amn_cons amn_nil))))
      (psm_cons (psm_set 3 sc.nd (pm_def (d__law_cell_at false) tk hr (pma_cons (pm_var 0) (pma_cons (pm_add (pm_mul pm_int (pm_var 1)) pm_int) pma_nil)) (amn_cons (amn_cons amn_nil))))
      (psm_one (psm_if (pmt_w (pmw_or (pmt_not (pmt_tru (pm_def d__law_number_right tk hr (pma_cons (pm_var 2) (pma_cons (pm_var 3) pma_nil)) (amn_cons (amn_cons amn_nil))))) (pmw_or (pmt_not (pmt_tru (pm_def d__law_text_right tk hr (pma_cons (pm_var 3) (pma_cons (pm_var 2) pma_nil)) (amn_cons (amn_cons amn_nil))))) (pmw_or1 (pmt_not (pmt_tru (pm_def d__law_name_right tk hr (pma_cons (pm_var 2) pma_nil) (amn_cons amn_nil)))))))) (psm_one (psm_ret pm_bl)) psm_nil)))))
      (psm_one (psm_ret pm_bl)))
end
end Wk
end

section
set_option Elab.async false
set_option linter.all false
set_option maxRecDepth 100000
namespace Wk
open PySem PySem.Spec L2 TL Dm M
set_option maxHeartbeats 40000000 in
theorem all_mk {l : PySem.W.OpenLaw} {w : World} {K : PySem.W.Frag} {h : Heap} {mg : Str → Option Value} {fa : Addr} (X : K.In h) (G : h.Ns mainGlobals mg) (hfa : mg "law" = some (.ref fa))
    (true_law : ∀ ns : List Int, ns.length ≤ 63 → M.law [.seq .rol (ns.map .int)] = .ok (.bl true, false))
    {x_Form : Addr}
    {x_NumberForm : Addr}
    {x_WordForm : Addr}
    {x_ChoiceForm : Addr}
    {f0 : Addr} {od0 an0 : Option Addr} {sl0 : Array (Option Value)} {oc0 kV0 dc0 pm0 cd0 ct0 : Value}
    {T1 : Addr} {oT1 : Option Addr} {mT1 : Nat} {sT1 : Array (Option Value)} {v1_0 v1_1 v1_2 v1_3 v1_4 v1_5 v1_6 v1_7 v1_8 : Tok} {cT1 : Value}
    {f1 : Addr} {od1 an1 : Option Addr} {sl1 : Array (Option Value)} {oc1 kV1 dc1 pm1 cd1 ct1 : Value}
    {T2 : Addr} {oT2 : Option Addr} {mT2 : Nat} {sT2 : Array (Option Value)} {v2_0 v2_1 v2_2 : Tok} {cT2 : Value}
    {f2 : Addr} {od2 an2 : Option Addr} {sl2 : Array (Option Value)} {oc2 kV2 dc2 pm2 cd2 ct2 : Value}
    {T3 : Addr} {oT3 : Option Addr} {mT3 : Nat} {sT3 : Array (Option Value)} {v3_0 v3_1 v3_2 : Tok} {cT3 : Value}
    {f3 : Addr} {od3 an3 : Option Addr} {sl3 : Array (Option Value)} {oc3 kV3 dc3 pm3 cd3 ct3 : Value}
    {f4 : Addr} {od4 an4 : Option Addr} {sl4 : Array (Option Value)} {oc4 kV4 dc4 pm4 cd4 ct4 : Value}
    {f5 : Addr} {od5 an5 : Option Addr} {sl5 : Array (Option Value)} {oc5 kV5 dc5 pm5 cd5 ct5 : Value}
    {f6 : Addr} {od6 an6 : Option Addr} {sl6 : Array (Option Value)} {oc6 kV6 dc6 pm6 cd6 ct6 : Value}
    {f7 : Addr} {od7 an7 : Option Addr} {sl7 : Array (Option Value)} {oc7 kV7 dc7 pm7 cd7 ct7 : Value}
    {f8 : Addr} {od8 an8 : Option Addr} {sl8 : Array (Option Value)} {oc8 kV8 dc8 pm8 cd8 ct8 : Value}
    {f9 : Addr} {od9 an9 : Option Addr} {sl9 : Array (Option Value)} {oc9 kV9 dc9 pm9 cd9 ct9 : Value}
    {f10 : Addr} {od10 an10 : Option Addr} {sl10 : Array (Option Value)} {oc10 kV10 dc10 pm10 cd10 ct10 : Value}
    {f11 : Addr} {od11 an11 : Option Addr} {sl11 : Array (Option Value)} {oc11 kV11 dc11 pm11 cd11 ct11 : Value}
    {f12 : Addr} {od12 an12 : Option Addr} {sl12 : Array (Option Value)} {oc12 kV12 dc12 pm12 cd12 ct12 : Value}
    {f13 : Addr} {od13 an13 : Option Addr} {sl13 : Array (Option Value)} {oc13 kV13 dc13 pm13 cd13 ct13 : Value}
    {f14 : Addr} {od14 an14 : Option Addr} {sl14 : Array (Option Value)} {oc14 kV14 dc14 pm14 cd14 ct14 : Value}
    {f15 : Addr} {od15 an15 : Option Addr} {sl15 : Array (Option Value)} {oc15 kV15 dc15 pm15 cd15 ct15 : Value}
    {f16 : Addr} {od16 an16 : Option Addr} {sl16 : Array (Option Value)} {oc16 kV16 dc16 pm16 cd16 ct16 : Value}
    {f17 : Addr} {od17 an17 : Option Addr} {sl17 : Array (Option Value)} {oc17 kV17 dc17 pm17 cd17 ct17 : Value}
    {f18 : Addr} {od18 an18 : Option Addr} {sl18 : Array (Option Value)} {oc18 kV18 dc18 pm18 cd18 ct18 : Value}
    {f19 : Addr} {od19 an19 : Option Addr} {sl19 : Array (Option Value)} {oc19 kV19 dc19 pm19 cd19 ct19 : Value}
    {f20 : Addr} {od20 an20 : Option Addr} {sl20 : Array (Option Value)} {oc20 kV20 dc20 pm20 cd20 ct20 : Value}
    {f21 : Addr} {od21 an21 : Option Addr} {sl21 : Array (Option Value)} {oc21 kV21 dc21 pm21 cd21 ct21 : Value}
    {f22 : Addr} {od22 an22 : Option Addr} {sl22 : Array (Option Value)} {oc22 kV22 dc22 pm22 cd22 ct22 : Value}
    {f23 : Addr} {od23 an23 : Option Addr} {sl23 : Array (Option Value)} {oc23 kV23 dc23 pm23 cd23 ct23 : Value}
    {f24 : Addr} {od24 an24 : Option Addr} {sl24 : Array (Option Value)} {oc24 kV24 dc24 pm24 cd24 ct24 : Value}
    {f25 : Addr} {od25 an25 : Option Addr} {sl25 : Array (Option Value)} {oc25 kV25 dc25 pm25 cd25 ct25 : Value}
    {f26 : Addr} {od26 an26 : Option Addr} {sl26 : Array (Option Value)} {oc26 kV26 dc26 pm26 cd26 ct26 : Value}
    {f27 : Addr} {od27 an27 : Option Addr} {sl27 : Array (Option Value)} {oc27 kV27 dc27 pm27 cd27 ct27 : Value}
    {xNoRow : Addr}
    {xPadError : Addr}
    {xNoValue : Addr}
    {xNoText : Addr}
    {xNoNumber : Addr}
    {xNoForm : Addr}
    {t_MOST_FIGURES : Tok}
    {t_FIGURES_deskwords : Tok}
    {t_MOST_EDGE : Tok}
    (ec_Form : PySem.W.nsIn K mainGlobals "Form" = some (some (.ref x_Form)))
    (ec_NumberForm : PySem.W.nsIn K mainGlobals "NumberForm" = some (some (.ref x_NumberForm)))
    (cp_NumberForm : PySem.W.plainGet K x_NumberForm Str.empty = true)
    (ch_NumberForm : PySem.W.hasDictIn K x_NumberForm = true)
    (co_NumberForm : PySem.W.plainOver K x_NumberForm = true)
    (cs_NumberForm : PySem.W.findIn K (.ref x_NumberForm) "__setattr__" = some (some (.builtin "object.__setattr__")))
    (ec_WordForm : PySem.W.nsIn K mainGlobals "WordForm" = some (some (.ref x_WordForm)))
    (cp_WordForm : PySem.W.plainGet K x_WordForm Str.empty = true)
    (ch_WordForm : PySem.W.hasDictIn K x_WordForm = true)
    (co_WordForm : PySem.W.plainOver K x_WordForm = true)
    (cs_WordForm : PySem.W.findIn K (.ref x_WordForm) "__setattr__" = some (some (.builtin "object.__setattr__")))
    (ec_ChoiceForm : PySem.W.nsIn K mainGlobals "ChoiceForm" = some (some (.ref x_ChoiceForm)))
    (cp_ChoiceForm : PySem.W.plainGet K x_ChoiceForm Str.empty = true)
    (ch_ChoiceForm : PySem.W.hasDictIn K x_ChoiceForm = true)
    (co_ChoiceForm : PySem.W.plainOver K x_ChoiceForm = true)
    (cs_ChoiceForm : PySem.W.findIn K (.ref x_ChoiceForm) "__setattr__" = some (some (.builtin "object.__setattr__")))
    (na_ChoiceForm_fill : PySem.W.findIn K (.ref x_ChoiceForm) "fill" = some none)
    (na_ChoiceForm_names : PySem.W.findIn K (.ref x_ChoiceForm) "names" = some none)
    (na_ChoiceForm_side : PySem.W.findIn K (.ref x_ChoiceForm) "side" = some none)
    (na_ChoiceForm_strict : PySem.W.findIn K (.ref x_ChoiceForm) "strict" = some none)
    (na_ChoiceForm_width : PySem.W.findIn K (.ref x_ChoiceForm) "width" = some none)
    (na_NumberForm_base : PySem.W.findIn K (.ref x_NumberForm) "base" = some none)
    (na_NumberForm_figures : PySem.W.findIn K (.ref x_NumberForm) "figures" = some none)
    (na_NumberForm_fill : PySem.W.findIn K (.ref x_NumberForm) "fill" = some none)
    (na_NumberForm_mark : PySem.W.findIn K (.ref x_NumberForm) "mark" = some none)
    (na_NumberForm_places : PySem.W.findIn K (.ref x_NumberForm) "places" = some none)
    (na_NumberForm_point : PySem.W.findIn K (.ref x_NumberForm) "point" = some none)
    (na_NumberForm_side : PySem.W.findIn K (.ref x_NumberForm) "side" = some none)
    (na_NumberForm_sign : PySem.W.findIn K (.ref x_NumberForm) "sign" = some none)
    (na_NumberForm_size : PySem.W.findIn K (.ref x_NumberForm) "size" = some none)
    (na_NumberForm_strict : PySem.W.findIn K (.ref x_NumberForm) "strict" = some none)
    (na_NumberForm_way : PySem.W.findIn K (.ref x_NumberForm) "way" = some none)
    (na_NumberForm_width : PySem.W.findIn K (.ref x_NumberForm) "width" = some none)
    (na_WordForm_fill : PySem.W.findIn K (.ref x_WordForm) "fill" = some none)
    (na_WordForm_least : PySem.W.findIn K (.ref x_WordForm) "least" = some none)
    (na_WordForm_most : PySem.W.findIn K (.ref x_WordForm) "most" = some none)
    (na_WordForm_side : PySem.W.findIn K (.ref x_WordForm) "side" = some none)
    (na_WordForm_signs : PySem.W.findIn K (.ref x_WordForm) "signs" = some none)
    (na_WordForm_strict : PySem.W.findIn K (.ref x_WordForm) "strict" = some none)
    (na_WordForm_width : PySem.W.findIn K (.ref x_WordForm) "width" = some none)
    (mm_ChoiceForm : PySem.W.makesIn K x_ChoiceForm = true)
    (mq_ChoiceForm : PySem.W.keepIn K (.ref x_ChoiceForm) = true)
    (mm_NumberForm : PySem.W.makesIn K x_NumberForm = true)
    (mq_NumberForm : PySem.W.keepIn K (.ref x_NumberForm) = true)
    (mm_WordForm : PySem.W.makesIn K x_WordForm = true)
    (mq_WordForm : PySem.W.keepIn K (.ref x_WordForm) = true)
    (jg : PySem.W.specialIn K (.builtin "object.__class__") "__get__" = some (some (.builtin "getset_descriptor.__get__")))
    (jt : PySem.W.takesIn K (.builtin "object.__class__") = some true)
    (jc_NumberForm : PySem.W.findIn K (.ref x_NumberForm) "__class__" = some (some (.builtin "object.__class__")))
    (jm_NumberForm : PySem.W.mroIn K x_NumberForm (.type "object") = some true)
    (js_NumberForm_NumberForm : PySem.W.subIn K (.ref x_NumberForm) (.ref x_NumberForm) = some true)
    (jc_WordForm : PySem.W.findIn K (.ref x_WordForm) "__class__" = some (some (.builtin "object.__class__")))
    (jm_WordForm : PySem.W.mroIn K x_WordForm (.type "object") = some true)
    (js_WordForm_WordForm : PySem.W.subIn K (.ref x_WordForm) (.ref x_WordForm) = some true)
    (jc_ChoiceForm : PySem.W.findIn K (.ref x_ChoiceForm) "__class__" = some (some (.builtin "object.__class__")))
    (jm_ChoiceForm : PySem.W.mroIn K x_ChoiceForm (.type "object") = some true)
    (js_ChoiceForm_ChoiceForm : PySem.W.subIn K (.ref x_ChoiceForm) (.ref x_ChoiceForm) = some true)
    (jh_NumberForm : PySem.W.hasDictIn K x_NumberForm = true)
    (jy_NumberForm : PySem.W.typeIn K (.ref x_NumberForm) = some (.type "type"))
    (js_WordForm_NumberForm : PySem.W.subIn K (.ref x_WordForm) (.ref x_NumberForm) = some false)
    (js_ChoiceForm_NumberForm : PySem.W.subIn K (.ref x_ChoiceForm) (.ref x_NumberForm) = some false)
    (jh_WordForm : PySem.W.hasDictIn K x_WordForm = true)
    (jy_WordForm : PySem.W.typeIn K (.ref x_WordForm) = some (.type "type"))
    (js_NumberForm_WordForm : PySem.W.subIn K (.ref x_NumberForm) (.ref x_WordForm) = some false)
    (js_ChoiceForm_WordForm : PySem.W.subIn K (.ref x_ChoiceForm) (.ref x_WordForm) = some false)
    (a0 : PySem.W.findIn K (.ref x_Form) "__init__" = some (some (.ref f0))) (l0 : K.lookup f0 = some ⟨oc0, od0, .func (PySem.W.fnOf "__init__" "Form.__init__" (defArgs (clsS 26 0)) (defBody (clsS 26 0)) (defScope (clsS 26 0)) .none kV0 dc0 pm0 an0 cd0 ct0), sl0⟩) (c0 : PySem.W.codeIn K cd0 "Form.__init__" = true) (k0 : PySem.W.keepIn K (.ref f0) = true) (i0 : PySem.W.isFn K (.ref f0) = true)
    (a1 : PySem.W.findIn K (.ref x_NumberForm) "__init__" = some (some (.ref f1))) (l1 : K.lookup f1 = some ⟨oc1, od1, .func (PySem.W.fnOf "__init__" "NumberForm.__init__" (defArgs (clsS 39 0)) (defBody (clsS 39 0)) (defScope (clsS 39 0)) (.ref T1) kV1 dc1 pm1 an1 cd1 ct1), sl1⟩) (c1 : PySem.W.codeIn K cd1 "NumberForm.__init__" = true) (k1 : PySem.W.keepIn K (.ref f1) = true) (i1 : PySem.W.isFn K (.ref f1) = true)
    (lT1 : K.lookup T1 = some ⟨cT1, oT1, .seq [.int 10 v1_0, .str ("minus" : Str) v1_1, .int 0 v1_2, .str ("," : Str) v1_3, .str ("." : Str) v1_4, .str ("near" : Str) v1_5, .int 0 v1_6, .str (" " : Str) v1_7, .str ("right" : Str) v1_8, .bool false].toArray mT1, sT1⟩)
    (a2 : PySem.W.findIn K (.ref x_WordForm) "__init__" = some (some (.ref f2))) (l2 : K.lookup f2 = some ⟨oc2, od2, .func (PySem.W.fnOf "__init__" "WordForm.__init__" (defArgs (clsS 42 0)) (defBody (clsS 42 0)) (defScope (clsS 42 0)) (.ref T2) kV2 dc2 pm2 an2 cd2 ct2), sl2⟩) (c2 : PySem.W.codeIn K cd2 "WordForm.__init__" = true) (k2 : PySem.W.keepIn K (.ref f2) = true) (i2 : PySem.W.isFn K (.ref f2) = true)
    (lT2 : K.lookup T2 = some ⟨cT2, oT2, .seq [.int 0 v2_0, .str (" " : Str) v2_1, .str ("left" : Str) v2_2, .bool false].toArray mT2, sT2⟩)
    (a3 : PySem.W.findIn K (.ref x_ChoiceForm) "__init__" = some (some (.ref f3))) (l3 : K.lookup f3 = some ⟨oc3, od3, .func (PySem.W.fnOf "__init__" "ChoiceForm.__init__" (defArgs (clsS 43 0)) (defBody (clsS 43 0)) (defScope (clsS 43 0)) (.ref T3) kV3 dc3 pm3 an3 cd3 ct3), sl3⟩) (c3 : PySem.W.codeIn K cd3 "ChoiceForm.__init__" = true) (k3 : PySem.W.keepIn K (.ref f3) = true) (i3 : PySem.W.isFn K (.ref f3) = true)
    (lT3 : K.lookup T3 = some ⟨cT3, oT3, .seq [.int 0 v3_0, .str (" " : Str) v3_1, .str ("left" : Str) v3_2, .bool false].toArray mT3, sT3⟩)
    (a4 : PySem.W.nsIn K mainGlobals "is_whole" = some (some (.ref f4))) (l4 : K.lookup f4 = some ⟨oc4, od4, .func (PySem.W.fnOf "is_whole" "is_whole" (defArgs (topS 17)) (defBody (topS 17)) (defScope (topS 17)) .none kV4 dc4 pm4 an4 cd4 ct4), sl4⟩) (c4 : PySem.W.codeIn K cd4 "is_whole" = true) (k4 : PySem.W.keepIn K (.ref f4) = true)
    (a5 : PySem.W.nsIn K mainGlobals "divisor_of" = some (some (.ref f5))) (l5 : K.lookup f5 = some ⟨oc5, od5, .func (PySem.W.fnOf "divisor_of" "divisor_of" (defArgs (topS 30)) (defBody (topS 30)) (defScope (topS 30)) .none kV5 dc5 pm5 an5 cd5 ct5), sl5⟩) (c5 : PySem.W.codeIn K cd5 "divisor_of" = true) (k5 : PySem.W.keepIn K (.ref f5) = true)
    (a6 : PySem.W.nsIn K mainGlobals "is_fraction" = some (some (.ref f6))) (l6 : K.lookup f6 = some ⟨oc6, od6, .func (PySem.W.fnOf "is_fraction" "is_fraction" (defArgs (topS 31)) (defBody (topS 31)) (defScope (topS 31)) .none kV6 dc6 pm6 an6 cd6 ct6), sl6⟩) (c6 : PySem.W.codeIn K cd6 "is_fraction" = true) (k6 : PySem.W.keepIn K (.ref f6) = true)
    (a7 : PySem.W.nsIn K mainGlobals "read_figures" = some (some (.ref f7))) (l7 : K.lookup f7 = some ⟨oc7, od7, .func (PySem.W.fnOf "read_figures" "read_figures" (defArgs (topS 48)) (defBody (topS 48)) (defScope (topS 48)) .none kV7 dc7 pm7 an7 cd7 ct7), sl7⟩) (c7 : PySem.W.codeIn K cd7 "read_figures" = true) (k7 : PySem.W.keepIn K (.ref f7) = true)
    (a8 : PySem.W.nsIn K mainGlobals "read_fraction" = some (some (.ref f8))) (l8 : K.lookup f8 = some ⟨oc8, od8, .func (PySem.W.fnOf "read_fraction" "read_fraction" (defArgs (topS 49)) (defBody (topS 49)) (defScope (topS 49)) .none kV8 dc8 pm8 an8 cd8 ct8), sl8⟩) (c8 : PySem.W.codeIn K cd8 "read_fraction" = true) (k8 : PySem.W.keepIn K (.ref f8) = true)
    (a9 : PySem.W.nsIn K mainGlobals "read_signs" = some (some (.ref f9))) (l9 : K.lookup f9 = some ⟨oc9, od9, .func (PySem.W.fnOf "read_signs" "read_signs" (defArgs (topS 50)) (defBody (topS 50)) (defScope (topS 50)) .none kV9 dc9 pm9 an9 cd9 ct9), sl9⟩) (c9 : PySem.W.codeIn K cd9 "read_signs" = true) (k9 : PySem.W.keepIn K (.ref f9) = true)
    (a10 : PySem.W.nsIn K mainGlobals "read_value" = some (some (.ref f10))) (l10 : K.lookup f10 = some ⟨oc10, od10, .func (PySem.W.fnOf "read_value" "read_value" (defArgs (topS 51)) (defBody (topS 51)) (defScope (topS 51)) .none kV10 dc10 pm10 an10 cd10 ct10), sl10⟩) (c10 : PySem.W.codeIn K cd10 "read_value" = true) (k10 : PySem.W.keepIn K (.ref f10) = true)
    (a11 : PySem.W.nsIn K mainGlobals "show_value" = some (some (.ref f11))) (l11 : K.lookup f11 = some ⟨oc11, od11, .func (PySem.W.fnOf "show_value" "show_value" (defArgs (topS 52)) (defBody (topS 52)) (defScope (topS 52)) .none kV11 dc11 pm11 an11 cd11 ct11), sl11⟩) (c11 : PySem.W.codeIn K cd11 "show_value" = true) (k11 : PySem.W.keepIn K (.ref f11) = true)
    (a12 : PySem.W.nsIn K mainGlobals "read_edge" = some (some (.ref f12))) (l12 : K.lookup f12 = some ⟨oc12, od12, .func (PySem.W.fnOf "read_edge" "read_edge" (defArgs (topS 53)) (defBody (topS 53)) (defScope (topS 53)) .none kV12 dc12 pm12 an12 cd12 ct12), sl12⟩) (c12 : PySem.W.codeIn K cd12 "read_edge" = true) (k12 : PySem.W.keepIn K (.ref f12) = true)
    (a13 : PySem.W.nsIn K mainGlobals "show_edge" = some (some (.ref f13))) (l13 : K.lookup f13 = some ⟨oc13, od13, .func (PySem.W.fnOf "show_edge" "show_edge" (defArgs (topS 54)) (defBody (topS 54)) (defScope (topS 54)) .none kV13 dc13 pm13 an13 cd13 ct13), sl13⟩) (c13 : PySem.W.codeIn K cd13 "show_edge" = true) (k13 : PySem.W.keepIn K (.ref f13) = true)
    (a14 : PySem.W.nsIn K mainGlobals "_law_cell_at" = some (some (.ref f14))) (l14 : K.lookup f14 = some ⟨oc14, od14, .func (PySem.W.fnOf "_law_cell_at" "_law_cell_at" (defArgs (topS 56)) (defBody (topS 56)) (defScope (topS 56)) .none kV14 dc14 pm14 an14 cd14 ct14), sl14⟩) (c14 : PySem.W.codeIn K cd14 "_law_cell_at" = true) (k14 : PySem.W.keepIn K (.ref f14) = true)
    (a15 : PySem.W.nsIn K mainGlobals "_law_whole" = some (some (.ref f15))) (l15 : K.lookup f15 = some ⟨oc15, od15, .func (PySem.W.fnOf "_law_whole" "_law_whole" (defArgs (topS 57)) (defBody (topS 57)) (defScope (topS 57)) .none kV15 dc15 pm15 an15 cd15 ct15), sl15⟩) (c15 : PySem.W.codeIn K cd15 "_law_whole" = true) (k15 : PySem.W.keepIn K (.ref f15) = true)
    (a16 : PySem.W.nsIn K mainGlobals "_law_pick" = some (some (.ref f16))) (l16 : K.lookup f16 = some ⟨oc16, od16, .func (PySem.W.fnOf "_law_pick" "_law_pick" (defArgs (topS 58)) (defBody (topS 58)) (defScope (topS 58)) .none kV16 dc16 pm16 an16 cd16 ct16), sl16⟩) (c16 : PySem.W.codeIn K cd16 "_law_pick" = true) (k16 : PySem.W.keepIn K (.ref f16) = true)
    (a17 : PySem.W.nsIn K mainGlobals "_law_great" = some (some (.ref f17))) (l17 : K.lookup f17 = some ⟨oc17, od17, .func (PySem.W.fnOf "_law_great" "_law_great" (defArgs (topS 59)) (defBody (topS 59)) (defScope (topS 59)) .none kV17 dc17 pm17 an17 cd17 ct17), sl17⟩) (c17 : PySem.W.codeIn K cd17 "_law_great" = true) (k17 : PySem.W.keepIn K (.ref f17) = true)
    (a18 : PySem.W.nsIn K mainGlobals "_law_divisor" = some (some (.ref f18))) (l18 : K.lookup f18 = some ⟨oc18, od18, .func (PySem.W.fnOf "_law_divisor" "_law_divisor" (defArgs (topS 60)) (defBody (topS 60)) (defScope (topS 60)) .none kV18 dc18 pm18 an18 cd18 ct18), sl18⟩) (c18 : PySem.W.codeIn K cd18 "_law_divisor" = true) (k18 : PySem.W.keepIn K (.ref f18) = true)
    (a19 : PySem.W.nsIn K mainGlobals "_law_lowest" = some (some (.ref f19))) (l19 : K.lookup f19 = some ⟨oc19, od19, .func (PySem.W.fnOf "_law_lowest" "_law_lowest" (defArgs (topS 61)) (defBody (topS 61)) (defScope (topS 61)) .none kV19 dc19 pm19 an19 cd19 ct19), sl19⟩) (c19 : PySem.W.codeIn K cd19 "_law_lowest" = true) (k19 : PySem.W.keepIn K (.ref f19) = true)
    (a20 : PySem.W.nsIn K mainGlobals "_law_size" = some (some (.ref f20))) (l20 : K.lookup f20 = some ⟨oc20, od20, .func (PySem.W.fnOf "_law_size" "_law_size" (defArgs (topS 62)) (defBody (topS 62)) (defScope (topS 62)) .none kV20 dc20 pm20 an20 cd20 ct20), sl20⟩) (c20 : PySem.W.codeIn K cd20 "_law_size" = true) (k20 : PySem.W.keepIn K (.ref f20) = true)
    (a21 : PySem.W.nsIn K mainGlobals "_law_plain_text" = some (some (.ref f21))) (l21 : K.lookup f21 = some ⟨oc21, od21, .func (PySem.W.fnOf "_law_plain_text" "_law_plain_text" (defArgs (topS 63)) (defBody (topS 63)) (defScope (topS 63)) .none kV21 dc21 pm21 an21 cd21 ct21), sl21⟩) (c21 : PySem.W.codeIn K cd21 "_law_plain_text" = true) (k21 : PySem.W.keepIn K (.ref f21) = true)
    (a22 : PySem.W.nsIn K mainGlobals "_law_refused" = some (some (.ref f22))) (l22 : K.lookup f22 = some ⟨oc22, od22, .func (PySem.W.fnOf "_law_refused" "_law_refused" (defArgs (topS 64)) (defBody (topS 64)) (defScope (topS 64)) .none kV22 dc22 pm22 an22 cd22 ct22), sl22⟩) (c22 : PySem.W.codeIn K cd22 "_law_refused" = true) (k22 : PySem.W.keepIn K (.ref f22) = true)
    (a23 : PySem.W.nsIn K mainGlobals "_law_no_number" = some (some (.ref f23))) (l23 : K.lookup f23 = some ⟨oc23, od23, .func (PySem.W.fnOf "_law_no_number" "_law_no_number" (defArgs (topS 65)) (defBody (topS 65)) (defScope (topS 65)) .none kV23 dc23 pm23 an23 cd23 ct23), sl23⟩) (c23 : PySem.W.codeIn K cd23 "_law_no_number" = true) (k23 : PySem.W.keepIn K (.ref f23) = true)
    (a24 : PySem.W.nsIn K mainGlobals "_law_number_right" = some (some (.ref f24))) (l24 : K.lookup f24 = some ⟨oc24, od24, .func (PySem.W.fnOf "_law_number_right" "_law_number_right" (defArgs (topS 66)) (defBody (topS 66)) (defScope (topS 66)) .none kV24 dc24 pm24 an24 cd24 ct24), sl24⟩) (c24 : PySem.W.codeIn K cd24 "_law_number_right" = true) (k24 : PySem.W.keepIn K (.ref f24) = true)
    (a25 : PySem.W.nsIn K mainGlobals "_law_text_right" = some (some (.ref f25))) (l25 : K.lookup f25 = some ⟨oc25, od25, .func (PySem.W.fnOf "_law_text_right" "_law_text_right" (defArgs (topS 67)) (defBody (topS 67)) (defScope (topS 67)) .none kV25 dc25 pm25 an25 cd25 ct25), sl25⟩) (c25 : PySem.W.codeIn K cd25 "_law_text_right" = true) (k25 : PySem.W.keepIn K (.ref f25) = true)
    (a26 : PySem.W.nsIn K mainGlobals "_law_name_right" = some (some (.ref f26))) (l26 : K.lookup f26 = some ⟨oc26, od26, .func (PySem.W.fnOf "_law_name_right" "_law_name_right" (defArgs (topS 68)) (defBody (topS 68)) (defScope (topS 68)) .none kV26 dc26 pm26 an26 cd26 ct26), sl26⟩) (c26 : PySem.W.codeIn K cd26 "_law_name_right" = true) (k26 : PySem.W.keepIn K (.ref f26) = true)
    (a27 : PySem.W.nsIn K mainGlobals "law" = some (some (.ref f27))) (l27 : K.lookup f27 = some ⟨oc27, od27, .func (PySem.W.fnOf "law" "law" (defArgs (topS 69)) (defBody (topS 69)) (defScope (topS 69)) .none kV27 dc27 pm27 an27 cd27 ct27), sl27⟩) (c27 : PySem.W.codeIn K cd27 "law" = true) (k27 : PySem.W.keepIn K (.ref f27) = true)
    (br_Form : PySem.W.readsIn K x_Form (.type "type") = true)
    (bg_Form : PySem.W.specialIn K (.ref x_Form) "__getattribute__" = some (some (.builtin "type.__getattribute__")))
    (bf_Form : PySem.W.findCls K (.ref x_Form) (.type "type") "__init__" = some (.val (.ref f0)))
    (eaNoRow : PySem.W.nsIn K mainGlobals "NoRow" = some (some (.ref xNoRow))) (exNoRow : PySem.W.excIn K xNoRow [.type "ValueError", .type "Exception", .type "BaseException", .type "object"] "ValueError.__new__" = true) (ekNoRow : PySem.W.keepIn K (.ref xNoRow) = true) (ebNoRow : PySem.W.subIn K (.ref xNoRow) (.type "BaseException") = some true) (etNoRow : PySem.W.typeIn K (.ref xNoRow) = some (.type "type"))
    (eaPadError : PySem.W.nsIn K mainGlobals "PadError" = some (some (.ref xPadError)))
    (eaNoValue : PySem.W.nsIn K mainGlobals "NoValue" = some (some (.ref xNoValue)))
    (eaNoText : PySem.W.nsIn K mainGlobals "NoText" = some (some (.ref xNoText)))
    (eaNoNumber : PySem.W.nsIn K mainGlobals "NoNumber" = some (some (.ref xNoNumber)))
    (eaNoForm : PySem.W.nsIn K mainGlobals "NoForm" = some (some (.ref xNoForm)))
    (hdPadError : PySem.W.hasDictIn K xPadError = true)
    (tyPadError : PySem.W.typeIn K (.ref xPadError) = some (.type "type"))
    (sbPadError : PySem.W.subIn K (.ref xPadError) (.type "BaseException") = some true)
    (suNoRow_PadError : PySem.W.subIn K (.ref xNoRow) (.ref xPadError) = some true)
    (suNoRow_NoRow : PySem.W.subIn K (.ref xNoRow) (.ref xNoRow) = some true)
    (Aqc_NoRow : ExcC K xNoRow)
    (hdNoValue : PySem.W.hasDictIn K xNoValue = true)
    (tyNoValue : PySem.W.typeIn K (.ref xNoValue) = some (.type "type"))
    (sbNoValue : PySem.W.subIn K (.ref xNoValue) (.type "BaseException") = some true)
    (suNoRow_NoValue : PySem.W.subIn K (.ref xNoRow) (.ref xNoValue) = some false)
    (hdNoText : PySem.W.hasDictIn K xNoText = true)
    (tyNoText : PySem.W.typeIn K (.ref xNoText) = some (.type "type"))
    (sbNoText : PySem.W.subIn K (.ref xNoText) (.type "BaseException") = some true)
    (suNoRow_NoText : PySem.W.subIn K (.ref xNoRow) (.ref xNoText) = some false)
    (hdNoNumber : PySem.W.hasDictIn K xNoNumber = true)
    (tyNoNumber : PySem.W.typeIn K (.ref xNoNumber) = some (.type "type"))
    (sbNoNumber : PySem.W.subIn K (.ref xNoNumber) (.type "BaseException") = some true)
    (suNoRow_NoNumber : PySem.W.subIn K (.ref xNoRow) (.ref xNoNumber) = some false)
    (hdNoForm : PySem.W.hasDictIn K xNoForm = true)
    (tyNoForm : PySem.W.typeIn K (.ref xNoForm) = some (.type "type"))
    (sbNoForm : PySem.W.subIn K (.ref xNoForm) (.type "BaseException") = some true)
    (suNoRow_NoForm : PySem.W.subIn K (.ref xNoRow) (.ref xNoForm) = some false)
    (hdNoRow : PySem.W.hasDictIn K xNoRow = true)
    (tyNoRow : PySem.W.typeIn K (.ref xNoRow) = some (.type "type"))
    (sbNoRow : PySem.W.subIn K (.ref xNoRow) (.type "BaseException") = some true)
    (stNoRow_ValueError : PySem.W.subIn K (.ref xNoRow) (.type "ValueError") = some true)
    (n_list : PySem.W.nsIn K mainGlobals "list" = some none)
    (n_isinstance : PySem.W.nsIn K mainGlobals "isinstance" = some none)
    (n_int : PySem.W.nsIn K mainGlobals "int" = some none)
    (n_bool : PySem.W.nsIn K mainGlobals "bool" = some none)
    (n_abs : PySem.W.nsIn K mainGlobals "abs" = some none)
    (n_tuple : PySem.W.nsIn K mainGlobals "tuple" = some none)
    (n_len : PySem.W.nsIn K mainGlobals "len" = some none)
    (n_str : PySem.W.nsIn K mainGlobals "str" = some none)
    (n_range : PySem.W.nsIn K mainGlobals "range" = some none)
    (n_ValueError : PySem.W.nsIn K mainGlobals "ValueError" = some none)
    (n_min : PySem.W.nsIn K mainGlobals "min" = some none)
    (n_max : PySem.W.nsIn K mainGlobals "max" = some none)
    (m_MOST_FIGURES : PySem.W.nsIn K mainGlobals "MOST_FIGURES" = some (some (.int 60 t_MOST_FIGURES)))
    (m_FIGURES_deskwords : PySem.W.nsIn K mainGlobals "FIGURES_deskwords" = some (some (.str "0123456789" t_FIGURES_deskwords)))
    (m_MOST_EDGE : PySem.W.nsIn K mainGlobals "MOST_EDGE" = some (some (.int 8 t_MOST_EDGE))) :
    ∃ fd : FuncData, (∀ (s : Shared) (v : Value), BindsTo s fd ⟨[v], []⟩ [("_law_script", v)]) ∧ ∀ base : Heap, K.In base → base.Ns mainGlobals mg → FnOk l.prog w K mg base (L2.CX l.prog w) 7 fa fd ["_law_script"] (spLaw K) := by
  have e := hfa.symm.trans (PySem.W.mg_of X G a27)
  cases e
  have F0 := fund_mk (st := (clsS 26 0)) l0 c0 k0
  have b0 : Binds K (PySem.W.fnOf "__init__" "Form.__init__" (defArgs (clsS 26 0)) (defBody (clsS 26 0)) (defScope (clsS 26 0)) .none kV0 dc0 pm0 an0 cd0 ct0) ["self", "width", "fill", "side", "strict"] [] := .all fun us hl => match us, hl with | [_, _, _, _, _], _ => rfl
  have F1 := fund_mk (st := (clsS 39 0)) l1 c1 k1
  have b1 : Binds K (PySem.W.fnOf "__init__" "NumberForm.__init__" (defArgs (clsS 39 0)) (defBody (clsS 39 0)) (defScope (clsS 39 0)) (.ref T1) kV1 dc1 pm1 an1 cd1 ct1) ["self", "figures", "places", "base", "sign", "size", "mark", "point", "way", "width", "fill", "side", "strict"] [] := binds_all lT1 fun us hl => match us, hl with | [_, _, _, _, _, _, _, _, _, _, _, _, _], _ => ⟨_, rfl, rfl⟩
  have F2 := fund_mk (st := (clsS 42 0)) l2 c2 k2
  have b2 : Binds K (PySem.W.fnOf "__init__" "WordForm.__init__" (defArgs (clsS 42 0)) (defBody (clsS 42 0)) (defScope (clsS 42 0)) (.ref T2) kV2 dc2 pm2 an2 cd2 ct2) ["self", "signs", "least", "most", "width", "fill", "side", "strict"] [] := binds_all lT2 fun us hl => match us, hl with | [_, _, _, _, _, _, _, _], _ => ⟨_, rfl, rfl⟩
  have F3 := fund_mk (st := (clsS 43 0)) l3 c3 k3
  have b3 : Binds K (PySem.W.fnOf "__init__" "ChoiceForm.__init__" (defArgs (clsS 43 0)) (defBody (clsS 43 0)) (defScope (clsS 43 0)) (.ref T3) kV3 dc3 pm3 an3 cd3 ct3) ["self", "names", "width", "fill", "side", "strict"] [] := binds_all lT3 fun us hl => match us, hl with | [_, _, _, _, _, _], _ => ⟨_, rfl, rfl⟩
  have F4 := fun_mk (st := (topS 17)) l4 c4 k4
  have b4 := F4.binds (ps := ["thing"]) fun _ _ _ _ _ _ us hl => match us, hl with | [_], _ => rfl
  have F5 := fun_mk (st := (topS 30)) l5 c5 k5
  have b5 := F5.binds (ps := ["one", "other"]) fun _ _ _ _ _ _ us hl => match us, hl with | [_, _], _ => rfl
  have F6 := fun_mk (st := (topS 31)) l6 c6 k6
  have b6 := F6.binds (ps := ["thing"]) fun _ _ _ _ _ _ us hl => match us, hl with | [_], _ => rfl
  have F7 := fun_mk (st := (topS 48)) l7 c7 k7
  have b7 := F7.binds (ps := ["word"]) fun _ _ _ _ _ _ us hl => match us, hl with | [_], _ => rfl
  have F8 := fun_mk (st := (topS 49)) l8 c8 k8
  have b8 := F8.binds (ps := ["word"]) fun _ _ _ _ _ _ us hl => match us, hl with | [_], _ => rfl
  have F9 := fun_mk (st := (topS 50)) l9 c9 k9
  have b9 := F9.binds (ps := ["word"]) fun _ _ _ _ _ _ us hl => match us, hl with | [_], _ => rfl
  have F10 := fun_mk (st := (topS 51)) l10 c10 k10
  have b10 := F10.binds (ps := ["form", "word"]) fun _ _ _ _ _ _ us hl => match us, hl with | [_, _], _ => rfl
  have F11 := fun_mk (st := (topS 52)) l11 c11 k11
  have b11 := F11.binds (ps := ["form", "value"]) fun _ _ _ _ _ _ us hl => match us, hl with | [_, _], _ => rfl
  have F12 := fun_mk (st := (topS 53)) l12 c12 k12
  have b12 := F12.binds (ps := ["word"]) fun _ _ _ _ _ _ us hl => match us, hl with | [_], _ => rfl
  have F13 := fun_mk (st := (topS 54)) l13 c13 k13
  have b13 := F13.binds (ps := ["text"]) fun _ _ _ _ _ _ us hl => match us, hl with | [_], _ => rfl
  have F14 := fun_mk (st := (topS 56)) l14 c14 k14
  have b14 := F14.binds (ps := ["_law_script", "_law_k"]) fun _ _ _ _ _ _ us hl => match us, hl with | [_, _], _ => rfl
  have F15 := fun_mk (st := (topS 57)) l15 c15 k15
  have b15 := F15.binds (ps := ["_law_thing"]) fun _ _ _ _ _ _ us hl => match us, hl with | [_], _ => rfl
  have F16 := fun_mk (st := (topS 58)) l16 c16 k16
  have b16 := F16.binds (ps := ["_law_cell", "_law_salt", "_law_many"]) fun _ _ _ _ _ _ us hl => match us, hl with | [_, _, _], _ => rfl
  have F17 := fun_mk (st := (topS 59)) l17 c17 k17
  have b17 := F17.binds (ps := ["_law_cell", "_law_at", "_law_limit"]) fun _ _ _ _ _ _ us hl => match us, hl with | [_, _, _], _ => rfl
  have F18 := fun_mk (st := (topS 60)) l18 c18 k18
  have b18 := F18.binds (ps := ["_law_one", "_law_other"]) fun _ _ _ _ _ _ us hl => match us, hl with | [_, _], _ => rfl
  have F19 := fun_mk (st := (topS 61)) l19 c19 k19
  have b19 := F19.binds (ps := ["_law_top", "_law_bottom"]) fun _ _ _ _ _ _ us hl => match us, hl with | [_, _], _ => rfl
  have F20 := fun_mk (st := (topS 62)) l20 c20 k20
  have b20 := F20.binds (ps := ["_law_cell", "_law_salt", "_law_at"]) fun _ _ _ _ _ _ us hl => match us, hl with | [_, _, _], _ => rfl
  have F21 := fun_mk (st := (topS 63)) l21 c21 k21
  have b21 := F21.binds (ps := ["_law_cell", "_law_salt", "_law_most"]) fun _ _ _ _ _ _ us hl => match us, hl with | [_, _, _], _ => rfl
  have F22 := fun_mk (st := (topS 64)) l22 c22 k22
  have b22 := F22.binds (ps := ["_law_asked"]) fun _ _ _ _ _ _ us hl => match us, hl with | [_], _ => rfl
  have F23 := fun_mk (st := (topS 65)) l23 c23 k23
  have b23 := F23.binds (ps := ["_law_cell"]) fun _ _ _ _ _ _ us hl => match us, hl with | [_], _ => rfl
  have F24 := fun_mk (st := (topS 66)) l24 c24 k24
  have b24 := F24.binds (ps := ["_law_cell", "_law_other"]) fun _ _ _ _ _ _ us hl => match us, hl with | [_, _], _ => rfl
  have F25 := fun_mk (st := (topS 67)) l25 c25 k25
  have b25 := F25.binds (ps := ["_law_cell", "_law_other"]) fun _ _ _ _ _ _ us hl => match us, hl with | [_, _], _ => rfl
  have F26 := fun_mk (st := (topS 68)) l26 c26 k26
  have b26 := F26.binds (ps := ["_law_cell"]) fun _ _ _ _ _ _ us hl => match us, hl with | [_], _ => rfl
  have F27 := fun_mk (st := (topS 69)) l27 c27 k27
  have b27 := F27.binds (ps := ["_law_script"]) fun _ _ _ _ _ _ us hl => match us, hl with | [_], _ => rfl
  refine ⟨PySem.W.fnOf "law" "law" (defArgs (topS 69)) (defBody (topS 69)) (defScope (topS 69)) .none kV27 dc27 pm27 an27 cd27 ct27, fun s v => .of_eq rfl, fun base _ _ => ?_⟩
  have z_list := PySem.W.mg_none_of X G n_list
  have z_isinstance := PySem.W.mg_none_of X G n_isinstance
  have z_int := PySem.W.mg_none_of X G n_int
  have z_bool := PySem.W.mg_none_of X G n_bool
  have z_abs := PySem.W.mg_none_of X G n_abs
  have z_tuple := PySem.W.mg_none_of X G n_tuple
  have z_len := PySem.W.mg_none_of X G n_len
  have z_str := PySem.W.mg_none_of X G n_str
  have z_range := PySem.W.mg_none_of X G n_range
  have z_ValueError := PySem.W.mg_none_of X G n_ValueError
  have z_min := PySem.W.mg_none_of X G n_min
  have z_max := PySem.W.mg_none_of X G n_max
  have g_MOST_FIGURES : GInt mg "MOST_FIGURES" 60 := ⟨_, PySem.W.mg_of X G m_MOST_FIGURES⟩
  have g_FIGURES_deskwords : GStr mg "FIGURES_deskwords" [48, 49, 50, 51, 52, 53, 54, 55, 56, 57] := gstr_mk (PySem.W.mg_of X G m_FIGURES_deskwords) (by decide +kernel)
  have g_MOST_EDGE : GInt mg "MOST_EDGE" 8 := ⟨_, PySem.W.mg_of X G m_MOST_EDGE⟩
  have x_NoRow : ExcOk K mg "NoRow" := ⟨_, PySem.W.mg_of X G eaNoRow, exNoRow, ekNoRow, ebNoRow, etNoRow⟩
  have hc_NoRow_PadError : PySem.W.exmOne K (clsV mg "NoRow") (clsV mg "PadError") = some true := by simp only [clsV_of (PySem.W.mg_of X G eaNoRow), clsV_of (PySem.W.mg_of X G eaPadError)]; exact PySem.W.exm_ref sbPadError hdPadError tyPadError suNoRow_PadError
  have qc_NoRow : ExD K mg "NoRow" := ⟨_, PySem.W.mg_of X G eaNoRow, Aqc_NoRow⟩
  have nc_NoValue : ClsN mg "NoValue" := ⟨_, PySem.W.mg_of X G eaNoValue⟩
  have kc_NoRow_NoValue : PySem.W.kitOne K (clsV mg "NoRow") (clsV mg "NoValue") = some false := by simp only [clsV_of (PySem.W.mg_of X G eaNoRow), clsV_of (PySem.W.mg_of X G eaNoValue)]; exact kit_of hdNoValue tyNoValue suNoRow_NoValue suNoRow_NoRow
  have nc_NoText : ClsN mg "NoText" := ⟨_, PySem.W.mg_of X G eaNoText⟩
  have kc_NoRow_NoText : PySem.W.kitOne K (clsV mg "NoRow") (clsV mg "NoText") = some false := by simp only [clsV_of (PySem.W.mg_of X G eaNoRow), clsV_of (PySem.W.mg_of X G eaNoText)]; exact kit_of hdNoText tyNoText suNoRow_NoText suNoRow_NoRow
  have nc_NoNumber : ClsN mg "NoNumber" := ⟨_, PySem.W.mg_of X G eaNoNumber⟩
  have kc_NoRow_NoNumber : PySem.W.kitOne K (clsV mg "NoRow") (clsV mg "NoNumber") = some false := by simp only [clsV_of (PySem.W.mg_of X G eaNoRow), clsV_of (PySem.W.mg_of X G eaNoNumber)]; exact kit_of hdNoNumber tyNoNumber suNoRow_NoNumber suNoRow_NoRow
  have nc_NoForm : ClsN mg "NoForm" := ⟨_, PySem.W.mg_of X G eaNoForm⟩
  have kc_NoRow_NoForm : PySem.W.kitOne K (clsV mg "NoRow") (clsV mg "NoForm") = some false := by simp only [clsV_of (PySem.W.mg_of X G eaNoRow), clsV_of (PySem.W.mg_of X G eaNoForm)]; exact kit_of hdNoForm tyNoForm suNoRow_NoForm suNoRow_NoRow
  have nc_NoRow : ClsN mg "NoRow" := ⟨_, PySem.W.mg_of X G eaNoRow⟩
  have kc_NoRow_NoRow : PySem.W.kitOne K (clsV mg "NoRow") (clsV mg "NoRow") = some true := by simp only [clsV_of (PySem.W.mg_of X G eaNoRow), clsV_of (PySem.W.mg_of X G eaNoRow)]; exact kit_of hdNoRow tyNoRow suNoRow_NoRow suNoRow_NoRow
  have kbc_NoRow_ValueError : PySem.W.kitOne K (clsV mg "NoRow") (.type "ValueError") = some true := by simp only [clsV_of (PySem.W.mg_of X G eaNoRow)]; exact kit_ty_of (by decide +kernel) stNoRow_ValueError
  have nc_PadError : ClsN mg "PadError" := ⟨_, PySem.W.mg_of X G eaPadError⟩
  have mg_Form := PySem.W.mg_of X G ec_Form
  have mg_NumberForm := PySem.W.mg_of X G ec_NumberForm
  have cl_NumberForm : Cls K x_NumberForm := ⟨cp_NumberForm, ch_NumberForm, co_NumberForm, cs_NumberForm⟩
  have mg_WordForm := PySem.W.mg_of X G ec_WordForm
  have cl_WordForm : Cls K x_WordForm := ⟨cp_WordForm, ch_WordForm, co_WordForm, cs_WordForm⟩
  have mg_ChoiceForm := PySem.W.mg_of X G ec_ChoiceForm
  have cl_ChoiceForm : Cls K x_ChoiceForm := ⟨cp_ChoiceForm, ch_ChoiceForm, co_ChoiceForm, cs_ChoiceForm⟩
  have ji_NumberForm : ClsI K mg "NumberForm" := ⟨_, mg_NumberForm, cl_NumberForm, jc_NumberForm, jg, jt, jm_NumberForm⟩
  have ji_WordForm : ClsI K mg "WordForm" := ⟨_, mg_WordForm, cl_WordForm, jc_WordForm, jg, jt, jm_WordForm⟩
  have ji_ChoiceForm : ClsI K mg "ChoiceForm" := ⟨_, mg_ChoiceForm, cl_ChoiceForm, jc_ChoiceForm, jg, jt, jm_ChoiceForm⟩
  have isc_NumberForm : IsO K mg "NumberForm" ["NumberForm", "WordForm", "ChoiceForm"] ["NumberForm"] := ⟨⟨_, mg_NumberForm⟩, by
      intro C hC
      simp only [List.mem_cons, List.not_mem_nil, or_false] at hC
      rcases hC with rfl | rfl | rfl
      · exact ⟨ji_NumberForm, by simp only [clsV_of mg_NumberForm, clsV_of mg_NumberForm]; exact kit_of jh_NumberForm jy_NumberForm js_NumberForm_NumberForm js_NumberForm_NumberForm⟩
      · exact ⟨ji_WordForm, by simp only [clsV_of mg_WordForm, clsV_of mg_NumberForm]; exact kit_of jh_NumberForm jy_NumberForm js_WordForm_NumberForm js_WordForm_WordForm⟩
      · exact ⟨ji_ChoiceForm, by simp only [clsV_of mg_ChoiceForm, clsV_of mg_NumberForm]; exact kit_of jh_NumberForm jy_NumberForm js_ChoiceForm_NumberForm js_ChoiceForm_ChoiceForm⟩
    ⟩
  have isc_WordForm : IsO K mg "WordForm" ["NumberForm", "WordForm", "ChoiceForm"] ["WordForm"] := ⟨⟨_, mg_WordForm⟩, by
      intro C hC
      simp only [List.mem_cons, List.not_mem_nil, or_false] at hC
      rcases hC with rfl | rfl | rfl
      · exact ⟨ji_NumberForm, by simp only [clsV_of mg_NumberForm, clsV_of mg_WordForm]; exact kit_of jh_WordForm jy_WordForm js_NumberForm_WordForm js_NumberForm_NumberForm⟩
      · exact ⟨ji_WordForm, by simp only [clsV_of mg_WordForm, clsV_of mg_WordForm]; exact kit_of jh_WordForm jy_WordForm js_WordForm_WordForm js_WordForm_WordForm⟩
      · exact ⟨ji_ChoiceForm, by simp only [clsV_of mg_ChoiceForm, clsV_of mg_WordForm]; exact kit_of jh_WordForm jy_WordForm js_ChoiceForm_WordForm js_ChoiceForm_ChoiceForm⟩
    ⟩
  have fa_ChoiceForm_fill : ClsA K mg "fill" "ChoiceForm" := ⟨_, mg_ChoiceForm, cl_ChoiceForm, na_ChoiceForm_fill⟩
  have fa_ChoiceForm_names : ClsA K mg "names" "ChoiceForm" := ⟨_, mg_ChoiceForm, cl_ChoiceForm, na_ChoiceForm_names⟩
  have fa_ChoiceForm_side : ClsA K mg "side" "ChoiceForm" := ⟨_, mg_ChoiceForm, cl_ChoiceForm, na_ChoiceForm_side⟩
  have fa_ChoiceForm_strict : ClsA K mg "strict" "ChoiceForm" := ⟨_, mg_ChoiceForm, cl_ChoiceForm, na_ChoiceForm_strict⟩
  have fa_ChoiceForm_width : ClsA K mg "width" "ChoiceForm" := ⟨_, mg_ChoiceForm, cl_ChoiceForm, na_ChoiceForm_width⟩
  have fa_NumberForm_base : ClsA K mg "base" "NumberForm" := ⟨_, mg_NumberForm, cl_NumberForm, na_NumberForm_base⟩
  have fa_NumberForm_figures : ClsA K mg "figures" "NumberForm" := ⟨_, mg_NumberForm, cl_NumberForm, na_NumberForm_figures⟩
  have fa_NumberForm_fill : ClsA K mg "fill" "NumberForm" := ⟨_, mg_NumberForm, cl_NumberForm, na_NumberForm_fill⟩
  have fa_NumberForm_mark : ClsA K mg "mark" "NumberForm" := ⟨_, mg_NumberForm, cl_NumberForm, na_NumberForm_mark⟩
  have fa_NumberForm_places : ClsA K mg "places" "NumberForm" := ⟨_, mg_NumberForm, cl_NumberForm, na_NumberForm_places⟩
  have fa_NumberForm_point : ClsA K mg "point" "NumberForm" := ⟨_, mg_NumberForm, cl_NumberForm, na_NumberForm_point⟩
  have fa_NumberForm_side : ClsA K mg "side" "NumberForm" := ⟨_, mg_NumberForm, cl_NumberForm, na_NumberForm_side⟩
  have fa_NumberForm_sign : ClsA K mg "sign" "NumberForm" := ⟨_, mg_NumberForm, cl_NumberForm, na_NumberForm_sign⟩
  have fa_NumberForm_size : ClsA K mg "size" "NumberForm" := ⟨_, mg_NumberForm, cl_NumberForm, na_NumberForm_size⟩
  have fa_NumberForm_strict : ClsA K mg "strict" "NumberForm" := ⟨_, mg_NumberForm, cl_NumberForm, na_NumberForm_strict⟩
  have fa_NumberForm_way : ClsA K mg "way" "NumberForm" := ⟨_, mg_NumberForm, cl_NumberForm, na_NumberForm_way⟩
  have fa_NumberForm_width : ClsA K mg "width" "NumberForm" := ⟨_, mg_NumberForm, cl_NumberForm, na_NumberForm_width⟩
  have fa_WordForm_fill : ClsA K mg "fill" "WordForm" := ⟨_, mg_WordForm, cl_WordForm, na_WordForm_fill⟩
  have fa_WordForm_least : ClsA K mg "least" "WordForm" := ⟨_, mg_WordForm, cl_WordForm, na_WordForm_least⟩
  have fa_WordForm_most : ClsA K mg "most" "WordForm" := ⟨_, mg_WordForm, cl_WordForm, na_WordForm_most⟩
  have fa_WordForm_side : ClsA K mg "side" "WordForm" := ⟨_, mg_WordForm, cl_WordForm, na_WordForm_side⟩
  have fa_WordForm_signs : ClsA K mg "signs" "WordForm" := ⟨_, mg_WordForm, cl_WordForm, na_WordForm_signs⟩
  have fa_WordForm_strict : ClsA K mg "strict" "WordForm" := ⟨_, mg_WordForm, cl_WordForm, na_WordForm_strict⟩
  have fa_WordForm_width : ClsA K mg "width" "WordForm" := ⟨_, mg_WordForm, cl_WordForm, na_WordForm_width⟩
  have ib_Form_ChoiceForm : ∀ mo, BaseOk l.prog w K mg base mo "Form" "ChoiceForm" 1 4 M.Form_init := fun mo => ⟨_, _, .type "type", _, ["self", "width", "fill", "side", "strict"], mg_Form, br_Form, bg_Form, bf_Form, k0, b0, ok_Form_init (P := l.prog) (w := w) (base := base) F0 (Cx := "ChoiceForm") fa_ChoiceForm_strict fa_ChoiceForm_side fa_ChoiceForm_fill fa_ChoiceForm_width mo⟩
  have ib_Form_NumberForm : ∀ mo, BaseOk l.prog w K mg base mo "Form" "NumberForm" 1 4 M.Form_init := fun mo => ⟨_, _, .type "type", _, ["self", "width", "fill", "side", "strict"], mg_Form, br_Form, bg_Form, bf_Form, k0, b0, ok_Form_init (P := l.prog) (w := w) (base := base) F0 (Cx := "NumberForm") fa_NumberForm_strict fa_NumberForm_side fa_NumberForm_fill fa_NumberForm_width mo⟩
  have ib_Form_WordForm : ∀ mo, BaseOk l.prog w K mg base mo "Form" "WordForm" 1 4 M.Form_init := fun mo => ⟨_, _, .type "type", _, ["self", "width", "fill", "side", "strict"], mg_Form, br_Form, bg_Form, bf_Form, k0, b0, ok_Form_init (P := l.prog) (w := w) (base := base) F0 (Cx := "WordForm") fa_WordForm_strict fa_WordForm_side fa_WordForm_fill fa_WordForm_width mo⟩
  have d_is_whole := ok_is_whole (P := l.prog) (w := w) (base := base) F4 (PySem.W.mg_of X G a4) b4 z_isinstance z_int z_bool
  have d_divisor_of := ok_divisor_of (P := l.prog) (w := w) (base := base) F5 (PySem.W.mg_of X G a5) b5 z_abs
  have d_read_figures := ok_read_figures (P := l.prog) (w := w) (base := base) F7 (PySem.W.mg_of X G a7) b7 z_len z_int g_MOST_FIGURES g_FIGURES_deskwords x_NoRow
  have d_read_signs := ok_read_signs (P := l.prog) (w := w) (base := base) F9 (PySem.W.mg_of X G a9) b9 x_NoRow
  have d_show_edge := ok_show_edge (P := l.prog) (w := w) (base := base) F13 (PySem.W.mg_of X G a13) b13
  have d__law_cell_at := ok__law_cell_at (P := l.prog) (w := w) (base := base) F14 (PySem.W.mg_of X G a14) b14 z_len
  have d__law_whole := ok__law_whole (P := l.prog) (w := w) (base := base) F15 (PySem.W.mg_of X G a15) b15 z_isinstance z_int z_bool
  have d__law_pick := ok__law_pick (P := l.prog) (w := w) (base := base) F16 (PySem.W.mg_of X G a16) b16
  have d__law_great := ok__law_great (P := l.prog) (w := w) (base := base) F17 (PySem.W.mg_of X G a17) b17
  have d__law_divisor := ok__law_divisor (P := l.prog) (w := w) (base := base) F18 (PySem.W.mg_of X G a18) b18 z_abs
  have bD1_2 : Binds K (PySem.W.fnOf "__init__" "NumberForm.__init__" (defArgs (clsS 39 0)) (defBody (clsS 39 0)) (defScope (clsS 39 0)) (.ref T1) kV1 dc1 pm1 an1 cd1 ct1) ["self", "figures", "places", "base", "sign", "size", "mark", "point", "way", "width", "fill", "side", "strict"] [.int 10 v1_0, .str ("minus" : Str) v1_1, .int 0 v1_2, .str ("," : Str) v1_3, .str ("." : Str) v1_4, .str ("near" : Str) v1_5, .int 0 v1_6, .str (" " : Str) v1_7, .str ("right" : Str) v1_8, .bool false] := binds_dfl (its := [.int 10 v1_0, .str ("minus" : Str) v1_1, .int 0 v1_2, .str ("," : Str) v1_3, .str ("." : Str) v1_4, .str ("near" : Str) v1_5, .int 0 v1_6, .str (" " : Str) v1_7, .str ("right" : Str) v1_8, .bool false]) lT1 3 0 rfl fun us hl => match us, hl with | [_, _, _], _ => ⟨_, rfl, rfl⟩
  have mkD_NumberForm_2 : ∀ mo, MakeOkD l.prog w K mg base mo "NumberForm" 2 2 M.NumberForm_init [.int 10, .str [109, 105, 110, 117, 115], .int 0, .str [44], .str [46], .str [110, 101, 97, 114], .int 0, .str [32], .str [114, 105, 103, 104, 116], .bl false] := fun mo => makeD mg_NumberForm ⟨mm_NumberForm, a1, i1, mq_NumberForm⟩ bD1_2 (dv_int (dv_str (s := [109, 105, 110, 117, 115]) (by decide +kernel) (dv_int (dv_str (s := [44]) (by decide +kernel) (dv_str (s := [46]) (by decide +kernel) (dv_str (s := [110, 101, 97, 114]) (by decide +kernel) (dv_int (dv_str (s := [32]) (by decide +kernel) (dv_str (s := [114, 105, 103, 104, 116]) (by decide +kernel) (dv_bl dv_nil)))))))))) (ok_NumberForm_init (P := l.prog) (w := w) (base := base) F1 (Cx := "NumberForm") fa_NumberForm_way fa_NumberForm_point fa_NumberForm_mark fa_NumberForm_size fa_NumberForm_sign fa_NumberForm_base fa_NumberForm_places fa_NumberForm_figures ib_Form_NumberForm mo)
  have mk_NumberForm : ∀ mo, MakeOk l.prog w K mg base mo "NumberForm" 2 12 M.NumberForm_init := fun mo => ⟨_, _, _, ["self", "figures", "places", "base", "sign", "size", "mark", "point", "way", "width", "fill", "side", "strict"], mg_NumberForm, ⟨mm_NumberForm, a1, i1, mq_NumberForm⟩, b1, ok_NumberForm_init (P := l.prog) (w := w) (base := base) F1 (Cx := "NumberForm") fa_NumberForm_way fa_NumberForm_point fa_NumberForm_mark fa_NumberForm_size fa_NumberForm_sign fa_NumberForm_base fa_NumberForm_places fa_NumberForm_figures ib_Form_NumberForm mo⟩
  have bD2_3 : Binds K (PySem.W.fnOf "__init__" "WordForm.__init__" (defArgs (clsS 42 0)) (defBody (clsS 42 0)) (defScope (clsS 42 0)) (.ref T2) kV2 dc2 pm2 an2 cd2 ct2) ["self", "signs", "least", "most", "width", "fill", "side", "strict"] [.int 0 v2_0, .str (" " : Str) v2_1, .str ("left" : Str) v2_2, .bool false] := binds_dfl (its := [.int 0 v2_0, .str (" " : Str) v2_1, .str ("left" : Str) v2_2, .bool false]) lT2 4 0 rfl fun us hl => match us, hl with | [_, _, _, _], _ => ⟨_, rfl, rfl⟩
  have mkD_WordForm_3 : ∀ mo, MakeOkD l.prog w K mg base mo "WordForm" 2 3 M.WordForm_init [.int 0, .str [32], .str [108, 101, 102, 116], .bl false] := fun mo => makeD mg_WordForm ⟨mm_WordForm, a2, i2, mq_WordForm⟩ bD2_3 (dv_int (dv_str (s := [32]) (by decide +kernel) (dv_str (s := [108, 101, 102, 116]) (by decide +kernel) (dv_bl dv_nil)))) (ok_WordForm_init (P := l.prog) (w := w) (base := base) F2 (Cx := "WordForm") fa_WordForm_most fa_WordForm_least fa_WordForm_signs ib_Form_WordForm mo)
  have mk_WordForm : ∀ mo, MakeOk l.prog w K mg base mo "WordForm" 2 7 M.WordForm_init := fun mo => ⟨_, _, _, ["self", "signs", "least", "most", "width", "fill", "side", "strict"], mg_WordForm, ⟨mm_WordForm, a2, i2, mq_WordForm⟩, b2, ok_WordForm_init (P := l.prog) (w := w) (base := base) F2 (Cx := "WordForm") fa_WordForm_most fa_WordForm_least fa_WordForm_signs ib_Form_WordForm mo⟩
  have bD3_1 : Binds K (PySem.W.fnOf "__init__" "ChoiceForm.__init__" (defArgs (clsS 43 0)) (defBody (clsS 43 0)) (defScope (clsS 43 0)) (.ref T3) kV3 dc3 pm3 an3 cd3 ct3) ["self", "names", "width", "fill", "side", "strict"] [.int 0 v3_0, .str (" " : Str) v3_1, .str ("left" : Str) v3_2, .bool false] := binds_dfl (its := [.int 0 v3_0, .str (" " : Str) v3_1, .str ("left" : Str) v3_2, .bool false]) lT3 2 0 rfl fun us hl => match us, hl with | [_, _], _ => ⟨_, rfl, rfl⟩
  have mkD_ChoiceForm_1 : ∀ mo, MakeOkD l.prog w K mg base mo "ChoiceForm" 2 1 M.ChoiceForm_init [.int 0, .str [32], .str [108, 101, 102, 116], .bl false] := fun mo => makeD mg_ChoiceForm ⟨mm_ChoiceForm, a3, i3, mq_ChoiceForm⟩ bD3_1 (dv_int (dv_str (s := [32]) (by decide +kernel) (dv_str (s := [108, 101, 102, 116]) (by decide +kernel) (dv_bl dv_nil)))) (ok_ChoiceForm_init (P := l.prog) (w := w) (base := base) F3 (Cx := "ChoiceForm") z_list fa_ChoiceForm_names ib_Form_ChoiceForm mo)
  have mk_ChoiceForm : ∀ mo, MakeOk l.prog w K mg base mo "ChoiceForm" 2 5 M.ChoiceForm_init := fun mo => ⟨_, _, _, ["self", "names", "width", "fill", "side", "strict"], mg_ChoiceForm, ⟨mm_ChoiceForm, a3, i3, mq_ChoiceForm⟩, b3, ok_ChoiceForm_init (P := l.prog) (w := w) (base := base) F3 (Cx := "ChoiceForm") z_list fa_ChoiceForm_names ib_Form_ChoiceForm mo⟩
  have d_is_fraction := ok_is_fraction (P := l.prog) (w := w) (base := base) F6 (PySem.W.mg_of X G a6) b6 z_isinstance z_tuple z_len d_is_whole d_divisor_of
  have d_show_value := ok_show_value (P := l.prog) (w := w) (base := base) F11 (PySem.W.mg_of X G a11) b11 z_isinstance z_str d_show_edge isc_NumberForm isc_WordForm
  have d_read_edge := ok_read_edge (P := l.prog) (w := w) (base := base) F12 (PySem.W.mg_of X G a12) b12 z_len g_MOST_EDGE x_NoRow d_read_signs
  have d__law_lowest := ok__law_lowest (P := l.prog) (w := w) (base := base) F19 (PySem.W.mg_of X G a19) b19 d__law_divisor
  have d__law_size := ok__law_size (P := l.prog) (w := w) (base := base) F20 (PySem.W.mg_of X G a20) b20 d__law_pick d__law_great
  have d__law_plain_text := ok__law_plain_text (P := l.prog) (w := w) (base := base) F21 (PySem.W.mg_of X G a21) b21 z_range d__law_pick
  have d__law_no_number := ok__law_no_number (P := l.prog) (w := w) (base := base) F23 (PySem.W.mg_of X G a23) b23 z_len d__law_pick
  have d_read_fraction := ok_read_fraction (P := l.prog) (w := w) (base := base) F8 (PySem.W.mg_of X G a8) b8 x_NoRow d_read_figures d_is_fraction
  have d_read_value := ok_read_value (P := l.prog) (w := w) (base := base) F10 (PySem.W.mg_of X G a10) b10 z_isinstance x_NoRow d_read_fraction d_read_signs isc_NumberForm isc_WordForm
  have d__law_refused := ok__law_refused (P := l.prog) (w := w) (base := base) F22 (PySem.W.mg_of X G a22) b22 z_isinstance z_ValueError hc_NoRow_PadError qc_NoRow nc_NoValue kc_NoRow_NoValue nc_NoText kc_NoRow_NoText nc_NoNumber kc_NoRow_NoNumber nc_NoForm kc_NoRow_NoForm nc_NoRow kc_NoRow_NoRow kbc_NoRow_ValueError nc_PadError d_read_edge d_read_value
  have d__law_number_right := ok__law_number_right (P := l.prog) (w := w) (base := base) F24 (PySem.W.mg_of X G a24) b24 z_str z_isinstance z_tuple d__law_size d__law_lowest d__law_pick d_read_value d__law_whole d_show_value d__law_no_number d__law_refused mkD_NumberForm_2
  have d__law_text_right := ok__law_text_right (P := l.prog) (w := w) (base := base) F25 (PySem.W.mg_of X G a25) b25 d__law_plain_text d_show_edge d_read_edge d_show_value d_read_value d__law_pick d__law_refused mkD_WordForm_3
  have d__law_name_right := ok__law_name_right (P := l.prog) (w := w) (base := base) F26 (PySem.W.mg_of X G a26) b26 d__law_plain_text d_read_value d_show_value d__law_refused mkD_ChoiceForm_1
  exact law_fn (fnok_law F27 z_len z_min z_max z_range d__law_cell_at d__law_number_right d__law_text_right d__law_name_right) true_law
end Wk
open PySem PySem.W PyProof.Rows
set_option maxRecDepth 100000 in
set_option maxHeartbeats 0 in
theorem PySem.Challenge.cw_padwright_k91_values_and_edges_told_holds : PySem.Challenge.rw_padwright_k91_values_and_edges_told.Holds := by
  w_on; o_law; k_head; (case hw => w_witness2)
  k_fill
  refine L2.walk_of (l := PySem.Challenge.rw_padwright_k91_values_and_edges_told) (n := 63) (k := 7) (x := "_law_script") (CX := fun w => L2.CX (PySem.Challenge.rw_padwright_k91_values_and_edges_told).prog w) (sp := fun w => Dm.spLaw _) rfl (by decide) rfl ⟨rfl, by decide, by decide⟩ (fun w h Y => PySem.W.kIn_of Y) ?F (fun _ _ a ns hl _ hS => ⟨a, ns, rfl, hS, hl, fun _ => rfl⟩) (fun _ _ _ _ _ h => Dm.law_cx h)
  case F =>
    intro w mg fa h KX G hmg
    refine' Wk.all_mk KX G hmg Law.true_law ?ec_Form ?ec_NumberForm ?cp_NumberForm ?ch_NumberForm ?co_NumberForm ?cs_NumberForm ?ec_WordForm ?cp_WordForm ?ch_WordForm ?co_WordForm ?cs_WordForm ?ec_ChoiceForm ?cp_ChoiceForm ?ch_ChoiceForm ?co_ChoiceForm ?cs_ChoiceForm ?na_ChoiceForm_fill ?na_ChoiceForm_names ?na_ChoiceForm_side ?na_ChoiceForm_strict ?na_ChoiceForm_width ?na_NumberForm_base ?na_NumberForm_figures ?na_NumberForm_fill ?na_NumberForm_mark ?na_NumberForm_places ?na_NumberForm_point ?na_NumberForm_side ?na_NumberForm_sign ?na_NumberForm_size ?na_NumberForm_strict ?na_NumberForm_way ?na_NumberForm_width ?na_WordForm_fill ?na_WordForm_least ?na_WordForm_most ?na_WordForm_side ?na_WordForm_signs ?na_WordForm_strict ?na_WordForm_width ?mm_ChoiceForm ?mq_ChoiceForm ?mm_NumberForm ?mq_NumberForm ?mm_WordForm ?mq_WordForm ?jg ?jt ?jc_NumberForm ?jm_NumberForm ?js_NumberForm_NumberForm ?jc_WordForm ?jm_WordForm ?js_WordForm_WordForm ?jc_ChoiceForm ?jm_ChoiceForm ?js_ChoiceForm_ChoiceForm ?jh_NumberForm ?jy_NumberForm ?js_WordForm_NumberForm ?js_ChoiceForm_NumberForm ?jh_WordForm ?jy_WordForm ?js_NumberForm_WordForm ?js_ChoiceForm_WordForm ?a0 ?l0 ?c0 ?k0 ?i0 ?a1 ?l1 ?c1 ?k1 ?i1 ?lT1 ?a2 ?l2 ?c2 ?k2 ?i2 ?lT2 ?a3 ?l3 ?c3 ?k3 ?i3 ?lT3 ?a4 ?l4 ?c4 ?k4 ?a5 ?l5 ?c5 ?k5 ?a6 ?l6 ?c6 ?k6 ?a7 ?l7 ?c7 ?k7 ?a8 ?l8 ?c8 ?k8 ?a9 ?l9 ?c9 ?k9 ?a10 ?l10 ?c10 ?k10 ?a11 ?l11 ?c11 ?k11 ?a12 ?l12 ?c12 ?k12 ?a13 ?l13 ?c13 ?k13 ?a14 ?l14 ?c14 ?k14 ?a15 ?l15 ?c15 ?k15 ?a16 ?l16 ?c16 ?k16 ?a17 ?l17 ?c17 ?k17 ?a18 ?l18 ?c18 ?k18 ?a19 ?l19 ?c19 ?k19 ?a20 ?l20 ?c20 ?k20 ?a21 ?l21 ?c21 ?k21 ?a22 ?l22 ?c22 ?k22 ?a23 ?l23 ?c23 ?k23 ?a24 ?l24 ?c24 ?k24 ?a25 ?l25 ?c25 ?k25 ?a26 ?l26 ?c26 ?k26 ?a27 ?l27 ?c27 ?k27 ?br_Form ?bg_Form ?bf_Form ?eaNoRow ?exNoRow ?ekNoRow ?ebNoRow ?etNoRow ?eaPadError ?eaNoValue ?eaNoText ?eaNoNumber ?eaNoForm ?hdPadError ?tyPadError ?sbPadError ?suNoRow_PadError ?suNoRow_NoRow ?Aqc_NoRow ?hdNoValue ?tyNoValue ?sbNoValue ?suNoRow_NoValue ?hdNoText ?tyNoText ?sbNoText ?suNoRow_NoText ?hdNoNumber ?tyNoNumber ?sbNoNumber ?suNoRow_NoNumber ?hdNoForm ?tyNoForm ?sbNoForm ?suNoRow_NoForm ?hdNoRow ?tyNoRow ?sbNoRow ?stNoRow_ValueError ?n_list ?n_isinstance ?n_int ?n_bool ?n_abs ?n_tuple ?n_len ?n_str ?n_range ?n_ValueError ?n_min ?n_max ?m_MOST_FIGURES ?m_FIGURES_deskwords ?m_MOST_EDGE
    (case ec_Form => k_is)
    (case ec_NumberForm => k_is)
    (case cp_NumberForm => k_is)
    (case ch_NumberForm => k_is)
    (case co_NumberForm => k_is)
    (case cs_NumberForm => k_is)
    (case ec_WordForm => k_is)
    (case cp_WordForm => k_is)
    (case ch_WordForm => k_is)
    (case co_WordForm => k_is)
    (case cs_WordForm => k_is)
    (case ec_ChoiceForm => k_is)
    (case cp_ChoiceForm => k_is)
    (case ch_ChoiceForm => k_is)
    (case co_ChoiceForm => k_is)
    (case cs_ChoiceForm => k_is)
    (case na_ChoiceForm_fill => k_is)
    (case na_ChoiceForm_names => k_is)
    (case na_ChoiceForm_side => k_is)
    (case na_ChoiceForm_strict => k_is)
    (case na_ChoiceForm_width => k_is)
    (case na_NumberForm_base => k_is)
    (case na_NumberForm_figures => k_is)
    (case na_NumberForm_fill => k_is)
    (case na_NumberForm_mark => k_is)
    (case na_NumberForm_places => k_is)
    (case na_NumberForm_point => k_is)
    (case na_NumberForm_side => k_is)
    (case na_NumberForm_sign => k_is)
    (case na_NumberForm_size => k_is)
    (case na_NumberForm_strict => k_is)
    (case na_NumberForm_way => k_is)
    (case na_NumberForm_width => k_is)
    (case na_WordForm_fill => k_is)
    (case na_WordForm_least => k_is)
    (case na_WordForm_most => k_is)
    (case na_WordForm_side => k_is)
    (case na_WordForm_signs => k_is)
    (case na_WordForm_strict => k_is)
    (case na_WordForm_width => k_is)
    (case mm_ChoiceForm => k_is)
    (case mq_ChoiceForm => k_is)
    (case mm_NumberForm => k_is)
    (case mq_NumberForm => k_is)
    (case mm_WordForm => k_is)
    (case mq_WordForm => k_is)
    (case jg => k_is)
    (case jt => k_is)
    (case jc_NumberForm => k_is)
    (case jm_NumberForm => k_is)
    (case js_NumberForm_NumberForm => k_is)
    (case jc_WordForm => k_is)
    (case jm_WordForm => k_is)
    (case js_WordForm_WordForm => k_is)
    (case jc_ChoiceForm => k_is)
    (case jm_ChoiceForm => k_is)
    (case js_ChoiceForm_ChoiceForm => k_is)
    (case jh_NumberForm => k_is)
    (case jy_NumberForm => k_is)
    (case js_WordForm_NumberForm => k_is)
    (case js_ChoiceForm_NumberForm => k_is)
    (case jh_WordForm => k_is)
    (case jy_WordForm => k_is)
    (case js_NumberForm_WordForm => k_is)
    (case js_ChoiceForm_WordForm => k_is)
    (case a0 => k_is)
    (case l0 => k_is)
    (case c0 => k_is)
    (case k0 => k_is)
    (case i0 => k_is)
    (case a1 => k_is)
    (case l1 => k_is)
    (case c1 => k_is)
    (case k1 => k_is)
    (case i1 => k_is)
    (case lT1 => k_is)
    (case a2 => k_is)
    (case l2 => k_is)
    (case c2 => k_is)
    (case k2 => k_is)
    (case i2 => k_is)
    (case lT2 => k_is)
    (case a3 => k_is)
    (case l3 => k_is)
    (case c3 => k_is)
    (case k3 => k_is)
    (case i3 => k_is)
    (case lT3 => k_is)
    (case a4 => k_is)
    (case l4 => k_is)
    (case c4 => k_is)
    (case k4 => k_is)
    (case a5 => k_is)
    (case l5 => k_is)
    (case c5 => k_is)
    (case k5 => k_is)
    (case a6 => k_is)
    (case l6 => k_is)
    (case c6 => k_is)
    (case k6 => k_is)
    (case a7 => k_is)
    (case l7 => k_is)
    (case c7 => k_is)
    (case k7 => k_is)
    (case a8 => k_is)
    (case l8 => k_is)
    (case c8 => k_is)
    (case k8 => k_is)
    (case a9 => k_is)
    (case l9 => k_is)
    (case c9 => k_is)
    (case k9 => k_is)
    (case a10 => k_is)
    (case l10 => k_is)
    (case c10 => k_is)
    (case k10 => k_is)
    (case a11 => k_is)
    (case l11 => k_is)
    (case c11 => k_is)
    (case k11 => k_is)
    (case a12 => k_is)
    (case l12 => k_is)
    (case c12 => k_is)
    (case k12 => k_is)
    (case a13 => k_is)
    (case l13 => k_is)
    (case c13 => k_is)
    (case k13 => k_is)
    (case a14 => k_is)
    (case l14 => k_is)
    (case c14 => k_is)
    (case k14 => k_is)
    (case a15 => k_is)
    (case l15 => k_is)
    (case c15 => k_is)
    (case k15 => k_is)
    (case a16 => k_is)
    (case l16 => k_is)
    (case c16 => k_is)
    (case k16 => k_is)
    (case a17 => k_is)
    (case l17 => k_is)
    (case c17 => k_is)
    (case k17 => k_is)
    (case a18 => k_is)
    (case l18 => k_is)
    (case c18 => k_is)
    (case k18 => k_is)
    (case a19 => k_is)
    (case l19 => k_is)
    (case c19 => k_is)
    (case k19 => k_is)
    (case a20 => k_is)
    (case l20 => k_is)
    (case c20 => k_is)
    (case k20 => k_is)
    (case a21 => k_is)
    (case l21 => k_is)
    (case c21 => k_is)
    (case k21 => k_is)
    (case a22 => k_is)
    (case l22 => k_is)
    (case c22 => k_is)
    (case k22 => k_is)
    (case a23 => k_is)
    (case l23 => k_is)
    (case c23 => k_is)
    (case k23 => k_is)
    (case a24 => k_is)
    (case l24 => k_is)
    (case c24 => k_is)
    (case k24 => k_is)
    (case a25 => k_is)
    (case l25 => k_is)
    (case c25 => k_is)
    (case k25 => k_is)
    (case a26 => k_is)
    (case l26 => k_is)
    (case c26 => k_is)
    (case k26 => k_is)
    (case a27 => k_is)
    (case l27 => k_is)
    (case c27 => k_is)
    (case k27 => k_is)
    (case br_Form => k_is)
    (case bg_Form => k_is)
    (case bf_Form => k_is)
    (case eaNoRow => k_is)
    (case exNoRow => k_exc)
    (case ekNoRow => k_is)
    (case ebNoRow => k_is)
    (case etNoRow => k_is)
    (case eaPadError => k_is)
    (case eaNoValue => k_is)
    (case eaNoText => k_is)
    (case eaNoNumber => k_is)
    (case eaNoForm => k_is)
    (case hdPadError => k_is)
    (case tyPadError => k_is)
    (case sbPadError => k_is)
    (case suNoRow_PadError => k_is)
    (case suNoRow_NoRow => k_is)
    (case Aqc_NoRow => refine ⟨?_, ?_, ?_, ?_, ?_, ?_, ?_, ?_⟩ <;> k_is)
    (case hdNoValue => k_is)
    (case tyNoValue => k_is)
    (case sbNoValue => k_is)
    (case suNoRow_NoValue => k_is)
    (case hdNoText => k_is)
    (case tyNoText => k_is)
    (case sbNoText => k_is)
    (case suNoRow_NoText => k_is)
    (case hdNoNumber => k_is)
    (case tyNoNumber => k_is)
    (case sbNoNumber => k_is)
    (case suNoRow_NoNumber => k_is)
    (case hdNoForm => k_is)
    (case tyNoForm => k_is)
    (case sbNoForm => k_is)
    (case suNoRow_NoForm => k_is)
    (case hdNoRow => k_is)
    (case tyNoRow => k_is)
    (case sbNoRow => k_is)
    (case stNoRow_ValueError => k_is)
    (case n_list => k_is)
    (case n_isinstance => k_is)
    (case n_int => k_is)
    (case n_bool => k_is)
    (case n_abs => k_is)
    (case n_tuple => k_is)
    (case n_len => k_is)
    (case n_str => k_is)
    (case n_range => k_is)
    (case n_ValueError => k_is)
    (case n_min => k_is)
    (case n_max => k_is)
    (case m_MOST_FIGURES => k_is)
    (case m_FIGURES_deskwords => k_is)
    (case m_MOST_EDGE => k_is)
end
