import PyProof.Rows.All
import Wide.All
import OpenK.AllK
import Wide.FinOn
import PySem.PyData
import PyProof.EqLayable
import PyProof.P3Statements
import PySem.Value
import PySem.Str
import PyProof.ReprReads
import HandS.ForMost
import HandS.ForExc
import HandS.CallSlots
import HandS.Defaults
import HandS.Wide
import HandS.Style
import HandS.Lambda
import HandS.Deep
import HandS.TupAny
import HandS.More
import HandS.IsInst
import HandS.WordsExc
import HandS.Zip
import HandS.Star
import HandS.Property
import HandS.RaiseMore
import HandS.Ends
import HandS.WordsDict
import HandS.TupLen
import HandS.Text
import KE.KOpsOwn
import KE.KFmtOwn
import KE.KCallOwn
import OpenK.KMeth
import OpenK.KOps
import PyProof.InstNe
import HandS.Head0
import HandS.Head1
import HandS.Head2
import HandS.HeadEnd
import HandS.HeadHook1
import HandS.HeadHook2
import HandS.Comp
import PyProof.ReprRoads
import PyProof.P3Eq
import PyProof.FitsInt
import KE.KTryMore
import HandS.Exc
import HandS.ExcValue
import HandS.ExcOwn
import HandS.ExcInit
import HandS.ExcIs
import HandS.ExcField
import HandS.Words
import KE.KExcIs
import HandS.Dict
import HandS.Small
import HandS.List
import HandS.Conv
import PyProof.StrBlock2
import KE.DatumIndex
import HandS.NoneIn
import HandS.ReplaceLit
import HandS.StrMore
import PyProof.SliceList
import PyProof.SliceStr2
import HandS.HeadHook4
import HandS.EndBits
import HandS.ClsMeth
import PyProof.Draws
import PyProof.EnumMake
import PySem.Challenge.RW_cuspfloor_k62_turns_called
set_option Elab.async false
set_option linter.all false
set_option maxRecDepth 100000
set_option maxHeartbeats 0
/-! Gs: the ghost semantics. Pure data D, mutable objects GO in a store (a list), readings as predicate transformers. -/
namespace Gh
open PySem

inductive D where
  | non | bl (b : Bool) | int (i : Int) | str (x : Str) | tup (ds : List D) | rol (ds : List D) | obj (k : Nat) | ref (a : Addr) | ty (n : String)

abbrev GKey := Int ⊕ Str
inductive GO where
  | lst (ds : List D)
  | dK (kvs : List (GKey × D))
  | dT (kvs : List (List GKey × D))
  | ins (C : Addr) (fs : List (Str × D))
  | exc (C : Addr) (fs : List (Str × D))

abbrev Sl := List (Option D)
abbrev SS := List GO
abbrev GQ := D → SS → Prop
/-- what is wanted of an exception: its class, its fields -/
abbrev GX := Addr → List (Str × D) → SS → Prop
abbrev GE := Sl → SS → GQ → Prop
abbrev GA := Sl → SS → (List D → SS → Prop) → Prop
abbrev GT := Sl → SS → (Bool → SS → Prop) → Prop
structure GEnds where
  nx : Sl → SS → Prop
  rt : GQ
  bk : Sl → SS → Prop := fun _ _ => False
  ct : Sl → SS → Prop := fun _ _ => False
abbrev GS := GEnds → Sl → SS → Prop
abbrev GSp := List D → SS → GQ → GX → Prop
abbrev GO2 := D → D → SS → GQ → Prop
abbrev GO1 := D → SS → GQ → Prop
abbrev GC := List D → SS → GQ → Prop
abbrev GG := D → Sl → SS → (Sl → SS → Prop) → Prop
abbrev GGs := List D → Sl → SS → (Sl → SS → Prop) → Prop

/-! ### expressions -/
def gC (d : D) : GE := fun _ S Q => Q d S
def gV (i : Nat) : GE := fun σ S Q => match σ[i]? with
  | some (some d) => Q d S
  | _ => False
def gNil : GA := fun _ S Q => Q [] S
def gCons (t : GE) (u : GA) : GA := fun σ S Q => t σ S fun d S1 => u σ S1 fun ds S2 => Q (d :: ds) S2
def gTup (u : GA) : GE := fun σ S Q => u σ S fun ds S1 => ds.length ≤ 16777216 ∧ Q (.tup ds) S1
def gLst (u : GA) : GE := fun σ S Q => u σ S fun ds S1 => ds.length ≤ 16777216 ∧ Q (.obj S1.length) (S1 ++ [.lst ds])
def gBin (o : GO2) (t u : GE) : GE := fun σ S Q => t σ S fun x S1 => u σ S1 fun y S2 => o x y S2 Q
def gUn (o : GO1) (t : GE) : GE := fun σ S Q => t σ S fun x S1 => o x S1 Q
def gChain (o o' : GO2) (t u v : GE) : GE := fun σ S Q => t σ S fun x S1 => u σ S1 fun y S2 => o x y S2 fun z S3 => match z with
  | .bl true => v σ S3 fun w S4 => o' y w S4 Q
  | .bl false => Q (.bl false) S3
  | _ => False
def gAndV (t u : GE) : GE := fun σ S Q => t σ S fun x S1 => match x with
  | .bl true => u σ S1 Q
  | .bl false => Q (.bl false) S1
  | _ => False
def gOrV (t u : GE) : GE := fun σ S Q => t σ S fun x S1 => match x with
  | .bl true => Q (.bl true) S1
  | .bl false => u σ S1 Q
  | _ => False
def gNotV (t : GE) : GE := fun σ S Q => t σ S fun x S1 => match x with
  | .bl b => Q (.bl (!b)) S1
  | _ => False
def gIfE (c : GT) (t u : GE) : GE := fun σ S Q => c σ S fun b S1 => if b = true then t σ S1 Q else u σ S1 Q
/-- a call of a def by its promise; X: what is wanted of what it raises, at the caller's slots -/
def gCall (sp : GSp) (X : Sl → GX) (u : GA) : GE := fun σ S Q => u σ S fun ds S1 => sp ds S1 Q (X σ)
/-- a built-in -/
def gBlt (c : GC) (u : GA) : GE := fun σ S Q => u σ S fun ds S1 => c ds S1 Q
/-- C(..) -/
def gMake (C : Addr) (sp : GSp) (X : Sl → GX) (u : GA) : GE := fun σ S Q => u σ S fun ds S1 =>
  sp (.obj S1.length :: ds) (S1 ++ [.ins C []]) (fun d S2 => d = .non ∧ Q (.obj S1.length) S2) (X σ)
/-- o.m(..) by the promise of the object's class -/
def gMeth (tb : Addr → Option GSp) (m : Str) (X : Sl → GX) (t : GE) (u : GA) : GE := fun σ S Q => t σ S fun x S1 => match x with
  | .obj k => (match S1[k]? with
    | some (.ins C fs) => (match tb C with
      | some sp => fs.lookup m = none ∧ u σ S1 fun ds S2 => sp (.obj k :: ds) S2 Q (X σ)
      | none => False)
    | _ => False)
  | _ => False
/-- o.f, f an attribute; ok: the classes -/
def gFld (ok : Addr → Prop) (f : Str) (t : GE) : GE := fun σ S Q => t σ S fun x S1 => match x with
  | .obj k => (match S1[k]? with
    | some (.ins C fs) => ok C ∧ (match fs.lookup f with
      | some d => Q d S1
      | none => False)
    | _ => False)
  | _ => False
/-- o.f, f a property -/
def gProp (tb : Addr → Option GSp) (t : GE) : GE := fun σ S Q => t σ S fun x S1 => match x with
  | .obj k => (match S1[k]? with
    | some (.ins C _) => (match tb C with
      | some sp => sp [.obj k] S1 Q (fun _ _ _ => False)
      | none => False)
    | _ => False)
  | _ => False

/-! ### tests -/
/-- an expression that gives True or False -/
def gtV (t : GE) : GT := fun σ S Q => t σ S fun x S1 => match x with
  | .bl b => Q b S1
  | _ => False
/-- by truth -/
def truD (S : SS) : D → Option Bool
  | .non => some false
  | .bl b => some b
  | .int i => some (i != 0)
  | .str x => if x.length ≤ 16777216 then some ((x.length : Int) != 0) else none
  | .tup ds => some (!ds.isEmpty)
  | .rol ds => some (!ds.isEmpty)
  | .obj k => (match S[k]? with
    | some (.lst ds) => some (!ds.isEmpty)
    | some (.dK kvs) => some (!kvs.isEmpty)
    | _ => none)
  | _ => none
def gtT (t : GE) : GT := fun σ S Q => t σ S fun x S1 => match truD S1 x with
  | some b => Q b S1
  | none => False
def gtAnd (t u : GT) : GT := fun σ S Q => t σ S fun c S1 => if c = true then u σ S1 Q else Q false S1
def gtOr (t u : GT) : GT := fun σ S Q => t σ S fun c S1 => if c = true then Q true S1 else u σ S1 Q
def gtNot (t : GT) : GT := fun σ S Q => t σ S fun c S1 => Q (!c) S1

/-! ### operators -/
def oAdd : GO2 := fun x y S Q => match x, y with
  | .int i, .int j => Q (.int (i + j)) S
  | .str a, .str b => a.length + b.length ≤ 16777216 ∧ Q (.str (a ++ b)) S
  | .tup a, .tup b => a ≠ [] ∧ a.length + b.length ≤ 16777216 ∧ Q (.tup (a ++ b)) S
  | .obj p, .obj q => (match S[p]?, S[q]? with
    | some (.lst a), some (.lst b) => a.length + b.length ≤ 16777216 ∧ Q (.obj S.length) (S ++ [.lst (a ++ b)])
    | _, _ => False)
  | _, _ => False
def oSub : GO2 := fun x y S Q => match x, y with
  | .int i, .int j => Q (.int (i - j)) S
  | _, _ => False
/-- the size of an int that * and // take -/
def szOk (i : Int) : Prop := i.natAbs < 2 ^ 400000
def oMul : GO2 := fun x y S Q => match x, y with
  | .int i, .int j => szOk i ∧ szOk j ∧ Q (.int (i * j)) S
  | _, _ => False
def oMod : GO2 := fun x y S Q => match x, y with
  | .int i, .int j => 0 < j ∧ Q (.int (i % j)) S
  | _, _ => False
def oFdiv : GO2 := fun x y S Q => match x, y with
  | .int i, .int j => 0 < j ∧ j < 1073741824 ∧ Q (.int (i / j)) S
  | _, _ => False
def oFdivW : GO2 := fun x y S Q => match x, y with
  | .int i, .int j => 0 < j ∧ j.natAbs < 2 ^ 9000 ∧ Q (.int (i / j)) S
  | _, _ => False
def oPow : GO2 := fun x y S Q => match x, y with
  | .int i, .int j => 0 ≤ j ∧ j ≤ 1000000 ∧ i.natAbs < 2 ^ 64 ∧ Q (.int (i ^ j.toNat)) S
  | _, _ => False
def oLt : GO2 := fun x y S Q => match x, y with
  | .int i, .int j => Q (.bl (decide (i < j))) S
  | _, _ => False
def oLe : GO2 := fun x y S Q => match x, y with
  | .int i, .int j => Q (.bl (decide (i ≤ j))) S
  | _, _ => False
def oGt : GO2 := fun x y S Q => match x, y with
  | .int i, .int j => Q (.bl (decide (j < i))) S
  | _, _ => False
def oGe : GO2 := fun x y S Q => match x, y with
  | .int i, .int j => Q (.bl (decide (j ≤ i))) S
  | _, _ => False
def uNeg : GO1 := fun x S Q => match x with
  | .int i => Q (.int (-i)) S
  | _ => False
/-- the data that a value is -/
def seqP (f : D → Option PyData) : List D → Option (List PyData)
  | [] => some []
  | d :: ds => match f d with
    | some p => (match seqP f ds with
      | some ps => some (p :: ps)
      | none => none)
    | none => none
def toP (S : SS) : Nat → D → Option PyData
  | 0, _ => none
  | n + 1, d => match d with
    | .non => some .none
    | .bl b => some (.bool b)
    | .int i => some (.int i)
    | .str x => some (.str x)
    | .tup ds => (seqP (toP S n) ds).map .tuple
    | .rol ds => (seqP (toP S n) ds).map .list
    | .obj k => (match S[k]? with
      | some (.lst ds) => (seqP (toP S n) ds).map .list
      | _ => none)
    | _ => none
/-- == of data at any depth; sh: what the model asks of it -/
def oEqP : GO2 := fun x y S Q => ∃ p p', toP S 8 x = some p ∧ toP S 8 y = some p' ∧ SeqAt.shaped p = true ∧ SeqAt.shaped p' = true ∧ Q (.bl (PyData.eqv p p')) S
def oNeP : GO2 := fun x y S Q => ∃ p p', toP S 8 x = some p ∧ toP S 8 y = some p' ∧ SeqAt.shaped p = true ∧ SeqAt.shaped p' = true ∧ Q (.bl (!PyData.eqv p p')) S
/-- == : data, or two texts -/
def oEq : GO2 := fun x y S Q => oEqP x y S Q ∨ ∃ a b, x = .str a ∧ y = .str b ∧ Q (.bl (a == b)) S
def oNe : GO2 := fun x y S Q => oNeP x y S Q ∨ ∃ a b, x = .str a ∧ y = .str b ∧ Q (.bl (!(a == b))) S
/-- is, is not None | True | False -/
def oIs : GO2 := fun x y S Q => match x, y with
  | .bl a, .bl b => Q (.bl (a == b)) S
  | .non, .non => Q (.bl true) S
  | .bl _, .non | .int _, .non | .str _, .non | .tup _, .non | .rol _, .non | .obj _, .non | .ref _, .non | .ty _, .non => Q (.bl false) S
  | _, _ => False
def oIsNot : GO2 := fun x y S Q => oIs x y S fun z S' => match z with
  | .bl b => Q (.bl (!b)) S'
  | _ => False

/-! ### targets -/
def ggNil : GGs := fun ds σ S Q => match ds with
  | [] => Q σ S
  | _ => False
def ggCons (g : GG) (u : GGs) : GGs := fun ds σ S Q => match ds with
  | d :: r => g d σ S fun σ' S' => u r σ' S' Q
  | _ => False
def ggTup (n : Nat) (u : GGs) : GG := fun d σ S Q => match d with
  | .tup ds => ds.length = n ∧ u ds σ S Q
  | _ => False

/-! ### statements -/
def gsNx : GS := fun D σ S => D.nx σ S
def gsSeq (t u : GS) : GS := fun D σ S => t { D with nx := u D } σ S
def gsAsg (t : GE) (g : GG) : GS := fun D σ S => t σ S fun d S1 => g d σ S1 D.nx
def gsPar2 (i j : Nat) (u : GA) : GS := fun D σ S => u σ S fun ds S1 => match ds with
  | [v, w] => D.nx ((σ.set i (some v)).set j (some w)) S1
  | _ => False
def gsRet (t : GE) : GS := fun D σ S => t σ S D.rt
def gsRetN : GS := fun D _ S => D.rt .non S
def gsDrop (t : GE) : GS := fun D σ S => t σ S fun _ S1 => D.nx σ S1
def gsIf (c : GT) (t u : GS) : GS := fun D σ S => c σ S fun b S1 => if b = true then t D σ S1 else u D σ S1
def gsBrk : GS := fun D σ S => D.bk σ S
def gsCt : GS := fun D σ S => D.ct σ S
def gsAug (i : Nat) (o : GO2) (t : GE) : GS := fun D σ S => match σ[i]? with
  | some (some x) => t σ S fun y S1 => o x y S1 fun z S2 => D.nx (σ.set i (some z)) S2
  | _ => False
def putG (f : Str) (d : D) : List (Str × D) → List (Str × D)
  | [] => [(f, d)]
  | (g, x) :: r => if g = f then (g, d) :: r else (g, x) :: putG f d r
def gsFld (ok : Addr → Prop) (f : Str) (t v : GE) : GS := fun D σ S => v σ S fun d S1 => t σ S1 fun x S2 => match x with
  | .obj k => (match S2[k]? with
    | some (.ins C fs) => ok C ∧ fs.length < 1000 ∧ D.nx σ (S2.set k (.ins C (putG f d fs)))
    | _ => False)
  | _ => False
/-- raise of the class C with these fields (made by the expression's reading) -/
def gsRaise (X : Sl → GX) (C : Addr) : GS := fun _ σ S => X σ C [] S
/-- raise C('..') -/
def gsRaise0 (X : Sl → GX) (C : Addr) : GS := fun _ σ S => X σ C [] S
/-- raise C(e), C's __init__ keeps it as the field f -/
def gsRaise1 (X : Sl → GX) (C : Addr) (f : Str) (t : GE) : GS := fun _ σ S => t σ S fun d S1 => X σ C [(f, d)] S1
/-- try: .. except (..) as the slot i: the slot j = it -/
def gsTryT (ok : Addr → Prop) (i j : Nat) (t : (Sl → GX) → GS) : GS := fun D σ S => t (fun σ' C fs S' => ok C ∧ D.nx (((σ'.set i (some (.obj S'.length))).set j (some (.obj S'.length))).set i none) (S' ++ [.exc C fs])) D σ S
/-- e.f, e an exception that is kept -/
def gFldE (ok : Addr → Prop) (f : Str) (t : GE) : GE := fun σ S Q => t σ S fun x S1 => match x with
  | .obj k => (match S1[k]? with
    | some (.exc C fs) => ok C ∧ (match fs.lookup f with
      | some d => Q d S1
      | none => False)
    | _ => False)
  | _ => False
/-- isinstance(e, t), e an exception that is kept -/
def cIsiE (t : D) (f : Addr → Option Bool) : GC := fun ds S Q => match ds with
  | [d, e] => e = t ∧ (match d with
    | .obj k => (match S[k]? with
      | some (.exc C _) => (match f C with
        | some b => Q (.bl b) S
        | none => False)
      | _ => False)
    | _ => False)
  | _ => False
def gsNever : GS := fun _ _ _ => False
def gsWhile (c : GT) (t : GS) : GS := fun D σ S => ∃ W : Nat → Sl → SS → Prop, (∃ m, W m σ S) ∧ ∀ m σ S, W m σ S →
  c σ S fun b S1 => if b = true then ∃ N : Sl → SS → Prop, (∀ σ' S', N σ' S' → ∃ m', m' < m ∧ W m' σ' S') ∧ t { D with nx := N, ct := N, bk := D.nx } σ S1 else D.nx σ S1
/-- what a loop walks: the items, what must stay true -/
structure GIt where
  items : List D
  ok : SS → Prop
abbrev GI := Sl → SS → (GIt → SS → Prop) → Prop
def giLst (t : GE) : GI := fun σ S R => t σ S fun x S1 => match x with
  | .rol ds => R ⟨ds, fun _ => True⟩ S1
  | .obj k => (match S1[k]? with
    | some (.lst ds) => R ⟨ds, fun S => S[k]? = some (.lst ds)⟩ S1
    | _ => False)
  | _ => False
def giTup (t : GE) : GI := fun σ S R => t σ S fun x S1 => match x with
  | .tup ds => R ⟨ds, fun _ => True⟩ S1
  | _ => False
def enumD : Nat → List D → List D
  | _, [] => []
  | n, d :: ds => .tup [.int (n : Int), d] :: enumD (n + 1) ds
def giEnum (u : GA) : GI := fun σ S R => u σ S fun ds S1 => match ds with
  | [.obj k] => (match S1[k]? with
    | some (.lst ds) => R ⟨enumD 0 ds, fun S => S[k]? = some (.lst ds)⟩ S1
    | _ => False)
  | _ => False
def zipD : List D → List D → List D
  | x :: ds, y :: es => .tup [x, y] :: zipD ds es
  | _, _ => []
def giZip (u : GA) : GI := fun σ S R => u σ S fun ds S1 => match ds with
  | [.obj j, .obj k] => (match S1[j]?, S1[k]? with
    | some (.lst ds), some (.lst es) => R ⟨zipD ds es, fun S => S[j]? = some (.lst ds) ∧ S[k]? = some (.lst es)⟩ S1
    | _, _ => False)
  | [.tup ds, .tup es] => R ⟨zipD ds es, fun _ => True⟩ S1
  | _ => False
def rng (lo : Int) (n : Nat) : List D := (List.range n).map fun (i : Nat) => D.int (lo + (i : Int))
def giRng1 (u : GA) : GI := fun σ S R => u σ S fun ds S1 => match ds with
  | [.int j] => (-(2 ^ 62) ≤ j ∧ j < 2 ^ 62) ∧ R ⟨rng 0 j.toNat, fun _ => True⟩ S1
  | _ => False
def giRng2 (u : GA) : GI := fun σ S R => u σ S fun ds S1 => match ds with
  | [.int i, .int j] => (-(2 ^ 62) ≤ i ∧ i < 2 ^ 62 ∧ -(2 ^ 62) ≤ j ∧ j < 2 ^ 62) ∧ R ⟨rng i (j - i).toNat, fun _ => True⟩ S1
  | _ => False
def signs (x : Str) : List D := x.cps.toList.map fun c => D.str ⟨#[c]⟩
def giStr (t : GE) : GI := fun σ S R => t σ S fun x S1 => match x with
  | .str z => R ⟨signs z, fun _ => True⟩ S1
  | _ => False
def forL (ok : SS → Prop) (g : GG) (t : GS) : List D → GEnds → Sl → SS → Prop
  | [], D, σ, S => ok S ∧ D.nx σ S
  | d :: ds, D, σ, S => ok S ∧ g d σ S fun σ1 S1 => t { D with nx := fun σ' S' => forL ok g t ds D σ' S', ct := fun σ' S' => forL ok g t ds D σ' S', bk := D.nx } σ1 S1
def gsFor (it : GI) (g : GG) (t : GS) : GS := fun D σ S => it σ S fun J S1 => forL J.ok g t J.items D σ S1

/-! ### patterns: a name, a tuple of patterns -/
inductive Pat where
  | nm (i : Nat)
  | tp (ps : List Pat)
mutual
def runP : Pat → D → Sl → Option Sl
  | .nm i, d, σ => some (σ.set i (some d))
  | .tp ps, .tup ds, σ => runPs ps ds σ
  | .tp _, _, _ => none
def runPs : List Pat → List D → Sl → Option Sl
  | [], [], σ => some σ
  | p :: ps, d :: ds, σ => match runP p d σ with
    | some σ' => runPs ps ds σ'
    | none => none
  | _, _, _ => none
end
mutual
def patIn (vs : List Nat) : Pat → Bool
  | .nm i => vs.contains i
  | .tp ps => patsIn vs ps
def patsIn (vs : List Nat) : List Pat → Bool
  | [] => true
  | p :: ps => patIn vs p && patsIn vs ps
end
def ggP (p : Pat) : GG := fun d σ S Q => match runP p d σ with
  | some σ' => Q σ' S
  | none => False

/-! ### comprehensions -/
def wipeG (σ : Sl) : List Nat → Sl
  | [] => σ
  | v :: vs => (wipeG σ vs).set v none
/-- [e for p in it if c]: vs the slots of its own -/
def lcL (ok : SS → Prop) (k : Nat) (p : Pat) (c : GT) (e : GE) (vs : List Nat) (σ : Sl) (Q : GQ) : List D → List D → SS → Prop
  | [], acc, S => ok S ∧ S[k]? = some (.lst acc) ∧ Q (.obj k) S
  | d :: ds, acc, S => ok S ∧ S[k]? = some (.lst acc) ∧ acc.length < 16777216 ∧ match runP p d (wipeG σ vs) with
    | some σ1 => c σ1 S fun b S2 => if b = true then e σ1 S2 fun y S3 => S3[k]? = some (.lst acc) ∧ lcL ok k p c e vs σ Q ds (acc ++ [y]) (S3.set k (.lst (acc ++ [y])))
      else lcL ok k p c e vs σ Q ds acc S2
    | none => False
def gtYes : GT := fun _ S Q => Q true S
def gLc (it : GI) (p : Pat) (c : GT) (e : GE) (vs : List Nat) : GE := fun σ S Q => it σ S fun J S1 => lcL J.ok S1.length p c e vs σ Q J.items [] (S1 ++ [.lst []])

/-! ### items, slices -/
def atG {α : Type} (xs : List α) (i : Int) : Option α := if 0 ≤ i then xs[i.toNat]? else if -(xs.length : Int) ≤ i then xs[(i + xs.length).toNat]? else none
def oIx : GO2 := fun x y S Q => match x, y with
  | .tup ds, .int i => (match atG ds i with
    | some d => Q d S
    | none => False)
  | .rol ds, .int i => (match atG ds i with
    | some d => Q d S
    | none => False)
  | .str z, .int i => z.length ≤ 16777216 ∧ (match atG z.cps.toList i with
    | some c => Q (.str ⟨#[c]⟩) S
    | none => False)
  | .obj k, .int i => (match S[k]? with
    | some (.lst ds) => (match atG ds i with
      | some d => Q d S
      | none => False)
    | _ => False)
  | _, _ => False
/-- o[i] = v of a list -/
def oSetIx : D → D → D → SS → (SS → Prop) → Prop := fun o i v S Q => match o, i with
  | .obj k, .int j => (match S[k]? with
    | some (.lst ds) => (if 0 ≤ j ∧ j < ds.length then Q (S.set k (.lst (ds.set j.toNat v))) else False)
    | _ => False)
  | _, _ => False
def ggSub (r : D → D → D → SS → (SS → Prop) → Prop) (to ti : GE) : GG := fun d σ S Q => to σ S fun a S1 => ti σ S1 fun b S2 => r a b d S2 fun S3 => Q σ S3

abbrev GO' := Sl → SS → (Option Int → SS → Prop) → Prop
def goNone : GO' := fun _ S Q => Q none S
def goSome (t : GE) : GO' := fun σ S Q => t σ S fun d S1 => match d with
  | .int i => Q (some i) S1
  | _ => False
def sIxG (n d : Nat) : Option Int → Nat
  | none => d
  | some v => if v < 0 then (v + (n : Int)).toNat else min v.toNat n
def cutG {α : Type} (xs : List α) (lo hi : Option Int) : List α := (xs.drop (sIxG xs.length 0 lo)).take (sIxG xs.length xs.length hi - sIxG xs.length 0 lo)
def cutSG (z : Str) (lo hi : Option Int) : Str := ⟨(cutG z.cps.toList lo hi).toArray⟩
def oSl : D → Option Int → Option Int → SS → GQ → Prop := fun x a b S Q => match x with
  | .str z => z.length ≤ 16777216 ∧ Q (.str (cutSG z a b)) S
  | .tup ds => Q (.tup (cutG ds a b)) S
  | .rol ds => Q (.obj S.length) (S ++ [.lst (cutG ds a b)])
  | .obj k => (match S[k]? with
    | some (.lst ds) => Q (.obj S.length) (S ++ [.lst (cutG ds a b)])
    | _ => False)
  | _ => False
def gSlice (t : GE) (l u : GO') : GE := fun σ S Q => t σ S fun d S1 => l σ S1 fun a S2 => u σ S2 fun b S3 => oSl d a b S3 Q

/-! ### built-ins -/
def cLen : GC := fun ds S Q => match ds with
  | [d] => (match d with
    | .str z => z.length ≤ 16777216 ∧ Q (.int z.length) S
    | .tup es => Q (.int es.length) S
    | .rol es => Q (.int es.length) S
    | .obj k => (match S[k]? with
      | some (.lst es) => Q (.int es.length) S
      | some (.dK kvs) => Q (.int kvs.length) S
      | _ => False)
    | _ => False)
  | _ => False
def cMax2 : GC := fun ds S Q => match ds with
  | [d, e] => (match d, e with
    | .int i, .int j => Q (.int (if j > i then j else i)) S
    | _, _ => False)
  | _ => False
def cMin2 : GC := fun ds S Q => match ds with
  | [d, e] => (match d, e with
    | .int i, .int j => Q (.int (if j < i then j else i)) S
    | _, _ => False)
  | _ => False
def cAbs : GC := fun ds S Q => match ds with
  | [d] => (match d with
    | .int i => Q (.int (if i < 0 then -i else i)) S
    | _ => False)
  | _ => False
def cStr : GC := fun ds S Q => match ds with
  | [d] => (match d with
    | .int i => i.natAbs.log2 < 1920 ∧ Q (.str (toString i)) S
    | .str z => Q (.str z) S
    | _ => False)
  | _ => False
def cBool : GC := fun ds S Q => match ds with
  | [d] => (match d with
    | .int i => Q (.bl (i != 0)) S
    | .bl b => Q (.bl b) S
    | _ => False)
  | _ => False
/-- int(text): f tells which text is which number -/
def cInt (f : Str → Option Int) : GC := fun ds S Q => match ds with
  | [d] => (match d with
    | .int i => Q (.int i) S
    | .str z => ∃ n, f z = some n ∧ z.length ≤ 640 ∧ Q (.int n) S
    | _ => False)
  | _ => False
def cTuple : GC := fun ds S Q => match ds with
  | [d] => (match d with
    | .tup es => Q (.tup es) S
    | .rol es => Q (.tup es) S
    | .obj k => (match S[k]? with
      | some (.lst es) => Q (.tup es) S
      | _ => False)
    | _ => False)
  | _ => False
def cList : GC := fun ds S Q => match ds with
  | [d] => (match d with
    | .tup es => Q (.obj S.length) (S ++ [.lst es])
    | .rol es => Q (.obj S.length) (S ++ [.lst es])
    | .obj k => (match S[k]? with
      | some (.lst es) => Q (.obj S.length) (S ++ [.lst es])
      | _ => False)
    | _ => False)
  | _ => False
/-- the type of a value: a built-in one, an own class -/
def tyD (S : SS) : D → Option (String ⊕ Addr)
  | .non => some (.inl "NoneType")
  | .bl _ => some (.inl "bool")
  | .int _ => some (.inl "int")
  | .str _ => some (.inl "str")
  | .tup _ => some (.inl "tuple")
  | .rol _ => some (.inl "list")
  | .obj k => (match S[k]? with
    | some (.lst _) => some (.inl "list")
    | some (.dK _) => some (.inl "dict")
    | some (.dT _) => some (.inl "dict")
    | some (.ins C _) => some (.inr C)
    | _ => none)
  | _ => none
def cIsi (t : D) (f : String ⊕ Addr → Option Bool) : GC := fun ds S Q => match ds with
  | [d, e] => e = t ∧ (match tyD S d with
    | some key => (match f key with
      | some b => Q (.bl b) S
      | none => False)
    | none => False)
  | _ => False
/-- isinstance(·, T), T a built-in type; own: the own classes that may come -/
def isiB (T : String) (own : Addr → Bool) : String ⊕ Addr → Option Bool
  | .inl n => if n ∈ (["NoneType", "int", "bool", "tuple", "str", "list", "dict"] : List String) then some (n == T || (n == "bool" && T == "int")) else none
  | .inr C => if own C then some false else none

/-! ### own operators: tb the promise by class, ok the right side's types -/
def oOwn (tb : Addr → Option GSp) (ok : Addr → String ⊕ Addr → Bool) (neg : Bool) : GO2 := fun x y S Q => match x with
  | .obj k => (match S[k]? with
    | some (.ins C _) => (match tb C, tyD S y with
      | some sp, some key => ok C key = true ∧ sp [x, y] S (fun z S' => match z with
        | .bl b => Q (.bl (if neg then !b else b)) S'
        | _ => False) (fun _ _ _ => False)
      | _, _ => False)
    | _ => False)
  | _ => False
/-- a * b, a & b .. of one class -/
def oOwnB (tb : Addr → Option GSp) : GO2 := fun x y S Q => match x, y with
  | .obj j, .obj k => (match S[j]?, S[k]? with
    | some (.ins C _), some (.ins C' _) => C = C' ∧ (match tb C with
      | some sp => sp [x, y] S Q (fun _ _ _ => False)
      | none => False)
    | _, _ => False)
  | _, _ => False
def oOwnU (tb : Addr → Option GSp) : GO1 := fun x S Q => match x with
  | .obj k => (match S[k]? with
    | some (.ins C _) => (match tb C with
      | some sp => sp [x] S Q (fun _ _ _ => False)
      | none => False)
    | _ => False)
  | _ => False
def cOwn (tb : Addr → Option GSp) : GC := fun ds S Q => match ds with
  | [d] => oOwnU tb d S Q
  | _ => False
def isBlD (Q : GQ) : GQ := fun d S => match d with
  | .bl b => Q (.bl b) S
  | _ => False
def isStrD (Q : GQ) : GQ := fun d S => match d with
  | .str z => Q (.str z) S
  | _ => False
def isLenD (Q : GQ) : GQ := fun d S => match d with
  | .int n => (0 ≤ n ∧ n < 2 ^ 63) ∧ Q (.int n) S
  | _ => False
def cBoolO (tb : Addr → Option GSp) : GC := fun ds S Q => cOwn tb ds S (isBlD Q)
def cStrO (tb : Addr → Option GSp) : GC := fun ds S Q => cOwn tb ds S (isStrD Q)
def cLenO (tb : Addr → Option GSp) : GC := fun ds S Q => cOwn tb ds S (isLenD Q)
/-- v in a, v not in a -/
def oInO (tb : Addr → Option GSp) (neg : Bool) : GO2 := fun v x S Q => match x with
  | .obj k => (match S[k]? with
    | some (.ins C _) => (match tb C with
      | some sp => sp [x, v] S (fun z S' => match z with
        | .bl b => Q (.bl (if neg then !b else b)) S'
        | _ => False) (fun _ _ _ => False)
      | none => False)
    | _ => False)
  | _ => False
/-- a(e, ..), a an instance -/
def gCallO (tb : Addr → Option GSp) (X : Sl → GX) (t : GE) (u : GA) : GE := fun σ S Q => t σ S fun x S1 => match x with
  | .obj k => u σ S1 fun ds S2 => (match S2[k]? with
    | some (.ins C _) => (match tb C with
      | some sp => sp (.obj k :: ds) S2 Q (X σ)
      | none => False)
    | _ => False)
  | _ => False

/-! ### more of built-ins -/
/-- += of ints -/
def oAddI : GO2 := fun x y S Q => match x, y with
  | .int i, .int j => Q (.int (i + j)) S
  | _, _ => False
/-- the items of a list, a tuple -/
def itemsD (S : SS) : D → Option (List D)
  | .tup ds => some ds
  | .rol ds => some ds
  | .obj k => (match S[k]? with
    | some (.lst ds) => some ds
    | _ => none)
  | _ => none
def oJoin : GO2 := fun x y S Q => match x with
  | .str a => ∃ ys : List Str, itemsD S y = some (ys.map .str) ∧ (ys.map (·.length)).sum + ys.length * a.length ≤ 16777216 ∧ Q (.str (Str.join a ys)) S
  | _ => False
def gJoin (t u : GE) : GE := fun σ S Q => t σ S fun x S1 => (∃ z, x = .str z) ∧ u σ S1 fun y S2 => oJoin x y S2 Q
/-- repr of what is no collection -/
def cRepr1 : GC := fun ds S Q => match ds with
  | [d] => (match d with
    | .bl b => Q (.str (if b then ⟨#[84, 114, 117, 101]⟩ else ⟨#[70, 97, 108, 115, 101]⟩)) S
    | .int i => i.natAbs.log2 < 1920 ∧ Q (.str (toString i)) S
    | .non => Q (.str ⟨#[78, 111, 110, 101]⟩) S
    | _ => False)
  | _ => False
/-- repr of data -/
def cRepr : GC := fun ds S Q => match ds with
  | [d] => ∃ p, toP S 8 d = some p ∧ p.showable = true ∧ p.hasDict = false ∧ p.depth ≤ 60 ∧ p.shown.length ≤ 16777216 ∧ Q (.str p.shown) S
  | _ => False
/-! ### dicts: keys ints and texts, or tuples of them -/
def toKey : D → Option GKey
  | .int i => some (.inl i)
  | .str x => some (.inr x)
  | _ => none
def toKeyL : List D → Option (List GKey)
  | [] => some []
  | d :: ds => match toKey d with
    | some k => (match toKeyL ds with
      | some ks => some (k :: ks)
      | none => none)
    | none => none
def toKeys : D → Option (List GKey)
  | .tup ds => toKeyL ds
  | _ => none
def getK {κ : Type} [DecidableEq κ] (kvs : List (κ × D)) (k : κ) : Option D := (kvs.find? fun p => decide (p.1 = k)).map (·.2)
def putKD {κ : Type} [DecidableEq κ] (kvs : List (κ × D)) (k : κ) (d : D) : List (κ × D) := if (kvs.any fun p => decide (p.1 = k)) = true then kvs.map (fun p => if p.1 = k then (p.1, d) else p) else kvs ++ [(k, d)]
def oDLook (x y : D) (S : SS) (Q : Option D → Prop) : Prop := match x with
  | .obj k => (match S[k]? with
    | some (.dK kvs) => (match toKey y with
      | some q => Q (getK kvs q)
      | none => False)
    | some (.dT kvs) => (match toKeys y with
      | some q => Q (getK kvs q)
      | none => False)
    | _ => False)
  | _ => False
/-- d[k] -/
def oDGet : GO2 := fun x y S Q => oDLook x y S fun o => match o with
  | some d => Q d S
  | none => False
/-- k in d, k not in d -/
def oDIn (neg : Bool) : GO2 := fun y x S Q => oDLook x y S fun o => Q (.bl (if neg then !o.isSome else o.isSome)) S
/-- d[k] = v -/
def oDSet : D → D → D → SS → (SS → Prop) → Prop := fun o i v S Q => match o with
  | .obj k => (match S[k]? with
    | some (.dK kvs) => (match toKey i with
      | some q => kvs.length < 16777216 ∧ Q (S.set k (.dK (putKD kvs q v)))
      | none => False)
    | some (.dT kvs) => (match toKeys i with
      | some q => kvs.length < 16777216 ∧ Q (S.set k (.dT (putKD kvs q v)))
      | none => False)
    | _ => False)
  | _ => False
/-- {} -/
def gDict0 (t : Bool) : GE := fun _ S Q => Q (.obj S.length) (S ++ [if t then .dT [] else .dK []])

/-! ### methods of built-in types -/
def isTupD : D → Bool
  | .tup _ => true
  | _ => false
def gBM (T : String) (r : D → List D → SS → GQ → Prop) (t : GE) (u : GA) : GE := fun σ S Q => t σ S fun x S1 => (isTupD x = false ∧ tyD S1 x = some (.inl T)) ∧ u σ S1 fun ds S2 => r x ds S2 Q
def mAppend : D → List D → SS → GQ → Prop := fun x ds S Q => match x, ds with
  | .obj k, [d] => (match S[k]? with
    | some (.lst es) => es.length < 16777216 ∧ Q .non (S.set k (.lst (es ++ [d])))
    | _ => False)
  | _, _ => False
def mPop : D → List D → SS → GQ → Prop := fun x ds S Q => match x, ds with
  | .obj k, [] => (match S[k]? with
    | some (.lst es) => (match es[es.length - 1]? with
      | some d => Q d (S.set k (.lst es.dropLast))
      | none => False)
    | _ => False)
  | _, _ => False
def mPopAt : D → List D → SS → GQ → Prop := fun x ds S Q => match x, ds with
  | .obj k, [.int i] => (match S[k]? with
    | some (.lst es) => (0 ≤ i ∧ i < 2 ^ 62) ∧ (match es[i.toNat]? with
      | some d => Q d (S.set k (.lst (es.eraseIdx i.toNat)))
      | none => False)
    | _ => False)
  | _, _ => False
/-- list.index by data -/
def mIndex : D → List D → SS → GQ → Prop := fun x ds S Q => match ds with
  | [d] => ∃ p ps j q, toP S 8 d = some p ∧ toP S 8 x = some (.list ps) ∧ SeqAt.shaped p = true ∧ SeqAt.shaped (.list ps) = true ∧ ps[j]? = some q ∧ PyData.eqv q p = true ∧ (∀ (m : Nat) z, m < j → ps[m]? = some z → PyData.eqv z p = false) ∧ Q (.int (j : Nat)) S
  | _ => False
/-- in, not in a list by data -/
def oInD (neg : Bool) : GO2 := fun x y S Q => ∃ p ps, toP S 8 x = some p ∧ toP S 8 y = some (.list ps) ∧ SeqAt.shaped p = true ∧ SeqAt.shaped (.list ps) = true ∧ Q (.bl (if neg then !(ps.any fun z => PyData.eqv z p) else ps.any fun z => PyData.eqv z p)) S
/-- one sign in a text -/
def oInS (neg : Bool) : GO2 := fun x y S Q => match x, y with
  | .str ⟨⟨[c]⟩⟩, .str z => Q (.bl (if neg then !decide (c ∈ z.cps.toList) else decide (c ∈ z.cps.toList))) S
  | _, _ => False
/-- xs * n -/
def oRep : GO2 := fun x y S Q => match x, y with
  | .obj k, .int n => (match S[k]? with
    | some (.lst es) => (-(2 ^ 62) ≤ n ∧ n < 2 ^ 62) ∧ es.length * n.toNat ≤ 16777216 ∧ Q (.obj S.length) (S ++ [.lst (List.replicate n.toNat es).flatten])
    | _ => False)
  | _, _ => False
/-- tables by class, for promises -/
def tbs (l : List (Addr × GSp)) : Addr → Option GSp := fun C => l.lookup C
/-- isinstance(·, C), C an own class -/
def isiO (isC : Addr → Addr → Option Bool) (T : Addr) : String ⊕ Addr → Option Bool
  | .inl n => if n ∈ (["NoneType", "int", "bool", "tuple", "str", "list", "dict"] : List String) then some false else none
  | .inr C => isC C T

/-! ### the classes -/
structure CA where
  (BadExpression BadFloor BadFraction BadMatrix BadNumber BadPlace BadRule BadText BadWord Common Conjugated Group LevelFull LevelOne LevelZero LimitError MatrixError NotMember NothingToUndo Rehearsal Rule TooLong TooMany Tracker Turn WalkError Walker : Addr)
  own : Addr → Bool
  isC : Addr → Addr → Option Bool
def oks (l : List Addr) : Addr → Prop := fun C => C ∈ l
/-- what may stand on the right of == -/
def okK (c : CA) (C : Addr) : String ⊕ Addr → Bool
  | .inl n => (["NoneType", "int", "bool", "tuple", "str", "list", "dict"] : List String).contains n
  | .inr D => C == D
theorem okK_own {c : CA} {C D : Addr} (h : okK c C (.inr D) = true) : D = C := by
  simp only [okK, beq_iff_eq] at h
  exact h.symm
theorem okK_ty {c : CA} {C : Addr} {n : String} (h : okK c C (.inl n) = true) : n ∈ (["NoneType", "int", "bool", "tuple", "str", "list", "dict"] : List String) := by
  simpa [okK] using h
theorem tbs1 {a C : Addr} {s sp : GSp} (h : tbs [(a, s)] C = some sp) : C = a := by
  simp only [tbs, List.lookup] at h
  split at h
  · rename_i e; exact eq_of_beq e
  · cases h
theorem tbs1s {a C : Addr} {s sp : GSp} (h : tbs [(a, s)] C = some sp) : C = a ∧ s = sp := by
  refine ⟨tbs1 h, ?_⟩
  simp only [tbs, List.lookup] at h
  split at h
  · cases h; rfl
  · cases h
/-! ### promises of so many arguments -/
def sp1 (f : D → SS → GQ → GX → Prop) : GSp := fun ds S Q X => match ds with
  | [a] => f a S Q X
  | _ => False
def sp2 (f : D → D → SS → GQ → GX → Prop) : GSp := fun ds S Q X => match ds with
  | [a, b] => f a b S Q X
  | _ => False
def sp3 (f : D → D → D → SS → GQ → GX → Prop) : GSp := fun ds S Q X => match ds with
  | [a, b, d] => f a b d S Q X
  | _ => False
theorem sp1_len {f : D → SS → GQ → GX → Prop} (ds : List D) (S : SS) (Q : GQ) (X : GX) (h : sp1 f ds S Q X) : ds.length = 1 := by
  unfold sp1 at h; split at h
  · rfl
  · exact h.elim
theorem sp2_len {f : D → D → SS → GQ → GX → Prop} (ds : List D) (S : SS) (Q : GQ) (X : GX) (h : sp2 f ds S Q X) : ds.length = 2 := by
  unfold sp2 at h; split at h
  · rfl
  · exact h.elim
theorem sp3_len {f : D → D → D → SS → GQ → GX → Prop} (ds : List D) (S : SS) (Q : GQ) (X : GX) (h : sp3 f ds S Q X) : ds.length = 3 := by
  unfold sp3 at h; split at h
  · rfl
  · exact h.elim
theorem sp1_b {f : D → SS → GQ → GX → Prop} {P : List D → Prop} {ds : List D} {S : SS} {Q : GQ} {X : GX} (h : sp1 f ds S Q X) (k : ∀ a, f a S Q X → P [a]) : P ds := by
  unfold sp1 at h; split at h
  · exact k _ h
  · exact h.elim
theorem sp2_b {f : D → D → SS → GQ → GX → Prop} {P : List D → Prop} {ds : List D} {S : SS} {Q : GQ} {X : GX} (h : sp2 f ds S Q X) (k : ∀ a b, f a b S Q X → P [a, b]) : P ds := by
  unfold sp2 at h; split at h
  · exact k _ _ h
  · exact h.elim
theorem sp3_b {f : D → D → D → SS → GQ → GX → Prop} {P : List D → Prop} {ds : List D} {S : SS} {Q : GQ} {X : GX} (h : sp3 f ds S Q X) (k : ∀ a b d, f a b d S Q X → P [a, b, d]) : P ds := by
  unfold sp3 at h; split at h
  · exact k _ _ _ h
  · exact h.elim

/-! ### the end of a def: what was made within may be forgotten -/
mutual
def dLow (n : Nat) : D → Bool
  | .obj k => decide (k < n)
  | .tup ds => dLowAll n ds
  | .rol ds => dLowAll n ds
  | _ => true
def dLowAll (n : Nat) : List D → Bool
  | [] => true
  | d :: ds => dLow n d && dLowAll n ds
end
def oLow (n : Nat) : GO → Bool
  | .lst ds => dLowAll n ds
  | .dK kvs => kvs.all fun p => dLow n p.2
  | .dT kvs => kvs.all fun p => dLow n p.2
  | .ins _ fs => fs.all fun p => dLow n p.2
  | .exc _ fs => fs.all fun p => dLow n p.2
/-- from S' the objects behind the first m are forgotten -/
def CutOk (m : Nat) (S S' : SS) : Prop := S.length ≤ m ∧ ∀ k o, k < m → S'[k]? = some o → S[k]? = some o ∨ oLow m o = true
def gCut (S : SS) (Q : GQ) : GQ := fun d S' => Q d S' ∨ ∃ m, CutOk m S S' ∧ dLow m d = true ∧ Q d (S'.take m)
def gCutX (S : SS) (X : GX) : GX := fun C fs S' => X C fs S' ∨ ∃ m, CutOk m S S' ∧ (fs.all fun p => dLow m p.2) = true ∧ X C fs (S'.take m)
theorem cutOk_app {S L : SS} : CutOk S.length S (S ++ L) :=
  ⟨Nat.le_refl _, fun k o h e => .inl (by rw [List.getElem?_append_left h] at e; exact e)⟩
/-- nothing that stood before was changed -/
theorem cut_app {S L : SS} {Q : GQ} {d : D} (hd : dLow S.length d = true) (h : Q d S) : gCut S Q d (S ++ L) :=
  .inr ⟨S.length, cutOk_app, hd, by rw [List.take_left' rfl]; exact h⟩
theorem cut_same {S S' : SS} {Q : GQ} {d : D} (h : Q d S') : gCut S Q d S' := .inl h
theorem cutOk_set {S L : SS} {k : Nat} {o : GO} (ho : oLow S.length o = true) : CutOk S.length S (S.set k o ++ L) := by
  refine ⟨Nat.le_refl _, fun j u h e => ?_⟩
  rw [List.getElem?_append_left (by simpa using h)] at e
  by_cases hk : k = j
  · subst hk
    rw [List.getElem?_set_self h] at e
    cases e
    exact .inr ho
  · rw [List.getElem?_set_ne hk] at e
    exact .inl e
/-- the object at k was changed -/
theorem cut_set {S L : SS} {Q : GQ} {d : D} {k : Nat} {o : GO} (ho : oLow S.length o = true) (hd : dLow S.length d = true) (h : Q d (S.set k o)) : gCut S Q d (S.set k o ++ L) :=
  .inr ⟨S.length, cutOk_set ho, hd, by rw [List.take_left' (by simp)]; exact h⟩
/-- what a body is asked -/
def Body (b : (Sl → GX) → GS) (N : List Str) (ds : List D) (S : SS) (Q : GQ) (G : GX) : Prop :=
  b (fun _ => gCutX S G) ⟨fun _ S' => gCut S Q .non S', gCut S Q, fun _ _ => False, fun _ _ => False⟩ (ds.map some ++ List.replicate (N.length - ds.length) none) S
theorem body1 {f : D → SS → GQ → GX → Prop} {b : (Sl → GX) → GS} {N : List Str} {ds : List D} {S : SS} {Q : GQ} {X : GX} (h : sp1 f ds S Q X) (k : ∀ a, f a S Q X → Body b N [a] S Q X) : Body b N ds S Q X := sp1_b (P := fun ds => Body b N ds S Q X) h k
theorem body2 {f : D → D → SS → GQ → GX → Prop} {b : (Sl → GX) → GS} {N : List Str} {ds : List D} {S : SS} {Q : GQ} {X : GX} (h : sp2 f ds S Q X) (k : ∀ a a', f a a' S Q X → Body b N [a, a'] S Q X) : Body b N ds S Q X := sp2_b (P := fun ds => Body b N ds S Q X) h k
theorem body3 {f : D → D → D → SS → GQ → GX → Prop} {b : (Sl → GX) → GS} {N : List Str} {ds : List D} {S : SS} {Q : GQ} {X : GX} (h : sp3 f ds S Q X) (k : ∀ a a' a'', f a a' a'' S Q X → Body b N [a, a', a''] S Q X) : Body b N ds S Q X := sp3_b (P := fun ds => Body b N ds S Q X) h k
end Gh

/-! Gl: the ghost readings lifted over the hand layer's rules. -/
namespace Gh
open PySem PySem.Spec PyProof.Rows L2

/-! ### the relation -/
/-- an exception's object, kept: its class, its dict -/
def exK (cls : Value) (d : Option Addr) (a : Addr) : HO := .ext fun h => ∃ oe vs, h.get? a = some oe ∧ Zc cls d oe ∧ oe.data = .fields vs
theorem exK_ok {P : Program} {w : World} {H : Hp} {h : Heap} {a : Addr} {cls : Value} {d : Option Addr} {oe : Obj} {vs : Array Value} (e : h.get? a = some oe) (z : Zc cls d oe) (dd : oe.data = .fields vs) : ObjOk P w H h a (exK cls d a) :=
  ⟨⟨oe, vs, e, z, dd⟩, ⟨oe, e⟩, fun _ _ ⟨o, v, q, r⟩ k => ⟨o, v, k o q, r⟩⟩

/-- a list that is only read -/
def RoL (K : PySem.W.Frag) (H : Hp) (a : Addr) (vs : List V) : Prop := SqL K H a vs ∧ ∀ H' : Hp, (∀ b o u, H b = some (.frz o u) → H' b = some (.frz o u)) → SqL K H' a vs
mutual
inductive VR (K : PySem.W.Frag) (η : List Addr) (H : Hp) : D → V → Prop
  | non : VR K η H .non .non
  | bl (b : Bool) : VR K η H (.bl b) (.bl b)
  | int (i : Int) : VR K η H (.int i) (.int i)
  | str (x : Str) : VR K η H (.str x) (.str x)
  | tup {ds : List D} {a : Addr} {vs : List V} : SqT K H a vs → VRs K η H ds vs → VR K η H (.tup ds) (.ref a)
  | rol {ds : List D} {a : Addr} {vs : List V} : RoL K H a vs → VRs K η H ds vs → VR K η H (.rol ds) (.ref a)
  | obj {k : Nat} {a : Addr} : η[k]? = some a → VR K η H (.obj k) (.ref a)
  | ref (a : Addr) : VR K η H (.ref a) (.ref a)
  | ty (n : String) : VR K η H (.ty n) (.ty n)
inductive VRs (K : PySem.W.Frag) (η : List Addr) (H : Hp) : List D → List V → Prop
  | nil : VRs K η H [] []
  | cons {d : D} {ds : List D} {v : V} {vs : List V} : VR K η H d v → VRs K η H ds vs → VRs K η H (d :: ds) (v :: vs)
end
/-- fields, entries -/
def FR (K : PySem.W.Frag) (η : List Addr) (H : Hp) (fs : List (Str × D)) (us : List (Str × V)) : Prop := Paired (fun (p : Str × D) (q : Str × V) => p.1 = q.1 ∧ VR K η H p.2 q.2) fs us
/-- what an exception bears -/
def PayR (K : PySem.W.Frag) (η : List Addr) (H : Hp) (fs : List (Str × D)) (dd : Option Addr) : Prop := (fs = [] ∧ dd = none) ∨ ∃ a us, dd = some a ∧ H a = some (.xd us) ∧ FR K η H fs us
def keyD : Key → D
  | .inl i => .int i
  | .inr x => .str x
def ORel (K : PySem.W.Frag) (η : List Addr) (H : Hp) (a : Addr) : GO → Prop
  | .lst ds => ∃ vs, H a = some (.lst vs) ∧ VRs K η H ds vs
  | .dK kvs => ∃ us : List (Key × V), H a = some (.dK us) ∧ Paired (fun (p : GKey × D) (q : Key × V) => p.1 = q.1 ∧ VR K η H p.2 q.2) kvs us
  | .dT kvs => ∃ us : List (List Key × V), H a = some (.dT us) ∧ Paired (fun (p : List GKey × D) (q : List Key × V) => p.1 = q.1 ∧ VR K η H p.2 q.2) kvs us
  | .ins C fs => ∃ dx us, H a = some (.ins C dx us) ∧ FR K η H fs us
  | .exc C fs => ∃ d, H a = some (exK (.ref C) d a) ∧ PayR K η H fs d
/-- the tables of code objects of those defs that hold a lambda -/
class TabsC where
  tt : PySem.W.Frag → List (Addr × Str)
variable [TabsC]
structure GR (K : PySem.W.Frag) (η : List Addr) (S : SS) (H : Hp) : Prop where
  len : η.length = S.length
  nd : η.Nodup
  at_ : ∀ (k : Nat) (a : Addr) (o : GO), η[k]? = some a → S[k]? = some o → ORel K η H a o
  tb : LamX.Tabs (TabsC.tt K) H
/-- slots -/
def SlR1 (K : PySem.W.Frag) (η : List Addr) (H : Hp) : Option D → Option V → Prop
  | none, _ => True
  | some d, some v => VR K η H d v
  | some _, none => False
def SR (K : PySem.W.Frag) (η : List Addr) (H : Hp) (σ : Sl) (τ : L2.St) : Prop := Paired (SlR1 K η H) σ τ
/-- tuples and locked things stay, addresses are added -/
structure Grow (η : List Addr) (H : Hp) (η' : List Addr) (H' : Hp) : Prop where
  pre : ∃ e, η' = η ++ e
  tups : ∀ b xs, H b = some (.tup xs) → H' b = some (.tup xs)
  frzs : ∀ b o u, H b = some (.frz o u) → H' b = some (.frz o u)
  xds : ∀ b us, H b = some (.xd us) → H' b = some (.xd us)
  cods : ∀ b q, H b = some (LamX.CodeO b q) → H' b = some (LamX.CodeO b q)

section
variable {K : PySem.W.Frag} {η η' η1 η2 : List Addr} {H H' H1 H2 : Hp}
theorem Grow.refl : Grow η H η H := ⟨⟨[], by simp⟩, fun _ _ e => e, fun _ _ _ e => e, fun _ _ e => e, fun _ _ e => e⟩
theorem Grow.trans (a : Grow η H η1 H1) (b : Grow η1 H1 η2 H2) : Grow η H η2 H2 :=
  ⟨by obtain ⟨e, h⟩ := a.pre; obtain ⟨e', h'⟩ := b.pre; exact ⟨e ++ e', by rw [h', h, List.append_assoc]⟩,
    fun b' xs e => b.tups b' xs (a.tups b' xs e), fun b' o u e => b.frzs b' o u (a.frzs b' o u e), fun b' us e => b.xds b' us (a.xds b' us e), fun b' us e => b.cods b' us (a.cods b' us e)⟩
theorem Grow.get (g : Grow η H η' H') {k : Nat} {a : Addr} (e : η[k]? = some a) : η'[k]? = some a := by
  obtain ⟨x, h⟩ := g.pre
  rw [h, List.getElem?_append_left (List.getElem?_eq_some_iff.mp e).1]
  exact e
theorem Grow.sqT (g : Grow η H η' H') {a : Addr} {vs : List V} (h : SqT K H a vs) : SqT K H' a vs := by
  rcases h with h | h
  · rcases h with h | ⟨o, h⟩
    · exact .inl (.inl (g.tups _ _ h))
    · exact .inl (.inr ⟨o, g.frzs _ _ _ h⟩)
  · exact .inr h
theorem RoL.grow (g : Grow η H η' H') {a : Addr} {vs : List V} (h : RoL K H a vs) : RoL K H' a vs :=
  ⟨h.2 H' g.frzs, fun H2 f => h.2 H2 fun b o u e => f b o u (g.frzs b o u e)⟩
mutual
theorem VR.grow (g : Grow η H η' H') : ∀ {d : D} {v : V}, VR K η H d v → VR K η' H' d v
  | _, _, .non => .non
  | _, _, .bl b => .bl b
  | _, _, .int i => .int i
  | _, _, .str x => .str x
  | _, _, .tup h r => .tup (g.sqT h) (VRs.grow g r)
  | _, _, .rol h r => .rol (h.grow g) (VRs.grow g r)
  | _, _, .obj e => .obj (g.get e)
  | _, _, .ref a => .ref a
  | _, _, .ty n => .ty n
theorem VRs.grow (g : Grow η H η' H') : ∀ {ds : List D} {vs : List V}, VRs K η H ds vs → VRs K η' H' ds vs
  | _, _, .nil => .nil
  | _, _, .cons h r => .cons (VR.grow g h) (VRs.grow g r)
end
theorem VRs.length : ∀ {ds : List D} {vs : List V}, VRs K η H ds vs → ds.length = vs.length
  | _, _, .nil => rfl
  | _, _, .cons _ r => congrArg (· + 1) (VRs.length r)
theorem VRs.append : ∀ {ds es : List D} {vs us : List V}, VRs K η H ds vs → VRs K η H es us → VRs K η H (ds ++ es) (vs ++ us)
  | _, _, _, _, .nil, s => s
  | _, _, _, _, .cons h r, s => .cons h (VRs.append r s)
theorem VRs.get : ∀ {ds : List D} {vs : List V} {i : Nat} {d : D}, VRs K η H ds vs → ds[i]? = some d → ∃ v, vs[i]? = some v ∧ VR K η H d v
  | _, _, i, _, .nil, e => by simp at e
  | _, _, 0, _, .cons h _, e => by simp at e; subst e; exact ⟨_, rfl, h⟩
  | _, _, i + 1, _, .cons _ r, e => by
    obtain ⟨v, h1, h2⟩ := VRs.get (i := i) r (by simpa using e)
    exact ⟨v, by simpa using h1, h2⟩
theorem VRs.set : ∀ {ds : List D} {vs : List V} {d : D} {v : V} (i : Nat), VRs K η H ds vs → VR K η H d v → VRs K η H (ds.set i d) (vs.set i v)
  | _, _, _, _, _, .nil, _ => .nil
  | _, _, _, _, 0, .cons _ r, h => .cons h r
  | _, _, _, _, i + 1, .cons q r, h => .cons q (VRs.set i r h)
theorem Paired.grow {α β : Type} {F G : α → β → Prop} : ∀ {l : List α} {m : List β}, Paired F l m → (∀ a b, F a b → G a b) → Paired G l m
  | _, _, .nil, _ => .nil
  | _, _, .cons h r, f => .cons (f _ _ h) (Paired.grow r f)
theorem SR.grow (g : Grow η H η' H') {σ : Sl} {τ : L2.St} (h : SR K η H σ τ) : SR K η' H' σ τ := Paired.grow h fun a b r => by
  cases a with
  | none => trivial
  | some d => cases b with
    | none => exact r
    | some v => exact VR.grow g r
theorem Paired.getP {α β : Type} {F : α → β → Prop} : ∀ {l : List α} {m : List β} {i : Nat} {a : α}, Paired F l m → l[i]? = some a → ∃ b, m[i]? = some b ∧ F a b
  | _, _, i, _, .nil, e => by simp at e
  | _, _, 0, _, .cons h _, e => by simp at e; subst e; exact ⟨_, rfl, h⟩
  | _, _, i + 1, _, .cons _ r, e => by
    obtain ⟨b, h1, h2⟩ := Paired.getP (i := i) r (by simpa using e)
    exact ⟨b, by simpa using h1, h2⟩
theorem Paired.setP {α β : Type} {F : α → β → Prop} {a : α} {b : β} (h : F a b) : ∀ {l : List α} {m : List β} (i : Nat), Paired F l m → Paired F (l.set i a) (m.set i b)
  | _, _, _, .nil => .nil
  | _, _, 0, .cons _ r => .cons h r
  | _, _, i + 1, .cons q r => .cons q (Paired.setP h i r)
theorem SR.get {σ : Sl} {τ : L2.St} {i : Nat} {d : D} (h : SR K η H σ τ) (e : σ[i]? = some (some d)) : ∃ v, τ[i]? = some (some v) ∧ VR K η H d v := by
  obtain ⟨b, h1, h2⟩ := Paired.getP h e
  cases b with
  | none => exact h2.elim
  | some v => exact ⟨v, h1, h2⟩
theorem SR.set {σ : Sl} {τ : L2.St} {d : D} {v : V} (h : SR K η H σ τ) (i : Nat) (r : VR K η H d v) : SR K η H (σ.set i (some d)) (τ.set i (some v)) := Paired.setP (F := SlR1 K η H) (a := some d) (b := some v) r i h
theorem SR.wipe {σ : Sl} {τ : L2.St} {v : Option V} (h : SR K η H σ τ) (i : Nat) : SR K η H (σ.set i none) (τ.set i v) := Paired.setP (F := SlR1 K η H) (a := none) (b := v) trivial i h

theorem ORel.grow (g : Grow η H η' H') {a : Addr} {o : GO} (h : ORel K η H a o) (e : H' a = H a) : ORel K η' H' a o := by
  cases o with
  | lst ds => obtain ⟨vs, h1, h2⟩ := h; exact ⟨vs, e.trans h1, VRs.grow g h2⟩
  | dK kvs => obtain ⟨us, h1, h2⟩ := h; exact ⟨us, e.trans h1, Paired.grow h2 fun _ _ r => ⟨r.1, VR.grow g r.2⟩⟩
  | dT kvs => obtain ⟨us, h1, h2⟩ := h; exact ⟨us, e.trans h1, Paired.grow h2 fun _ _ r => ⟨r.1, VR.grow g r.2⟩⟩
  | ins C fs => obtain ⟨dx, us, h1, h2⟩ := h; exact ⟨dx, us, e.trans h1, Paired.grow h2 fun _ _ r => ⟨r.1, VR.grow g r.2⟩⟩
  | exc C fs =>
    obtain ⟨d, h1, h2⟩ := h
    refine ⟨d, e.trans h1, ?_⟩
    rcases h2 with h2 | ⟨dd, us, h2, h3, h4⟩
    · exact .inl h2
    · exact .inr ⟨dd, us, h2, g.xds _ _ h3, Paired.grow h4 fun _ _ r => ⟨r.1, VR.grow g r.2⟩⟩
def plainO : HO → Prop
  | .tup _ | .frz _ _ | .xd _ => False
  | _ => True
theorem ORel.some {a : Addr} {o : GO} (h : ORel K η H a o) : ∃ u, H a = some u ∧ plainO u := by
  cases o with
  | lst ds => obtain ⟨vs, h1, h2⟩ := h; exact ⟨_, h1, trivial⟩
  | dK kvs => obtain ⟨us, h1, h2⟩ := h; exact ⟨_, h1, trivial⟩
  | dT kvs => obtain ⟨us, h1, h2⟩ := h; exact ⟨_, h1, trivial⟩
  | ins C fs => obtain ⟨dx, us, h1, h2⟩ := h; exact ⟨_, h1, trivial⟩
  | exc C fs => obtain ⟨d, h1, _⟩ := h; exact ⟨_, h1, trivial⟩
theorem ORel.noTab {a : Addr} {o : GO} (h : ORel K η H a o) : ∃ u, H a = Option.some u ∧ ∀ ps, u ≠ HO.tbl ps := by
  cases o with
  | lst ds => obtain ⟨vs, h1, h2⟩ := h; exact ⟨_, h1, (fun _ z => nomatch z)⟩
  | dK kvs => obtain ⟨us, h1, h2⟩ := h; exact ⟨_, h1, (fun _ z => nomatch z)⟩
  | dT kvs => obtain ⟨us, h1, h2⟩ := h; exact ⟨_, h1, (fun _ z => nomatch z)⟩
  | ins C fs => obtain ⟨dx, us, h1, h2⟩ := h; exact ⟨_, h1, (fun _ z => nomatch z)⟩
  | exc C fs => obtain ⟨d, h1, _⟩ := h; exact ⟨_, h1, (fun _ z => nomatch z)⟩
section
variable {S : SS}
theorem GR.have (g : GR K η S H) {k : Nat} {o : GO} (e : S[k]? = some o) : ∃ a, η[k]? = some a ∧ ORel K η H a o := by
  have hk : k < η.length := by rw [g.len]; exact (List.getElem?_eq_some_iff.mp e).1
  exact ⟨η[k], List.getElem?_eq_getElem hk, g.at_ k _ o (List.getElem?_eq_getElem hk) e⟩
theorem GR.obj (g : GR K η S H) {k : Nat} {a : Addr} {o : GO} (e : η[k]? = some a) (h : S[k]? = some o) : ORel K η H a o := g.at_ k a o e h
theorem GR.mem (g : GR K η S H) {a : Addr} (h : a ∈ η) : ∃ u, H a = some u ∧ plainO u := by
  obtain ⟨k, hk, e⟩ := List.getElem_of_mem h
  have e1 : η[k]? = some a := by rw [List.getElem?_eq_getElem hk, e]
  exact (g.at_ k a _ e1 (List.getElem?_eq_getElem (by rw [← g.len]; exact hk))).some
/-- a new thing that is not of the store -/
theorem grow_new {p : Addr} {o : HO} (h : H p = none) : Grow η H η (upd H p o) :=
  ⟨⟨[], by simp⟩, fun b xs e => by rw [upd_ne (ne_of_none e h)]; exact e, fun b o u e => by rw [upd_ne (ne_of_none e h)]; exact e, fun b us e => by rw [upd_ne (ne_of_none e h)]; exact e, fun b us e => by rw [upd_ne (ne_of_none e h)]; exact e⟩
theorem GR.new (g : GR K η S H) {p : Addr} {o : HO} (h : H p = none) : GR K η S (upd H p o) := by
  refine ⟨g.len, g.nd, fun k a u e1 e2 => ?_, g.tb.ext fun b u e => by rw [upd_ne (ne_of_none e h)]; exact e⟩
  have r := g.at_ k a u e1 e2
  obtain ⟨v, hv, _⟩ := r.some
  exact r.grow (grow_new h) (upd_ne (ne_of_none hv h))
/-- a new object of the store -/
theorem grow_push {p : Addr} {o : HO} (h : H p = none) : Grow η H (η ++ [p]) (upd H p o) :=
  ⟨⟨[p], rfl⟩, (grow_new (η := η) h).tups, (grow_new (η := η) h).frzs, (grow_new (η := η) h).xds, (grow_new (η := η) h).cods⟩
theorem GR.push (g : GR K η S H) {p : Addr} {o : HO} {u : GO} (h : H p = none) (r : ORel K (η ++ [p]) (upd H p o) p u) : GR K (η ++ [p]) (S ++ [u]) (upd H p o) := by
  have np : p ∉ η := fun z => by obtain ⟨v, hv, _⟩ := g.mem z; rw [h] at hv; cases hv
  refine ⟨by simp [g.len], ?_, fun k a w e1 e2 => ?_, g.tb.ext fun b u e => by rw [upd_ne (ne_of_none e h)]; exact e⟩
  · rw [List.nodup_append]
    refine ⟨g.nd, by simp, fun x hx y hy => ?_⟩
    have e : y = p := by simpa using hy
    subst e
    intro z
    exact np (z ▸ hx)
  · by_cases hk : k < η.length
    · rw [List.getElem?_append_left hk] at e1
      rw [List.getElem?_append_left (by rw [← g.len]; exact hk)] at e2
      have q := g.at_ k a w e1 e2
      obtain ⟨v, hv, _⟩ := q.some
      exact q.grow (grow_push h) (upd_ne (ne_of_none hv h))
    · have hk2 : k = η.length := by
        have := (List.getElem?_eq_some_iff.mp e1).1
        simp at this
        omega
      subst hk2
      simp at e1
      rw [g.len] at e2
      simp at e2
      subst e1
      subst e2
      exact r
theorem nodup_get {l : List Addr} (h : l.Nodup) {i j : Nat} {a : Addr} (e1 : l[i]? = some a) (e2 : l[j]? = some a) : i = j := by
  obtain ⟨h1, r1⟩ := List.getElem?_eq_some_iff.mp e1
  obtain ⟨h2, r2⟩ := List.getElem?_eq_some_iff.mp e2
  exact (List.getElem_inj h).mp (r1.trans r2.symm)
/-- an object of the store is changed -/
theorem GR.growSet (g : GR K η S H) {k : Nat} {a : Addr} (e : η[k]? = some a) (nx : (∀ f, H a ≠ some (.ext f)) ∧ ∀ ps, H a ≠ some (.tbl ps)) {o : HO} : Grow η H η (upd H a o) := by
  obtain ⟨v, hv, h1⟩ := g.mem (List.mem_of_getElem? e)
  have ne : ∀ {b : Addr} {u : HO}, H b = some u → ¬ plainO u → b ≠ a := by
    rintro b u q n rfl
    rw [hv] at q
    exact n (Option.some.inj q ▸ h1)
  exact ⟨⟨[], by simp⟩, fun b xs q => by rw [upd_ne (ne q id)]; exact q, fun b ob u q => by rw [upd_ne (ne q id)]; exact q, fun b us q => by rw [upd_ne (ne q id)]; exact q, fun b us q => by rw [upd_ne fun z => nx.1 _ (z ▸ q)]; exact q⟩
theorem tabs_set {T : List (Addr × Str)} {a : Addr} {o : HO} (t : LamX.Tabs T H) (nx : (∀ f, H a ≠ some (.ext f)) ∧ ∀ ps, H a ≠ some (.tbl ps)) : LamX.Tabs T (upd H a o) := fun p hp => by
  obtain ⟨ps, h1, h2, h3⟩ := t p hp
  refine ⟨ps, by rw [upd_ne fun z => nx.2 _ (z ▸ h1)]; exact h1, h2, fun pos cv hc => ?_⟩
  obtain ⟨c, e1, e2⟩ := h3 pos cv hc
  exact ⟨c, e1, by rw [upd_ne fun z => nx.1 _ (z ▸ e2)]; exact e2⟩
theorem GR.set (g : GR K η S H) {k : Nat} {a : Addr} (e : η[k]? = some a) (nx : (∀ f, H a ≠ some (.ext f)) ∧ ∀ ps, H a ≠ some (.tbl ps)) {o : HO} {u : GO} (r : ORel K η (upd H a o) a u) : GR K η (S.set k u) (upd H a o) := by
  refine ⟨by simp [g.len], g.nd, fun j b w e1 e2 => ?_, tabs_set g.tb nx⟩
  by_cases hj : k = j
  · subst hj
    rw [e] at e1
    cases e1
    rw [List.getElem?_set_self (by rw [← g.len]; exact (List.getElem?_eq_some_iff.mp e).1)] at e2
    cases e2
    exact r
  · rw [List.getElem?_set_ne hj] at e2
    have nb : b ≠ a := fun z => hj (nodup_get g.nd e (z ▸ e1))
    exact (g.at_ j b w e1 e2).grow (g.growSet e nx) (upd_ne nb)
end
end

/-- slots, and all that was there at the entry B -/
abbrev Bs := List Addr × Hp
structure SG (K : PySem.W.Frag) (B : Bs) (η : List Addr) (H : Hp) (σ : Sl) (τ : L2.St) : Prop where
  up : Grow B.1 B.2 η H
  sr : SR K η H σ τ
section
variable {K : PySem.W.Frag} {B : Bs} {η η' : List Addr} {H H' : Hp} {σ : Sl} {τ : L2.St}
theorem SG.grow (s : SG K B η H σ τ) (g : Grow η H η' H') : SG K B η' H' σ τ := ⟨s.up.trans g, s.sr.grow g⟩
theorem SG.get {i : Nat} {d : D} (s : SG K B η H σ τ) (e : σ[i]? = some (some d)) : ∃ v, τ[i]? = some (some v) ∧ VR K η H d v := s.sr.get e
theorem SG.set {d : D} {v : V} (s : SG K B η H σ τ) (i : Nat) (r : VR K η H d v) : SG K B η H (σ.set i (some d)) (τ.set i (some v)) := ⟨s.up, s.sr.set i r⟩
theorem SG.wipe {v : Option V} (s : SG K B η H σ τ) (i : Nat) : SG K B η H (σ.set i none) (τ.set i v) := ⟨s.up, s.sr.wipe i⟩
end

/-! ### lifted readings -/
def Ko (K : PySem.W.Frag) (η : List Addr) (H : Hp) (R : GQ) (Q : VK) : Prop := ∀ d S' η' H' v, R d S' → Grow η H η' H' → GR K η' S' H' → VR K η' H' d v → Q v H'
theorem Ko.grow {K : PySem.W.Frag} {η η' : List Addr} {H H' : Hp} {R : GQ} {Q : VK} (k : Ko K η H R Q) (g : Grow η H η' H') : Ko K η' H' R Q := fun d S' η2 H2 v h g2 => k d S' η2 H2 v h (g.trans g2)
def LE (K : PySem.W.Frag) (B : Bs) (t : GE) : TE := fun τ H Q => ∃ η S σ R, SG K B η H σ τ ∧ GR K η S H ∧ t σ S R ∧ Ko K η H R Q
def LT (K : PySem.W.Frag) (B : Bs) (t : GT) : TT := fun τ H Q => ∃ η S σ R, SG K B η H σ τ ∧ GR K η S H ∧ t σ S R ∧ ∀ b S' η' H', R b S' → Grow η H η' H' → GR K η' S' H' → Q b H'
def LA (K : PySem.W.Frag) (B : Bs) (t : GA) : TA := fun τ H Q => ∃ η S σ R, SG K B η H σ τ ∧ GR K η S H ∧ t σ S R ∧ ∀ ds S' η' H' vs, R ds S' → Grow η H η' H' → GR K η' S' H' → VRs K η' H' ds vs → Q vs H'
def LO2 (K : PySem.W.Frag) (o : GO2) : R2 := fun x y H Q => ∃ η S d e R, GR K η S H ∧ VR K η H d x ∧ VR K η H e y ∧ o d e S R ∧ Ko K η H R Q
def LO1 (K : PySem.W.Frag) (o : GO1) : V → Hp → VK → Prop := fun x H Q => ∃ η S d R, GR K η S H ∧ VR K η H d x ∧ o d S R ∧ Ko K η H R Q
def LC (K : PySem.W.Frag) (c : GC) : List V → Hp → VK → Prop := fun xs H Q => ∃ η S ds R, GR K η S H ∧ VRs K η H ds xs ∧ c ds S R ∧ Ko K η H R Q
def KoX (K : PySem.W.Frag) (η : List Addr) (H : Hp) (G : GX) (E : XK) : Prop := ∀ C fs S' η' H' dd, G C fs S' → Grow η H η' H' → GR K η' S' H' → PayR K η' H' fs dd → E (.ref C) dd H'
def LSp (K : PySem.W.Frag) (sp : GSp) : Sp := fun vs H Q E => ∃ η S ds R G, GR K η S H ∧ VRs K η H ds vs ∧ sp ds S R G ∧ Ko K η H R Q ∧ KoX K η H G E
def LX (K : PySem.W.Frag) (B : Bs) (X : Sl → GX) : WX := fun cls dd τ H => ∃ C fs η S σ, cls = .ref C ∧ SG K B η H σ τ ∧ GR K η S H ∧ PayR K η H fs dd ∧ X σ C fs S
structure KoS (K : PySem.W.Frag) (B : Bs) (η : List Addr) (H : Hp) (G : GEnds) (D : Ends) : Prop where
  nx : ∀ σ' S' η' H' τ', G.nx σ' S' → Grow η H η' H' → SG K B η' H' σ' τ' → GR K η' S' H' → D.nx τ' H'
  rt : Ko K η H G.rt D.rt
  bk : ∀ σ' S' η' H' τ', G.bk σ' S' → Grow η H η' H' → SG K B η' H' σ' τ' → GR K η' S' H' → D.bk τ' H'
  ct : ∀ σ' S' η' H' τ', G.ct σ' S' → Grow η H η' H' → SG K B η' H' σ' τ' → GR K η' S' H' → D.ct τ' H'
theorem KoS.grow {K : PySem.W.Frag} {B : Bs} {η η' : List Addr} {H H' : Hp} {G : GEnds} {D : Ends} (k : KoS K B η H G D) (g : Grow η H η' H') : KoS K B η' H' G D :=
  ⟨fun a b c d e h g2 => k.nx a b c d e h (g.trans g2), k.rt.grow g, fun a b c d e h g2 => k.bk a b c d e h (g.trans g2), fun a b c d e h g2 => k.ct a b c d e h (g.trans g2)⟩
def LS (K : PySem.W.Frag) (B : Bs) (t : GS) : TS := fun D τ H => ∃ η S σ G, SG K B η H σ τ ∧ GR K η S H ∧ t G σ S ∧ KoS K B η H G D

def GPE (X : Cx) (B : Bs) (e : Expr) (t : GE) : Prop := PE X e (LE X.K B t)
def GPT (X : Cx) (B : Bs) (e : Expr) (t : GT) : Prop := PT X e (LT X.K B t)
def GPW (X : Cx) (B : Bs) (e : Expr) (t : GT) : Prop := PW X e (LT X.K B t)
def GPA (X : Cx) (B : Bs) (es : List Expr) (t : GA) : Prop := PA X es (LA X.K B t)
def GPS (X : Cx) (B : Bs) (st : Stmt) (t : GS) : Prop := PS X st (LS X.K B t)
def GPSs (X : Cx) (B : Bs) (sts : List Stmt) (t : GS) : Prop := PSs X sts (LS X.K B t)
def LG (K : PySem.W.Frag) (B : Bs) (g : GG) : TG := fun v τ H Q => ∃ η S σ d R, SG K B η H σ τ ∧ GR K η S H ∧ VR K η H d v ∧ g d σ S R ∧ ∀ σ' S' η' H' τ', R σ' S' → Grow η H η' H' → SG K B η' H' σ' τ' → GR K η' S' H' → Q τ' H'
def LGs (K : PySem.W.Frag) (B : Bs) (g : GGs) : TGs := fun vs τ H Q => ∃ η S σ ds R, SG K B η H σ τ ∧ GR K η S H ∧ VRs K η H ds vs ∧ g ds σ S R ∧ ∀ σ' S' η' H' τ', R σ' S' → Grow η H η' H' → SG K B η' H' σ' τ' → GR K η' S' H' → Q τ' H'
def GPG (X : Cx) (B : Bs) (e : Expr) (g : GG) : Prop := PG X e (LG X.K B g)
def GPGs (X : Cx) (B : Bs) (es : List Expr) (g : GGs) : Prop := PGs X es (LGs X.K B g)

theorem PE.weak {X : Cx} {e : Expr} {t u : TE} (h : PE X e t) (w : ∀ τ H Q, u τ H Q → t τ H Q) : PE X e u := ⟨fun p s τ H Q I q => h.run p s τ H Q I (w τ H Q q)⟩
theorem PT.weak {X : Cx} {e : Expr} {t u : TT} (h : PT X e t) (w : ∀ τ H Q, u τ H Q → t τ H Q) : PT X e u := ⟨fun p s τ H Q I q => h.run p s τ H Q I (w τ H Q q)⟩
theorem PW.weak {X : Cx} {e : Expr} {t u : TT} (h : PW X e t) (w : ∀ τ H Q, u τ H Q → t τ H Q) : PW X e u := ⟨fun wh p s τ H Q I q => h.run wh p s τ H Q I (w τ H Q q)⟩
theorem PA.weak {X : Cx} {e : List Expr} {t u : TA} (h : PA X e t) (w : ∀ τ H Q, u τ H Q → t τ H Q) : PA X e u := ⟨fun ps p s τ H Q I q => h.run ps p s τ H Q I (w τ H Q q)⟩
theorem PS.weak {X : Cx} {e : Stmt} {t u : TS} (h : PS X e t) (w : ∀ D τ H, u D τ H → t D τ H) : PS X e u := ⟨fun p s τ H D I q => h.run p s τ H D I (w D τ H q)⟩
theorem PSs.weak {X : Cx} {e : List Stmt} {t u : TS} (h : PSs X e t) (w : ∀ D τ H, u D τ H → t D τ H) : PSs X e u := ⟨fun p s τ H D I q => h.run p s τ H D I (w D τ H q)⟩
theorem PG.weak {X : Cx} {e : Expr} {t u : TG} (h : PG X e t) (w : ∀ v τ H Q, u v τ H Q → t v τ H Q) : PG X e u := ⟨fun p s τ H v x Q I r q => h.run p s τ H v x Q I r (w v τ H Q q)⟩
theorem PGs.weak {X : Cx} {e : List Expr} {t u : TGs} (h : PGs X e t) (w : ∀ v τ H Q, u v τ H Q → t v τ H Q) : PGs X e u := ⟨fun p s τ H v x Q I r q => h.run p s τ H v x Q I r (w v τ H Q q)⟩

/-! ### expressions -/
section
variable {X : Cx} {B : Bs} {pos : Pos} {a b c : Expr} {ta tb tc : GE} {es : List Expr} {tes : GA}
/-- a constant, whatever it is -/
theorem ge_const {v : V} {d : D} (h : PE X a (tC v)) (r : ∀ η H, VR X.K η H d v) : GPE X B a (gC d) :=
  PE.weak h fun τ H Q ⟨η, S, σ, R, sr, gr, q, k⟩ => k d S η H v q .refl gr (r η H)
theorem ge_int {i : Int} {j : Nat} : GPE X B (.Constant (.int i) j pos) (gC (.int i)) := ge_const pe_int fun _ _ => .int i
theorem ge_bl {i : Bool} {j : Nat} : GPE X B (.Constant (.bool i) j pos) (gC (.bl i)) := ge_const pe_bl fun _ _ => .bl i
theorem ge_non {j : Nat} : GPE X B (.Constant .none j pos) (gC .non) := ge_const pe_non fun _ _ => .non
theorem ge_str {x : Str} {j : Nat} : GPE X B (.Constant (.str x) j pos) (gC (.str x)) := ge_const pe_str fun _ _ => .str x
/-- a module's constant -/
def KD (K : PySem.W.Frag) (d : D) (u : Value) : Prop := ∃ v, RelV v u ∧ ∀ η H, VR K η H d v
theorem ge_glob {x : Str} {d : D} {u : Value} (hm : X.mg x = some u) (r : KD X.K d u) (hg : Gl X x := by rfl) (hd : (x == ("__debug__" : Str)) = false := by decide) : GPE X B (.Name x pos) (gC d) := by
  obtain ⟨v, rv, rd⟩ := r
  exact ge_const (pe_glob hg hm rv hd) rd
theorem ge_var (i : Nat) {x : Str} (hN : X.N[i]? = some x := by rfl) (hv : Vis X.env.scope x := by first | exact Or.inl rfl | exact Or.inr (Or.inl rfl) | exact Or.inr (Or.inr rfl)) (hd : (x == ("__debug__" : Str)) = false := by decide)
    (hcd : (x == ("__classdict__" : Str)) = false := by decide) : GPE X B (.Name x pos) (gV i) :=
  PE.weak (pe_var hN hv hd hcd) fun τ H Q ⟨η, S, σ, R, sr, gr, q, k⟩ => by
    unfold gV at q
    split at q
    · rename_i d e
      obtain ⟨v, e2, r⟩ := sr.get e
      exact ⟨v, e2, k d S η H v q .refl gr r⟩
    · exact q.elim
theorem ga_nil : GPA X B [] gNil := PA.weak pa_nil fun τ H Q ⟨η, S, σ, R, sr, gr, q, k⟩ => k [] S η H [] q .refl gr .nil
theorem ga_cons (ha : GPE X B a ta) (hr : GPA X B es tes) (hs : starEach (a :: es) X.env = (false, eval a X.env) :: starEach es X.env := by rfl) : GPA X B (a :: es) (gCons ta tes) :=
  PA.weak (pa_cons ha hr hs) fun τ H Q ⟨η, S, σ, R, sr, gr, q, k⟩ =>
    ⟨η, S, σ, _, sr, gr, q, fun d S1 η1 H1 v q1 g1 gr1 r1 => ⟨η1, S1, σ, _, sr.grow g1, gr1, q1, fun ds S2 η2 H2 vs q2 g2 gr2 r2 => k (d :: ds) S2 η2 H2 (v :: vs) q2 (g1.trans g2) gr2 (.cons (r1.grow g2) r2)⟩⟩
theorem ge_tup {n : Nat} (h : GPA X B es tes) : GPE X B (.Tuple es n pos) (gTup tes) :=
  PE.weak (pe_tup h) fun τ H Q ⟨η, S, σ, R, sr, gr, q, k⟩ =>
    ⟨η, S, σ, _, sr, gr, q, fun ds S1 η1 H1 vs q1 g1 gr1 r1 => ⟨by rw [← r1.length]; exact q1.1, fun p hp =>
      k (.tup ds) S1 η1 _ (.ref p) q1.2 (g1.trans (grow_new hp)) (gr1.new hp) (.tup (.inl (.inl upd_same)) (r1.grow (grow_new hp)))⟩⟩
theorem ge_lst (h : GPA X B es tes) : GPE X B (.List es pos) (gLst tes) :=
  PE.weak (pe_lst h) fun τ H Q ⟨η, S, σ, R, sr, gr, q, k⟩ =>
    ⟨η, S, σ, _, sr, gr, q, fun ds S1 η1 H1 vs q1 g1 gr1 r1 => ⟨by rw [← r1.length]; exact q1.1, fun p hp => by
      have g2 : Grow η1 H1 (η1 ++ [p]) (upd H1 p (.lst vs)) := grow_push hp
      refine k (.obj S1.length) (S1 ++ [.lst ds]) (η1 ++ [p]) _ (.ref p) q1.2 (g1.trans g2) (gr1.push (u := .lst ds) hp ⟨vs, upd_same, r1.grow g2⟩) (.obj ?_)
      rw [← gr1.len]
      simp⟩⟩
theorem ge_bin {op : Operator} {o : GO2} (ho : OpR X (binaryOp op) (LO2 X.K o)) (ha : GPE X B a ta) (hb : GPE X B b tb) : GPE X B (.BinOp a op b pos) (gBin o ta tb) :=
  PE.weak (pe_op ho ha hb) fun τ H Q ⟨η, S, σ, R, sr, gr, q, k⟩ =>
    ⟨η, S, σ, _, sr, gr, q, fun d S1 η1 H1 v q1 g1 gr1 r1 => ⟨η1, S1, σ, _, sr.grow g1, gr1, q1, fun e S2 η2 H2 w q2 g2 gr2 r2 =>
      ⟨η2, S2, d, e, R, gr2, r1.grow g2, r2, q2, k.grow (g1.trans g2)⟩⟩⟩
theorem ge_un {op : UnaryOp} {o : GO1} (ho : UnR X (unaryOp op) (LO1 X.K o)) (ha : GPE X B a ta) : GPE X B (.UnaryOp op a pos) (gUn o ta) :=
  PE.weak (pe_un ho ha) fun τ H Q ⟨η, S, σ, R, sr, gr, q, k⟩ =>
    ⟨η, S, σ, _, sr, gr, q, fun d S1 η1 H1 v q1 g1 gr1 r1 => ⟨η1, S1, d, R, gr1, r1, q1, k.grow g1⟩⟩
theorem bin_weak {o : GO2} (τ : L2.St) (H : Hp) (Q : VK) : LE X.K B (gBin o ta tb) τ H Q → tOp (LO2 X.K o) (LE X.K B ta) (LE X.K B tb) τ H Q := fun ⟨η, S, σ, R, sr, gr, q, k⟩ =>
    ⟨η, S, σ, _, sr, gr, q, fun d S1 η1 H1 v q1 g1 gr1 r1 => ⟨η1, S1, σ, _, sr.grow g1, gr1, q1, fun e S2 η2 H2 w q2 g2 gr2 r2 =>
      ⟨η2, S2, d, e, R, gr2, r1.grow g2, r2, q2, k.grow (g1.trans g2)⟩⟩⟩
theorem ge_cmp {op : CmpOp} {o : GO2} (ho : OpR X (compareOp op) (LO2 X.K o)) (ha : GPE X B a ta) (hb : GPE X B b tb) (hm : behindInMarks op b = false) : GPE X B (.Compare a [op] [b] pos) (gBin o ta tb) :=
  PE.weak (pe_cmpR ho ha hb hm) bin_weak
theorem isB {K : PySem.W.Frag} {η : List Addr} {H : Hp} {v : V} {d : D} {P : Bool → Prop} (q : match d with
  | .bl b => P b
  | _ => False) (r : VR K η H d v) : ∃ b, d = .bl b ∧ v = .bl b ∧ P b := by
  cases r with
  | bl b => exact ⟨b, rfl, rfl, q⟩
  | _ => exact q.elim
theorem gt_cmp {op : CmpOp} {o : GO2} (ho : OpR X (compareOp op) (LO2 X.K o)) (ha : GPE X B a ta) (hb : GPE X B b tb) (hm : behindInMarks op b = false) : GPT X B (.Compare a [op] [b] pos) (gtV (gBin o ta tb)) :=
  PT.weak (pt_cmpR ho ha hb hm) fun τ H Q ⟨η, S, σ, R, sr, gr, q, k⟩ =>
    bin_weak (X := X) (B := B) τ H _ ⟨η, S, σ, _, sr, gr, q, fun d S1 η1 H1 v q1 g1 gr1 r1 => by
      obtain ⟨b, rfl, rfl, q2⟩ := isB (P := fun b => R b S1) q1 r1
      exact ⟨b, rfl, k b S1 η1 H1 q2 g1 gr1⟩⟩
theorem gt_val (h : GPE X B a ta) (he : ∀ whole, isTrue a X.env whole = (do let v ← whole; standAt a.pos; holding [v] (truthy v)) := by intro _; rfl) : GPT X B a (gtV ta) :=
  PT.weak (pt_val h he) fun τ H Q ⟨η, S, σ, R, sr, gr, q, k⟩ =>
    ⟨η, S, σ, _, sr, gr, q, fun d S1 η1 H1 v q1 g1 gr1 r1 => by
      obtain ⟨b, rfl, rfl, q2⟩ := isB (P := fun b => R b S1) q1 r1
      exact ⟨b, rfl, k b S1 η1 H1 q2 g1 gr1⟩⟩
theorem empty_of {K : PySem.W.Frag} {η : List Addr} {H : Hp} {ds : List D} {vs : List V} (r : VRs K η H ds vs) : (!ds.isEmpty) = !vs.isEmpty := by cases r <;> rfl
theorem empty_pair {α β : Type} {F : α → β → Prop} {l : List α} {m : List β} (r : Paired F l m) : (!l.isEmpty) = !m.isEmpty := by cases r <;> rfl
theorem gt_truth (h : GPE X B a ta) (he : ∀ whole, isTrue a X.env whole = (do let v ← whole; standAt a.pos; holding [v] (truthy v)) := by intro _; rfl) : GPT X B a (gtT ta) :=
  PT.weak (pt_truth h he) fun τ H Q ⟨η, S, σ, R, sr, gr, q, k⟩ =>
    ⟨η, S, σ, _, sr, gr, q, fun d S1 η1 H1 v q1 g1 gr1 r1 => by
      have key : ∀ b, truD S1 d = some b → TruV X.K v H1 b := by
        intro b hb
        cases r1 with
        | non => simp [truD] at hb; exact hb ▸ rfl
        | bl x => simp [truD] at hb; exact hb ▸ rfl
        | int x => simp only [truD, Option.some.injEq] at hb; exact hb.symm
        | str x =>
          simp only [truD] at hb
          split at hb
          · rename_i hl; exact ⟨hl, (Option.some.inj hb).symm⟩
          · cases hb
        | tup ht hr => simp only [truD, Option.some.injEq] at hb; exact .inr (.inl ⟨_, ht, by rw [← hb]; exact empty_of hr⟩)
        | rol ht hr => simp only [truD, Option.some.injEq] at hb; exact .inl ⟨_, ht.1, by rw [← hb]; exact empty_of hr⟩
        | obj e =>
          simp only [truD] at hb
          split at hb
          · rename_i ds ek
            obtain ⟨vs, hv, hr⟩ := gr1.obj e ek
            exact .inl ⟨vs, .of hv, by rw [← Option.some.inj hb]; exact empty_of hr⟩
          · rename_i kvs ek
            obtain ⟨vs, hv, hr⟩ := gr1.obj e ek
            exact .inr (.inr ⟨vs, hv, by rw [← Option.some.inj hb]; exact empty_pair hr⟩)
          · cases hb
        | ref x => simp [truD] at hb
        | ty n => simp [truD] at hb
      split at q1
      · rename_i b hb
        exact ⟨b, key b hb, k b S1 η1 H1 q1 g1 gr1⟩
      · exact q1.elim⟩
variable {tA tB : GT} {rest : List Expr}
theorem gw_and1 (h : GPT X B a tA) : GPW X B (.BoolOp .And [a] pos) tA := pw_and1 h
theorem gw_or1 (h : GPT X B a tA) : GPW X B (.BoolOp .Or [a] pos) tA := pw_or1 h
theorem gw_and (ha : GPT X B a tA) (hb : GPW X B (.BoolOp .And (b :: rest) pos) tB) : GPW X B (.BoolOp .And (a :: b :: rest) pos) (gtAnd tA tB) :=
  PW.weak (pw_and ha hb) fun τ H Q ⟨η, S, σ, R, sr, gr, q, k⟩ =>
    ⟨η, S, σ, _, sr, gr, q, fun c S1 η1 H1 q1 g1 gr1 => by
      cases c with
      | true => exact ⟨η1, S1, σ, R, sr.grow g1, gr1, q1, fun b S' η' H' q' g' => k b S' η' H' q' (g1.trans g')⟩
      | false => exact k false S1 η1 H1 q1 g1 gr1⟩
theorem gw_or (ha : GPT X B a tA) (hb : GPW X B (.BoolOp .Or (b :: rest) pos) tB) : GPW X B (.BoolOp .Or (a :: b :: rest) pos) (gtOr tA tB) :=
  PW.weak (pw_or ha hb) fun τ H Q ⟨η, S, σ, R, sr, gr, q, k⟩ =>
    ⟨η, S, σ, _, sr, gr, q, fun c S1 η1 H1 q1 g1 gr1 => by
      cases c with
      | false => exact ⟨η1, S1, σ, R, sr.grow g1, gr1, q1, fun b S' η' H' q' g' => k b S' η' H' q' (g1.trans g')⟩
      | true => exact k true S1 η1 H1 q1 g1 gr1⟩
theorem gt_w (h : GPW X B a tA) : GPT X B a tA := PW.pt h
theorem gt_not (h : GPT X B a tA) : GPT X B (.UnaryOp .Not a pos) (gtNot tA) :=
  PT.weak (pt_not h) fun τ H Q ⟨η, S, σ, R, sr, gr, q, k⟩ => ⟨η, S, σ, _, sr, gr, q, fun c S1 η1 H1 q1 g1 gr1 => k _ S1 η1 H1 q1 g1 gr1⟩
theorem ge_one {op : BoolOp} (h : GPE X B a ta) : GPE X B (.BoolOp op [a] pos) ta := pe_one h
theorem ge_and (ha : GPE X B a ta) (hb : GPE X B (.BoolOp .And (b :: rest) pos) tb) : GPE X B (.BoolOp .And (a :: b :: rest) pos) (gAndV ta tb) :=
  PE.weak (pe_and ha hb) fun τ H Q ⟨η, S, σ, R, sr, gr, q, k⟩ =>
    ⟨η, S, σ, _, sr, gr, q, fun d S1 η1 H1 v q1 g1 gr1 r1 => by
      cases r1 with
      | bl b => cases b with
        | true => exact ⟨true, rfl, iteT ⟨η1, S1, σ, R, sr.grow g1, gr1, q1, k.grow g1⟩⟩
        | false => exact ⟨false, rfl, iteF (k (.bl false) S1 η1 H1 _ q1 g1 gr1 (.bl false))⟩
      | _ => exact q1.elim⟩
theorem ge_or (ha : GPE X B a ta) (hb : GPE X B (.BoolOp .Or (b :: rest) pos) tb) : GPE X B (.BoolOp .Or (a :: b :: rest) pos) (gOrV ta tb) :=
  PE.weak (pe_or ha hb) fun τ H Q ⟨η, S, σ, R, sr, gr, q, k⟩ =>
    ⟨η, S, σ, _, sr, gr, q, fun d S1 η1 H1 v q1 g1 gr1 r1 => by
      cases r1 with
      | bl b => cases b with
        | false => exact ⟨false, rfl, iteF ⟨η1, S1, σ, R, sr.grow g1, gr1, q1, k.grow g1⟩⟩
        | true => exact ⟨true, rfl, iteT (k (.bl true) S1 η1 H1 _ q1 g1 gr1 (.bl true))⟩
      | _ => exact q1.elim⟩
theorem ge_not (ha : GPE X B a ta) : GPE X B (.UnaryOp .Not a pos) (gNotV ta) :=
  PE.weak (pe_not ha) fun τ H Q ⟨η, S, σ, R, sr, gr, q, k⟩ =>
    ⟨η, S, σ, _, sr, gr, q, fun d S1 η1 H1 v q1 g1 gr1 r1 => by
      cases r1 with
      | bl b => exact ⟨b, rfl, k (.bl (!b)) S1 η1 H1 _ q1 g1 gr1 (.bl _)⟩
      | _ => exact q1.elim⟩
theorem ge_if (hc : GPT X B c tA) (ha : GPE X B a ta) (hb : GPE X B b tb) : GPE X B (.IfExp c a b pos) (gIfE tA ta tb) :=
  PE.weak (pe_ifExp hc ha hb) fun τ H Q ⟨η, S, σ, R, sr, gr, q, k⟩ =>
    ⟨η, S, σ, _, sr, gr, q, fun b S1 η1 H1 q1 g1 gr1 => by
      cases b with
      | true => exact ⟨η1, S1, σ, R, sr.grow g1, gr1, q1, k.grow g1⟩
      | false => exact ⟨η1, S1, σ, R, sr.grow g1, gr1, q1, k.grow g1⟩⟩
theorem ge_chain {op op' : CmpOp} {o o' : GO2} (ho : OpR X (compareOp op) (LO2 X.K o)) (ho' : OpR X (compareOp op') (LO2 X.K o')) (ha : GPE X B a ta) (hb : GPE X B b tb) (hc : GPE X B c tc)
    (hm : lastMarks [op, op'] [b, c] = false := by with_unfolding_all rfl) : GPE X B (.Compare a [op, op'] [b, c] pos) (gChain o o' ta tb tc) :=
  PE.weak (pe_chain ho ho' ha hb hc hm) fun τ H Q ⟨η, S, σ, R, sr, gr, q, k⟩ =>
    ⟨η, S, σ, _, sr, gr, q, fun d S1 η1 H1 v q1 g1 gr1 r1 => ⟨η1, S1, σ, _, sr.grow g1, gr1, q1, fun e S2 η2 H2 w q2 g2 gr2 r2 =>
      ⟨η2, S2, d, e, _, gr2, r1.grow g2, r2, q2, fun z S3 η3 H3 u q3 g3 gr3 r3 => by
        cases r3 with
        | bl b => cases b with
          | true => exact ⟨true, rfl, iteT ⟨η3, S3, σ, _, ((sr.grow g1).grow g2).grow g3, gr3, q3, fun z4 S4 η4 H4 u4 q4 g4 gr4 r4 => ⟨η4, S4, e, z4, R, gr4, (r2.grow g3).grow g4, r4, q4, k.grow (((g1.trans g2).trans g3).trans g4)⟩⟩⟩
          | false => exact ⟨false, rfl, iteF (k (.bl false) S3 η3 H3 _ q3 ((g1.trans g2).trans g3) gr3 (.bl false))⟩
        | _ => exact q3.elim⟩⟩⟩
end
end Gh

/-! Gm: operators, statements, loops, comprehensions, calls, defs. -/
namespace Gh
open PySem PySem.Spec PyProof.Rows L2
variable [TabsC]

/-! ### operators -/
section
variable {X : Cx}
theorem lo_add : OpR X (binaryOp .Add) (LO2 X.K oAdd) := by
  intro pins s σ H x y v u Q I rx ry ⟨η, S, d, e, R, gr, r1, r2, q, k⟩
  cases r1 with
  | int i => cases r2 with
    | int j => exact op_add pins s σ H _ _ v u Q I rx ry ⟨i, j, rfl, rfl, k _ S η H _ q .refl gr (.int _)⟩
    | _ => exact q.elim
  | str a => cases r2 with
    | str b => exact op_add_str pins s σ H _ _ v u Q I rx ry ⟨a, b, rfl, rfl, q.1, k _ S η H _ q.2 .refl gr (.str _)⟩
    | _ => exact q.elim
  | tup h1 h2 => cases r2 with
    | @tup es b us g1 g2 =>
      rename_i ds a vs
      obtain ⟨q0, q1, q2⟩ := q
      refine op_catT pins s σ H _ _ v u Q I rx ry ⟨_, _, vs, us, rfl, rfl, h1, g1, ?_, by rw [← h2.length, ← g2.length]; exact q1, fun e => ?_, fun e p hp => ?_⟩
      · intro e; subst e; cases h2; exact q0 rfl
      · subst e
        cases g2
        exact k _ S η H _ q2 .refl gr (by rw [List.append_nil]; exact .tup h1 h2)
      · exact k _ S η _ _ q2 (grow_new hp) (gr.new hp) (.tup (.inl (.inl upd_same)) ((h2.append g2).grow (grow_new hp)))
    | _ => exact q.elim
  | obj e1 => cases r2 with
    | obj e2 =>
      simp only [oAdd] at q
      split at q
      · rename_i a b ha hb
        obtain ⟨vs, hv, hr⟩ := gr.obj e1 ha
        obtain ⟨us, hu, hs⟩ := gr.obj e2 hb
        refine op_cat pins s σ H _ _ v u Q I rx ry ⟨_, _, vs, us, rfl, rfl, hv, hu, by rw [← hr.length, ← hs.length]; exact q.1, fun p hp => ?_⟩
        have g2 : Grow η H (η ++ [p]) (upd H p (.lst (vs ++ us))) := grow_push hp
        exact k _ _ (η ++ [p]) _ (.ref p) q.2 g2 (gr.push (u := .lst (a ++ b)) hp ⟨vs ++ us, upd_same, (hr.append hs).grow g2⟩) (.obj (by rw [← gr.len]; simp))
      · exact q.elim
    | _ => exact q.elim
  | _ => exact q.elim
theorem lo_int {f : Value → Value → Sem Value} {o : GO2} {r : R2} (h : OpR X f r)
    (hh : ∀ (d e : D) (S : SS) (R : GQ), o d e S R → ∃ i j, d = .int i ∧ e = .int j ∧ ∀ (Q : VK) (H : Hp), (∀ z v, (∀ K η H, VR K η H z v) → R z S → Q v H) → r (.int i) (.int j) H Q) : OpR X f (LO2 X.K o) := by
  intro pins s σ H x y v u Q I rx ry ⟨η, S, d, e, R, gr, r1, r2, q, k⟩
  obtain ⟨i, j, rfl, rfl, q2⟩ := hh d e S R q
  cases r1
  cases r2
  exact h pins s σ H _ _ v u Q I rx ry (q2 Q H fun z w r q3 => k z S η H w q3 .refl gr (r _ _ _))
theorem ints_of {P : Int → Int → Prop} {d e : D} (q : match d, e with
  | .int i, .int j => P i j
  | _, _ => False) : ∃ i j, d = .int i ∧ e = .int j ∧ P i j := by
  cases d <;> cases e <;> first | exact ⟨_, _, rfl, rfl, q⟩ | exact q.elim
theorem lo_sub : OpR X (binaryOp .Sub) (LO2 X.K oSub) := lo_int op_sub fun d e S R q => by
  obtain ⟨i, j, rfl, rfl, q⟩ := ints_of (P := fun i j => R (.int (i - j)) S) q
  exact ⟨i, j, rfl, rfl, fun Q H k => ⟨i, j, rfl, rfl, k _ _ (fun _ _ _ => .int _) q⟩⟩
theorem lo_mul : OpR X (binaryOp .Mult) (LO2 X.K oMul) := lo_int op_mulW fun d e S R q => by
  obtain ⟨i, j, rfl, rfl, q⟩ := ints_of (P := fun i j => szOk i ∧ szOk j ∧ R (.int (i * j)) S) q
  exact ⟨i, j, rfl, rfl, fun Q H k => ⟨i, j, rfl, rfl, wide_mul q.1 q.2.1 (by decide) (by decide) (by decide), k _ _ (fun _ _ _ => .int _) q.2.2⟩⟩
theorem lo_mod : OpR X (binaryOp .Mod) (LO2 X.K oMod) := lo_int op_mod fun d e S R q => by
  obtain ⟨i, j, rfl, rfl, q⟩ := ints_of (P := fun i j => 0 < j ∧ R (.int (i % j)) S) q
  exact ⟨i, j, rfl, rfl, fun Q H k => ⟨i, j, rfl, rfl, q.1, k _ _ (fun _ _ _ => .int _) q.2⟩⟩
theorem lo_fdiv : OpR X (binaryOp .FloorDiv) (LO2 X.K oFdiv) := lo_int op_fdiv fun d e S R q => by
  obtain ⟨i, j, rfl, rfl, q⟩ := ints_of (P := fun i j => 0 < j ∧ j < 1073741824 ∧ R (.int (i / j)) S) q
  exact ⟨i, j, rfl, rfl, fun Q H k => ⟨i, j, rfl, rfl, ⟨q.1, q.2.1⟩, k _ _ (fun _ _ _ => .int _) q.2.2⟩⟩
theorem lo_fdivW : OpR X (binaryOp .FloorDiv) (LO2 X.K oFdivW) := lo_int op_fdivW fun d e S R q => by
  obtain ⟨i, j, rfl, rfl, q⟩ := ints_of (P := fun i j => 0 < j ∧ j.natAbs < 2 ^ 9000 ∧ R (.int (i / j)) S) q
  exact ⟨i, j, rfl, rfl, fun Q H k => ⟨i, j, rfl, rfl, wide_div q.1 q.2.1 (by decide) (by decide), k _ _ (fun _ _ _ => .int _) q.2.2⟩⟩
theorem lo_pow : OpR X (binaryOp .Pow) (LO2 X.K oPow) := lo_int op_pow fun d e S R q => by
  obtain ⟨i, j, rfl, rfl, q⟩ := ints_of (P := fun i j => 0 ≤ j ∧ j ≤ 1000000 ∧ i.natAbs < 2 ^ 64 ∧ R (.int (i ^ j.toNat)) S) q
  exact ⟨i, j, rfl, rfl, fun Q H k => ⟨i, j, rfl, rfl, ⟨q.1, q.2.1, q.2.2.1⟩, k _ _ (fun _ _ _ => .int _) q.2.2.2⟩⟩
theorem lo_lt : OpR X (compareOp .Lt) (LO2 X.K oLt) := lo_int op_lt fun d e S R q => by
  obtain ⟨i, j, rfl, rfl, q⟩ := ints_of (P := fun i j => R (.bl (decide (i < j))) S) q
  exact ⟨i, j, rfl, rfl, fun Q H k => ⟨i, j, rfl, rfl, k _ _ (fun _ _ _ => .bl _) q⟩⟩
theorem lo_le : OpR X (compareOp .LtE) (LO2 X.K oLe) := lo_int op_le fun d e S R q => by
  obtain ⟨i, j, rfl, rfl, q⟩ := ints_of (P := fun i j => R (.bl (decide (i ≤ j))) S) q
  exact ⟨i, j, rfl, rfl, fun Q H k => ⟨i, j, rfl, rfl, k _ _ (fun _ _ _ => .bl _) q⟩⟩
theorem lo_gt : OpR X (compareOp .Gt) (LO2 X.K oGt) := lo_int op_gt fun d e S R q => by
  obtain ⟨i, j, rfl, rfl, q⟩ := ints_of (P := fun i j => R (.bl (decide (j < i))) S) q
  exact ⟨i, j, rfl, rfl, fun Q H k => ⟨i, j, rfl, rfl, k _ _ (fun _ _ _ => .bl _) q⟩⟩
theorem lo_ge : OpR X (compareOp .GtE) (LO2 X.K oGe) := lo_int op_ge fun d e S R q => by
  obtain ⟨i, j, rfl, rfl, q⟩ := ints_of (P := fun i j => R (.bl (decide (j ≤ i))) S) q
  exact ⟨i, j, rfl, rfl, fun Q H k => ⟨i, j, rfl, rfl, k _ _ (fun _ _ _ => .bl _) q⟩⟩
theorem lo_neg : UnR X (unaryOp .USub) (LO1 X.K uNeg) := by
  intro pins s σ H x v Q I rx ⟨η, S, d, R, gr, r, q, k⟩
  cases r with
  | int i => exact un_neg pins s σ H _ v Q I rx ⟨i, rfl, k _ S η H _ q .refl gr (.int _)⟩
  | _ => exact q.elim
/-- what the data of a value is, as the hand layer says it -/
theorem dps_ok {K : PySem.W.Frag} {η : List Addr} {H : Hp} {f : D → Option PyData} (h : ∀ (d : D) (p : PyData) (v : V), f d = some p → VR K η H d v → Dp K H v p) : ∀ (ds : List D) (ps : List PyData) (vs : List V), seqP f ds = some ps → VRs K η H ds vs → DpAll K H vs ps
  | [], ps, vs, e, r => by simp [seqP] at e; subst e; cases r; exact .nil
  | d :: ds, ps, vs, e, r => by
    cases r with
    | cons r1 r2 =>
      simp only [seqP] at e
      split at e
      · rename_i p hp
        split at e
        · rename_i qs hq
          cases e
          exact .cons (h _ _ _ hp r1) (dps_ok h _ _ _ hq r2)
        · cases e
      · cases e
theorem dp_ok {K : PySem.W.Frag} {η : List Addr} {S : SS} {H : Hp} (gr : GR K η S H) : ∀ (n : Nat) (d : D) (p : PyData) (v : V), toP S n d = some p → VR K η H d v → Dp K H v p
  | 0, d, p, v, e, r => by simp [toP] at e
  | n + 1, d, p, v, e, r => by
    have ih := dps_ok (dp_ok gr n)
    cases r with
    | non => simp [toP] at e; subst e; exact .non
    | bl b => simp [toP] at e; subst e; exact .bl b
    | int i => simp [toP] at e; subst e; exact .int i
    | str x => simp [toP] at e; subst e; exact .str x
    | tup h1 h2 =>
      simp only [toP, Option.map_eq_some_iff] at e
      obtain ⟨ps, e1, rfl⟩ := e
      exact .tup h1 (ih _ _ _ e1 h2)
    | rol h1 h2 =>
      simp only [toP, Option.map_eq_some_iff] at e
      obtain ⟨ps, e1, rfl⟩ := e
      exact .lst h1.1 (ih _ _ _ e1 h2)
    | obj e0 =>
      simp only [toP] at e
      split at e
      · rename_i ds hk
        simp only [Option.map_eq_some_iff] at e
        obtain ⟨ps, e1, rfl⟩ := e
        obtain ⟨vs, hv, hr⟩ := gr.obj e0 hk
        exact .lst (.of hv) (ih _ _ _ e1 hr)
      · cases e
    | ref a => simp [toP] at e
    | ty n => simp [toP] at e
theorem lo_eq (hu : X.A.units + 64 < cLine) : OpR X (compareOp .Eq) (LO2 X.K oEq) := by
  intro pins s σ H x y v u Q I rx ry ⟨η, S, d, e, R, gr, r1, r2, q, k⟩
  rcases q with ⟨p, p', h1, h2, s1, s2, q⟩ | ⟨a, b, rfl, rfl, q⟩
  case inr =>
    cases r1
    cases r2
    refine op_eq pins s σ H _ _ v u Q I rx ry ⟨rfl, ?_⟩
    have e : decide (V.str a = V.str b) = (a == b) := by rw [Bool.eq_iff_iff]; simp
    rw [e]
    exact k _ S η H _ q .refl gr (.bl _)
  exact op_eqD hu pins s σ H _ _ v u Q I rx ry ⟨p, p', dp_ok gr 8 _ _ _ h1 r1, dp_ok gr 8 _ _ _ h2 r2, s1, s2, k _ S η H _ q .refl gr (.bl _)⟩
theorem lo_ne (hu : X.A.units + 64 < cLine) : OpR X (compareOp .NotEq) (LO2 X.K oNe) := by
  intro pins s σ H x y v u Q I rx ry ⟨η, S, d, e, R, gr, r1, r2, q, k⟩
  rcases q with ⟨p, p', h1, h2, s1, s2, q⟩ | ⟨a, b, rfl, rfl, q⟩
  case inr =>
    cases r1
    cases r2
    refine op_ne pins s σ H _ _ v u Q I rx ry ⟨rfl, ?_⟩
    have e : (!decide (V.str a = V.str b)) = (!(a == b)) := by congr 1; rw [Bool.eq_iff_iff]; simp
    rw [e]
    exact k _ S η H _ q .refl gr (.bl _)
  exact op_neD hu pins s σ H _ _ v u Q I rx ry ⟨p, p', dp_ok gr 8 _ _ _ h1 r1, dp_ok gr 8 _ _ _ h2 r2, s1, s2, k _ S η H _ q .refl gr (.bl _)⟩
end
end Gh

/-! Gn: targets, statements, loops, comprehensions. -/
namespace Gh
open PySem PySem.Spec PyProof.Rows L2
variable [TabsC]

/-! ### patterns -/
mutual
def patV (K : PySem.W.Frag) : Pat → TG
  | .nm i => gName i
  | .tp ps => L2.gTup K ps.length (patsV K ps)
def patsV (K : PySem.W.Frag) : List Pat → TGs
  | [] => L2.gNil
  | p :: ps => L2.gCons (patV K p) (patsV K ps)
end
section
variable {X : Cx} {pos : Pos}
theorem gp_name (i : Nat) {x : Str} (hN : X.N.Nodup) (hi : X.N[i]? = some x := by rfl) (hx : Loc X.env.scope x := by first | exact Or.inl rfl | exact Or.inr rfl)
    (hf : X.fn x = true ∨ X.env.scope.names.lookup x = some .local := by first | exact .inl rfl | exact .inr rfl) : PG X (.Name x pos) (patV X.K (.nm i)) := pg_name hN hi hx hf
theorem gp_tup {es : List Expr} {k : Nat} {ps : List Pat} (h : PGs X es (patsV X.K ps)) (hc : X.calm = true := by rfl) (hn : (assignEach es X.env).length = ps.length := by rfl)
    (hst : (assignEach es X.env).findIdx? (·.1) = none := by rfl) : PG X (.Tuple es k pos) (patV X.K (.tp ps)) := pg_tup hc h hn hst
theorem gps_nil : PGs X [] (patsV X.K []) := pgs_nil
theorem gps_cons {e : Expr} {es : List Expr} {p : Pat} {ps : List Pat} (h1 : PG X e (patV X.K p)) (h2 : PGs X es (patsV X.K ps))
    (hs : (assignEach (e :: es) X.env).map (·.2) = assign e X.env :: (assignEach es X.env).map (·.2) := by rfl) : PGs X (e :: es) (patsV X.K (p :: ps)) := pgs_cons h1 h2 hs
end
theorem wipe_set : ∀ (vs : List Nat) (τ : L2.St) (i : Nat) (v : Option V), i ∈ vs → wipe (τ.set i v) vs = wipe τ vs
  | [], τ, i, v, h => by simp at h
  | j :: vs, τ, i, v, h => by
    unfold wipe
    by_cases e : i ∈ vs
    · rw [wipe_set vs τ i v e]
    · have e2 : i = j := by simpa [e] using h
      subst e2
      have key : ∀ (vs : List Nat) (τ : L2.St), i ∉ vs → wipe (τ.set i v) vs = (wipe τ vs).set i v := by
        intro vs
        induction vs with
        | nil => intro τ _; rfl
        | cons a vs ih =>
          intro τ hn
          unfold wipe
          rw [ih τ (fun z => hn (List.mem_cons_of_mem _ z)), List.set_comm _ _ (fun z => hn (by rw [z]; exact List.mem_cons_self))]
      rw [key vs τ e, List.set_set]
theorem runPs_len : ∀ (ps : List Pat) (ds : List D) (σ σ' : Sl), runPs ps ds σ = some σ' → ds.length = ps.length
  | [], [], _, _, _ => rfl
  | p :: ps, d :: ds, σ, σ', e => by
    simp only [runPs] at e
    split at e
    · exact congrArg (· + 1) (runPs_len ps ds _ _ e)
    · cases e
  | [], _ :: _, _, _, e | _ :: _, [], _, _, e => by simp [runPs] at e
section
variable {K : PySem.W.Frag} {B : Bs} {η : List Addr} {H : Hp}
mutual
theorem runP_ok : ∀ (p : Pat) (d : D) (σ σ' : Sl) (v : V) (τ : L2.St) (Q : L2.St → Hp → Prop), runP p d σ = some σ' → SG K B η H σ τ → VR K η H d v →
    (∀ τ', SG K B η H σ' τ' → (∀ vs, patIn vs p = true → wipe τ' vs = wipe τ vs) → Q τ' H) → patV K p v τ H Q
  | .nm i, d, σ, σ', v, τ, Q, e, sr, r, k => by
    simp only [runP, Option.some.injEq] at e
    subst e
    show Q _ _
    exact k _ (sr.set i r) fun vs h => wipe_set vs τ i _ (by simpa [patIn] using h)
  | .tp ps, d, σ, σ', v, τ, Q, e, sr, r, k => by
    cases r with
    | tup h1 h2 =>
      simp only [runP] at e
      exact ⟨_, _, rfl, h1, by rw [← h2.length]; exact runPs_len _ _ _ _ e, runPs_ok ps _ σ σ' _ τ Q e sr h2 k⟩
    | _ => simp [runP] at e
theorem runPs_ok : ∀ (ps : List Pat) (ds : List D) (σ σ' : Sl) (vs : List V) (τ : L2.St) (Q : L2.St → Hp → Prop), runPs ps ds σ = some σ' → SG K B η H σ τ → VRs K η H ds vs →
    (∀ τ', SG K B η H σ' τ' → (∀ us, patsIn us ps = true → wipe τ' us = wipe τ us) → Q τ' H) → patsV K ps vs τ H Q
  | [], ds, σ, σ', vs, τ, Q, e, sr, r, k => by
    cases r with
    | nil =>
      simp only [runPs, Option.some.injEq] at e
      subst e
      exact ⟨rfl, k τ sr fun _ _ => rfl⟩
    | cons _ _ => simp [runPs] at e
  | p :: ps, ds, σ, σ', vs, τ, Q, e, sr, r, k => by
    cases r with
    | cons r1 r2 =>
      simp only [runPs] at e
      split at e
      · rename_i σ1 h1
        refine ⟨_, _, rfl, runP_ok p _ σ σ1 _ τ _ h1 sr r1 fun τ1 sr1 w1 => runPs_ok ps _ σ1 σ' _ τ1 Q e sr1 r2 fun τ2 sr2 w2 => k τ2 sr2 fun us hu => ?_⟩
        simp only [patsIn, Bool.and_eq_true] at hu
        rw [w2 us hu.2, w1 us hu.1]
      · cases e
    | nil => simp [runPs] at e
end
end
/-- a pattern as a target -/
theorem gg_pat {X : Cx} {B : Bs} {e : Expr} {p : Pat} (h : PG X e (patV X.K p)) : GPG X B e (ggP p) :=
  PG.weak h fun v τ H Q ⟨η, S, σ, d, R, sr, gr, r, q, k⟩ => by
    unfold ggP at q
    split at q
    · rename_i σ' e
      exact runP_ok p d σ σ' v τ Q e sr r fun τ' sr' _ => k σ' S η H τ' q .refl sr' gr
    · exact q.elim

/-! ### general targets -/
section
variable {X : Cx} {B : Bs} {pos : Pos}
theorem ggs_nil : GPGs X B [] ggNil := PGs.weak pgs_nil fun vs τ H Q ⟨η, S, σ, ds, R, sr, gr, r, q, k⟩ => by
  cases r with
  | nil => exact ⟨rfl, k σ S η H τ q .refl sr gr⟩
  | cons _ _ => exact q.elim
theorem ggs_cons {e : Expr} {es : List Expr} {g : GG} {u : GGs} (h1 : GPG X B e g) (h2 : GPGs X B es u)
    (hs : (assignEach (e :: es) X.env).map (·.2) = assign e X.env :: (assignEach es X.env).map (·.2) := by rfl) : GPGs X B (e :: es) (ggCons g u) :=
  PGs.weak (pgs_cons h1 h2 hs) fun vs τ H Q ⟨η, S, σ, ds, R, sr, gr, r, q, k⟩ => by
    cases r with
    | nil => exact q.elim
    | cons r1 r2 =>
      exact ⟨_, _, rfl, η, S, σ, _, _, sr, gr, r1, q, fun σ1 S1 η1 H1 τ1 q1 g1 sr1 gr1 => ⟨η1, S1, σ1, _, R, sr1, gr1, r2.grow g1, q1, fun σ2 S2 η2 H2 τ2 q2 g2 => k σ2 S2 η2 H2 τ2 q2 (g1.trans g2)⟩⟩
theorem gg_tup {es : List Expr} {k : Nat} {u : GGs} {n : Nat} (h : GPGs X B es u) (hc : X.calm = true := by rfl) (hn : (assignEach es X.env).length = n := by rfl)
    (hst : (assignEach es X.env).findIdx? (·.1) = none := by rfl) : GPG X B (.Tuple es k pos) (ggTup n u) :=
  PG.weak (pg_tup hc h hn hst) fun v τ H Q ⟨η, S, σ, d, R, sr, gr, r, q, k⟩ => by
    cases r with
    | tup h1 h2 => exact ⟨_, _, rfl, h1, by rw [← h2.length]; exact q.1, η, S, σ, _, R, sr, gr, h2, q.2, k⟩
    | _ => exact q.elim
/-- o[i] = v by values, lifted -/
def LSet (K : PySem.W.Frag) (o : D → D → D → SS → (SS → Prop) → Prop) : TSet := fun x y z H Q => ∃ η S a b c R, GR K η S H ∧ VR K η H a x ∧ VR K η H b y ∧ VR K η H c z ∧ o a b c S R ∧ ∀ S' η' H', R S' → Grow η H η' H' → GR K η' S' H' → Q H'
theorem atG_ix {α : Type} {xs : List α} {j : Int} (h : 0 ≤ j ∧ j < xs.length) : ixN xs.length j = some j.toNat := by
  unfold ixN
  rw [if_pos h.1, if_pos h.2]
theorem ls_list : PSet X (LSet X.K oSetIx) := by
  intro pins s σ H o i v ov iv u Q I ro ri rv ⟨η, S, a, b, c, R, gr, ra, rb, rc, q, k⟩
  cases ra with
  | obj e1 =>
    cases rb with
    | int j =>
      simp only [oSetIx] at q
      split at q
      · rename_i ds hk
        split at q
        · rename_i hj
          obtain ⟨vs, hv, hr⟩ := gr.obj e1 hk
          refine set_list pins s σ H _ _ v ov iv u Q I ro ri rv ⟨_, vs, j, j.toNat, rfl, rfl, hv, atG_ix (by rw [← hr.length]; exact hj), ?_⟩
          have g := gr.growSet (o := .lst (vs.set j.toNat v)) e1 ⟨(fun _ z => nomatch hv.symm.trans z), (fun _ z => nomatch hv.symm.trans z)⟩
          exact k _ η _ q g (gr.set e1 ⟨(fun _ z => nomatch hv.symm.trans z), (fun _ z => nomatch hv.symm.trans z)⟩ (u := .lst (ds.set j.toNat c)) ⟨_, upd_same, (hr.set _ rc).grow g⟩)
        · exact q.elim
      · exact q.elim
    | _ => exact q.elim
  | _ => cases rb <;> exact q.elim
theorem gg_sub {o i : Expr} {to ti : GE} {r : D → D → D → SS → (SS → Prop) → Prop} (hs : PSet X (LSet X.K r)) (ho : GPE X B o to) (hi : GPE X B i ti)
    (ha : ∀ v, assign (.Subscript o i pos) X.env v = (do
      let ov ← holding [v] (eval o X.env)
      let iv ← holding [v, ov] (eval i X.env)
      standAt pos
      holding [v, ov, iv] (setItem ov iv v)
      release [v, ov, iv] []) := by intro _; rfl) : GPG X B (.Subscript o i pos) (ggSub r to ti) :=
  PG.weak (pg_sub ho hi hs ha) fun v τ H Q ⟨η, S, σ, d, R, sr, gr, r, q, k⟩ =>
    ⟨η, S, σ, _, sr, gr, q, fun a S1 η1 H1 x q1 g1 gr1 r1 => ⟨η1, S1, σ, _, sr.grow g1, gr1, q1, fun b S2 η2 H2 y q2 g2 gr2 r2 =>
      ⟨η2, S2, a, b, d, _, gr2, r1.grow g2, r2, (r.grow g1).grow g2, q2, fun S3 η3 H3 q3 g3 gr3 => k σ S3 η3 H3 τ q3 ((g1.trans g2).trans g3) (((sr.grow g1).grow g2).grow g3) gr3⟩⟩⟩

/-! ### statements -/
variable {st : Stmt} {rest : List Stmt} {t u : GS} {e : Expr} {te : GE}
theorem gss_nil : GPSs X B [] gsNx := PSs.weak pss_nil fun D τ H ⟨η, S, σ, G, sr, gr, q, k⟩ => k.nx σ S η H τ q .refl sr gr
theorem gss_cons (h1 : GPS X B st t) (h2 : GPSs X B rest u) : GPSs X B (st :: rest) (gsSeq t u) :=
  PSs.weak (pss_cons h1 h2) fun D τ H ⟨η, S, σ, G, sr, gr, q, k⟩ =>
    ⟨η, S, σ, _, sr, gr, q, ⟨fun σ' S' η' H' τ' q' g' sr' gr' => ⟨η', S', σ', G, sr', gr', q', k.grow g'⟩, k.rt, k.bk, k.ct⟩⟩
theorem gss_one (h1 : GPS X B st t) : GPSs X B [st] t := pss_one h1
theorem gs_pass : GPS X B (.Pass pos) gsNx := PS.weak ps_pass fun D τ H ⟨η, S, σ, G, sr, gr, q, k⟩ => k.nx σ S η H τ q .refl sr gr
theorem gs_brk : GPS X B (.Break pos) gsBrk := PS.weak ps_break fun D τ H ⟨η, S, σ, G, sr, gr, q, k⟩ => k.bk σ S η H τ q .refl sr gr
theorem gs_ct : GPS X B (.Continue pos) gsCt := PS.weak ps_continue fun D τ H ⟨η, S, σ, G, sr, gr, q, k⟩ => k.ct σ S η H τ q .refl sr gr
theorem gs_asg {tg : Expr} {g : GG} (he : GPE X B e te) (hg : GPG X B tg g) (hs : swapsWithSole [tg] e pos.line X.env = pure false := by rfl) (hw : swappedStores [tg] e X.env = pure none := by rfl)
    (h1 : (assignEach [tg] X.env).map (·.2) = [assign tg X.env] := by rfl) : GPS X B (.Assign [tg] e pos) (gsAsg te g) :=
  PS.weak (ps_asg he hg hs hw h1) fun D τ H ⟨η, S, σ, G, sr, gr, q, k⟩ =>
    ⟨η, S, σ, _, sr, gr, q, fun d S1 η1 H1 v q1 g1 gr1 r1 => ⟨η1, S1, σ, d, _, sr.grow g1, gr1, r1, q1, fun σ2 S2 η2 H2 τ2 q2 g2 sr2 gr2 => k.nx σ2 S2 η2 H2 τ2 q2 (g1.trans g2) sr2 gr2⟩⟩
/-- x = e -/
theorem gs_set (i : Nat) {x : Str} {pos' : Pos} (hN : X.N.Nodup) (he : GPE X B e te) (hi : X.N[i]? = some x := by rfl) (hx : Loc X.env.scope x := by first | exact Or.inl rfl | exact Or.inr rfl)
    (hs : swapsWith e (some (.Name x pos')) pos.line X.env = pure false := by rfl) (hf : X.fn x = true ∨ X.env.scope.names.lookup x = some .local := by first | exact .inl rfl | exact .inr rfl) :
    GPS X B (.Assign [.Name x pos'] e pos) (gsAsg te (ggP (.nm i))) :=
  PS.weak (ps_set hN hi hx he hs hf) fun D τ H ⟨η, S, σ, G, sr, gr, q, k⟩ =>
    ⟨η, S, σ, _, sr, gr, q, fun d S1 η1 H1 v q1 g1 gr1 r1 => k.nx _ S1 η1 H1 _ q1 g1 ((sr.grow g1).set i r1) gr1⟩
theorem gs_par2 (i j : Nat) {x y : Str} {a b : Expr} {ta : GA} {px py pt : Pos} {kt k2 pt2} (hN : X.N.Nodup) (ha : GPA X B [a, b] ta) (hw : swappedStores [.Tuple [.Name x px, .Name y py] kt pt] (.Tuple [a, b] k2 pt2) X.env = pure (some [x, y])) (hc : X.calm = true := by rfl) (hi : X.N[i]? = some x := by rfl) (hj : X.N[j]? = some y := by rfl) (hij : i ≠ j := by decide)
    (hx : X.env.scope.names.lookup x = some .local := by rfl) (hy : X.env.scope.names.lookup y = some .local := by rfl)
    (hs : swapsWithSole [.Tuple [.Name x px, .Name y py] kt pt] (.Tuple [a, b] k2 pt2) pos.line X.env = pure false := by rfl) :
    GPS X B (.Assign [.Tuple [.Name x px, .Name y py] kt pt] (.Tuple [a, b] k2 pt2) pos) (gsPar2 i j ta) :=
  PS.weak (ps_par hc hN hi hj hij hx hy ha hw hs) fun D τ H ⟨η, S, σ, G, sr, gr, q, k⟩ =>
    ⟨η, S, σ, _, sr, gr, q, fun ds S1 η1 H1 vs q1 g1 gr1 r1 => by
      cases r1 with
      | nil => exact q1.elim
      | cons r1 r2 => cases r2 with
        | nil => exact q1.elim
        | cons r2 r3 => cases r3 with
          | nil => exact ⟨_, _, rfl, k.nx _ S1 η1 H1 _ q1 g1 (((sr.grow g1).set i r1).set j r2) gr1⟩
          | cons _ _ => exact q1.elim⟩
theorem gs_ret (he : GPE X B e te) : GPS X B (.Return (some e) pos) (gsRet te) :=
  PS.weak (ps_ret he) fun D τ H ⟨η, S, σ, G, sr, gr, q, k⟩ => ⟨η, S, σ, _, sr, gr, q, k.rt⟩
theorem gs_retN : GPS X B (.Return none pos) gsRetN := PS.weak ps_retN fun D τ H ⟨η, S, σ, G, sr, gr, q, k⟩ => k.rt .non S η H .non q .refl gr .non
theorem gs_expr (he : GPE X B e te) (hs : swapsWith e none pos.line X.env = pure false := by rfl) : GPS X B (.Expr e pos) (gsDrop te) :=
  PS.weak (ps_expr he hs) fun D τ H ⟨η, S, σ, G, sr, gr, q, k⟩ => ⟨η, S, σ, _, sr, gr, q, fun d S1 η1 H1 v q1 g1 gr1 r1 => k.nx σ S1 η1 H1 τ q1 g1 (sr.grow g1) gr1⟩
theorem gs_if {c : Expr} {a b : List Stmt} {tc : GT} (hc : GPT X B c tc) (ha : GPSs X B a t) (hb : GPSs X B b u) : GPS X B (.If c a b pos) (gsIf tc t u) :=
  PS.weak (ps_if hc ha hb) fun D τ H ⟨η, S, σ, G, sr, gr, q, k⟩ =>
    ⟨η, S, σ, _, sr, gr, q, fun c S1 η1 H1 q1 g1 gr1 => by
      cases c with
      | true => exact ⟨η1, S1, σ, G, sr.grow g1, gr1, q1, k.grow g1⟩
      | false => exact ⟨η1, S1, σ, G, sr.grow g1, gr1, q1, k.grow g1⟩⟩
theorem gs_never : GPS X B st gsNever := PS.weak ps_never fun D τ H ⟨η, S, σ, G, sr, gr, q, k⟩ => q
theorem gs_aug (i : Nat) {x : Str} {op : Operator} {o : GO2} {pos' : Pos} (hN : X.N.Nodup) (ho : PIp X op (LO2 X.K o)) (he : GPE X B e te) (hi : X.N[i]? = some x := by rfl) (hx : Loc X.env.scope x := by first | exact Or.inl rfl | exact Or.inr rfl)
    (hf : X.fn x = true ∨ X.env.scope.names.lookup x = some .local := by first | exact .inl rfl | exact .inr rfl) : GPS X B (.AugAssign (.Name x pos') op e pos) (gsAug i o te) :=
  PS.weak (ps_aug hN hi hx he ho hf) fun D τ H ⟨η, S, σ, G, sr, gr, q, k⟩ => by
    unfold gsAug at q
    split at q
    · rename_i d ed
      obtain ⟨v, e1, r⟩ := sr.get ed
      exact ⟨v, e1, η, S, σ, _, sr, gr, q, fun y S1 η1 H1 w q1 g1 gr1 r1 => ⟨η1, S1, d, y, _, gr1, r.grow g1, r1, q1, fun z S2 η2 H2 z' q2 g2 gr2 r2 => k.nx _ S2 η2 H2 _ q2 (g1.trans g2) (((sr.grow g1).grow g2).set i r2) gr2⟩⟩
    · exact q.elim
theorem gs_while {c : Expr} {body : List Stmt} {tc : GT} (hp : PassesOwn (model X.prog X.w) X.A X.env X.xe) (hc : GPT X B c tc) (hb : GPSs X B body t) : GPS X B (.While c body [] pos) (gsWhile tc t) :=
  PS.weak (ps_while hp hc hb) fun D τ H ⟨η, S, σ, G, sr, gr, ⟨W, w0, turn⟩, k⟩ => by
    refine ⟨fun m τ' H' => ∃ η' S' σ', Grow η H η' H' ∧ SG X.K B η' H' σ' τ' ∧ GR X.K η' S' H' ∧ W m σ' S', ?_, ?_⟩
    · obtain ⟨m, w⟩ := w0
      exact ⟨m, η, S, σ, .refl, sr, gr, w⟩
    · rintro m τ1 H1 ⟨η1, S1, σ1, g1, sr1, gr1, w1⟩
      refine ⟨η1, S1, σ1, _, sr1, gr1, turn m σ1 S1 w1, fun b S2 η2 H2 q2 g2 gr2 => ?_⟩
      cases b with
      | false => exact k.nx σ1 S2 η2 H2 τ1 q2 (g1.trans g2) (sr1.grow g2) gr2
      | true =>
        obtain ⟨N, hN, q3⟩ := q2
        refine iteT ⟨fun τ' H' => ∃ η' S' σ', Grow η H η' H' ∧ SG X.K B η' H' σ' τ' ∧ GR X.K η' S' H' ∧ N σ' S', ?_, ?_⟩
        · rintro τ' H' ⟨η', S', σ', g', sr', gr', n'⟩
          obtain ⟨m', hm, w'⟩ := hN σ' S' n'
          exact ⟨m', hm, η', S', σ', g', sr', gr', w'⟩
        · have g := g1.trans g2
          exact ⟨η2, S2, σ1, _, sr1.grow g2, gr2, q3, ⟨fun σ' S' η' H' τ' q' g' sr' gr' => ⟨η', S', σ', g.trans g', sr', gr', q'⟩, k.rt.grow g, fun σ' S' η' H' τ' q' g' sr' gr' => k.nx σ' S' η' H' τ' q' (g.trans g') sr' gr',
            fun σ' S' η' H' τ' q' g' sr' gr' => ⟨η', S', σ', g.trans g', sr', gr', q'⟩⟩⟩
end
end Gh

/-! Go: what is walked, for, comprehensions. -/
namespace Gh
open PySem PySem.Spec PyProof.Rows L2
variable [TabsC]

/-- the hand layer's walk J yields these items while ok holds, from (η0, H0) on -/
structure WalkR (K : PySem.W.Frag) (J : It) (items : List D) (ok : SS → Prop) (η0 : List Addr) (H0 : Hp) : Prop where
  go : ∀ i d η S H, items[i]? = some d → Grow η0 H0 η H → GR K η S H → ok S → J.go i H ∧ ∀ x H', J.yld i H x H' → ∃ η', Grow η H η' H' ∧ GR K η' S H' ∧ VR K η' H' d x
  stop : ∀ η S H, Grow η0 H0 η H → GR K η S H → ok S → J.stop items.length H
def LI (K : PySem.W.Frag) (B : Bs) (it : GI) : TI := fun τ H R => ∃ η S σ RG, SG K B η H σ τ ∧ GR K η S H ∧ it σ S RG ∧ ∀ J S' η' H' J', RG J S' → Grow η H η' H' → GR K η' S' H' → WalkR K J' J.items J.ok η' H' → R J' H'
def GPI (X : Cx) (B : Bs) (tg iter : Expr) (it : GI) : Prop := PI X tg iter (LI X.K B it)
theorem PI.weak {X : Cx} {tg e : Expr} {t u : TI} (h : PI X tg e t) (w : ∀ τ H R, u τ H R → t τ H R) : PI X tg e u := ⟨fun p s τ H R I q => h.run p s τ H R I (w τ H R q)⟩
section
variable {K : PySem.W.Frag} {η0 : List Addr} {H0 : Hp}
theorem walk_lst {k : Nat} {a : Addr} {ds : List D} (e : η0[k]? = some a) : WalkR K (Itl K a) ds (fun S => S[k]? = some (.lst ds)) η0 H0 where
  go := fun i d η S H hi g gr ok => by
    obtain ⟨vs, hv, hr⟩ := gr.obj (g.get e) ok
    obtain ⟨v, e1, r⟩ := hr.get hi
    refine ⟨⟨vs, v, .of hv, e1⟩, fun x H' y => ?_⟩
    obtain ⟨rfl, y2⟩ := y
    have := y2 vs (.of hv)
    rw [e1] at this
    cases this
    exact ⟨η, .refl, gr, r⟩
  stop := fun η S H g gr ok => by
    obtain ⟨vs, hv, hr⟩ := gr.obj (g.get e) ok
    exact ⟨vs, .of hv, by rw [hr.length]; exact Nat.le_refl _⟩
theorem walk_tup {a : Addr} {ds : List D} {vs : List V} (h : SqT K H0 a vs) (hr : VRs K η0 H0 ds vs) : WalkR K (Itt K a) ds (fun _ => True) η0 H0 where
  go := fun i d η S H hi g gr _ => by
    obtain ⟨v, e1, r⟩ := (hr.grow g).get hi
    refine ⟨⟨vs, v, g.sqT h, e1⟩, fun x H' y => ?_⟩
    obtain ⟨rfl, y2⟩ := y
    have := y2 vs (g.sqT h)
    rw [e1] at this
    cases this
    exact ⟨η, .refl, gr, r⟩
  stop := fun η S H g gr _ => ⟨vs, g.sqT h, by rw [hr.length]; exact Nat.le_refl _⟩
theorem walk_rol {a : Addr} {ds : List D} {vs : List V} (h : RoL K H0 a vs) (hr : VRs K η0 H0 ds vs) : WalkR K (Itl K a) ds (fun _ => True) η0 H0 where
  go := fun i d η S H hi g gr _ => by
    obtain ⟨v, e1, r⟩ := (hr.grow g).get hi
    refine ⟨⟨vs, v, (h.grow g).1, e1⟩, fun x H' y => ?_⟩
    obtain ⟨rfl, y2⟩ := y
    have := y2 vs (h.grow g).1
    rw [e1] at this
    cases this
    exact ⟨η, .refl, gr, r⟩
  stop := fun η S H g gr _ => ⟨vs, (h.grow g).1, by rw [hr.length]; exact Nat.le_refl _⟩
theorem rng_get {lo : Int} {n i : Nat} {d : D} (h : (rng lo n)[i]? = some d) : i < n ∧ d = .int (lo + (i : Int)) := by
  unfold rng at h
  rw [List.getElem?_map] at h
  by_cases hi : i < n
  · rw [List.getElem?_range hi] at h
    exact ⟨hi, (Option.some.inj h).symm⟩
  · rw [List.getElem?_eq_none (by simp; omega)] at h
    cases h
theorem rng_length {lo : Int} {n : Nat} : (rng lo n).length = n := by simp [rng]
theorem walk_rng {lo : Int} {n : Nat} : WalkR K (Itr lo n) (rng lo n) (fun _ => True) η0 H0 where
  go := fun i d η S H hi g gr _ => by
    obtain ⟨h1, rfl⟩ := rng_get hi
    exact ⟨h1, fun x H' y => by obtain ⟨rfl, rfl⟩ := y; exact ⟨η, .refl, gr, .int _⟩⟩
  stop := fun η S H g gr _ => by
    show n ≤ (rng lo n).length
    rw [rng_length]
    exact Nat.le_refl _
theorem walk_str {x : Str} : WalkR K (Its x) (signs x) (fun _ => True) η0 H0 where
  go := fun i d η S H hi g gr _ => by
    unfold signs at hi
    rw [List.getElem?_map] at hi
    cases e : x.cps.toList[i]? with
    | none => rw [e] at hi; cases hi
    | some c =>
      rw [e] at hi
      cases hi
      have e2 : x.cps[i]? = some c := by simpa using e
      refine ⟨(Array.getElem?_eq_some_iff.mp e2).1, fun v H' y => ?_⟩
      obtain ⟨rfl, c', e3, rfl⟩ := y
      rw [e2] at e3
      cases e3
      exact ⟨η, .refl, gr, .str _⟩
  stop := fun η S H g gr _ => by
    show x.cps.size ≤ (signs x).length
    simp [signs]
theorem enum_get : ∀ (ds : List D) (n i : Nat) (d : D), (enumD n ds)[i]? = some d → ∃ e, ds[i]? = some e ∧ d = .tup [.int ((n + i : Nat) : Int), e]
  | [], n, i, d, h => by simp [enumD] at h
  | x :: ds, n, 0, d, h => by
    simp [enumD] at h
    exact ⟨x, rfl, h.symm⟩
  | x :: ds, n, i + 1, d, h => by
    obtain ⟨e, h1, h2⟩ := enum_get ds (n + 1) i d (by simpa [enumD] using h)
    exact ⟨e, by simpa using h1, by rw [h2, Nat.add_assoc, Nat.add_comm 1 i]⟩
theorem enum_length : ∀ (ds : List D) (n : Nat), (enumD n ds).length = ds.length
  | [], _ => rfl
  | _ :: ds, n => congrArg (· + 1) (enum_length ds (n + 1))
theorem walk_enum {k : Nat} {a : Addr} {ds : List D} (e : η0[k]? = some a) : WalkR K (Ite K a) (enumD 0 ds) (fun S => S[k]? = some (.lst ds)) η0 H0 where
  go := fun i d η S H hi g gr ok => by
    obtain ⟨x, hx, rfl⟩ := enum_get ds 0 i d hi
    obtain ⟨vs, hv, hr⟩ := gr.obj (g.get e) ok
    obtain ⟨v, e1, r⟩ := hr.get hx
    refine ⟨⟨vs, v, .of hv, e1⟩, fun z H' y => ?_⟩
    obtain ⟨T, u, rfl, hT, rfl, y2⟩ := y
    have := y2 vs (.of hv)
    rw [e1] at this
    cases this
    rw [Nat.zero_add]
    exact ⟨η, grow_new hT, gr.new hT, .tup (.inl (.inl upd_same)) (.cons (.int _) (.cons (r.grow (grow_new hT)) .nil))⟩
  stop := fun η S H g gr ok => by
    obtain ⟨vs, hv, hr⟩ := gr.obj (g.get e) ok
    exact ⟨vs, .of hv, by rw [enum_length, hr.length]; exact Nat.le_refl _⟩
theorem zip_get : ∀ (ds es : List D) (i : Nat) (d : D), (zipD ds es)[i]? = some d → ∃ x y, ds[i]? = some x ∧ es[i]? = some y ∧ d = .tup [x, y]
  | [], es, i, d, h => by simp [zipD] at h
  | x :: ds, [], i, d, h => by simp [zipD] at h
  | x :: ds, y :: es, 0, d, h => by
    simp [zipD] at h
    exact ⟨x, y, rfl, rfl, h.symm⟩
  | x :: ds, y :: es, i + 1, d, h => by
    obtain ⟨u, v, h1, h2, h3⟩ := zip_get ds es i d (by simpa [zipD] using h)
    exact ⟨u, v, by simpa using h1, by simpa using h2, h3⟩
theorem zip_length : ∀ (ds es : List D), ds.length ≤ (zipD ds es).length ∨ es.length ≤ (zipD ds es).length
  | [], es => .inl (Nat.le_refl _)
  | x :: ds, [] => .inr (Nat.le_refl _)
  | x :: ds, y :: es => (zip_length ds es).imp Nat.succ_le_succ Nat.succ_le_succ
theorem walk_zip {j k : Nat} {a b : Addr} {ds es : List D} (e : η0[j]? = some a) (e' : η0[k]? = some b) : WalkR K (Itz K a b) (zipD ds es) (fun S => S[j]? = some (.lst ds) ∧ S[k]? = some (.lst es)) η0 H0 where
  go := fun i d η S H hi g gr ok => by
    obtain ⟨x, y, hx, hy, rfl⟩ := zip_get ds es i d hi
    obtain ⟨vs, hv, hr⟩ := gr.obj (g.get e) ok.1
    obtain ⟨us, hu, hs⟩ := gr.obj (g.get e') ok.2
    obtain ⟨v, e1, r1⟩ := hr.get hx
    obtain ⟨u, e2, r2⟩ := hs.get hy
    refine ⟨⟨vs, us, v, u, .of hv, .of hu, e1, e2⟩, fun z H' y => ?_⟩
    obtain ⟨T, v', u', rfl, hT, rfl, y1, y2⟩ := y
    have z1 := y1 vs (.of hv)
    have z2 := y2 us (.of hu)
    rw [e1] at z1
    rw [e2] at z2
    cases z1
    cases z2
    have gn : Grow η H η (upd H T (.tup [v, u])) := grow_new hT
    exact ⟨η, gn, gr.new hT, .tup (.inl (.inl upd_same)) (.cons (r1.grow gn) (.cons (r2.grow gn) .nil))⟩
  stop := fun η S H g gr ok => by
    obtain ⟨vs, hv, hr⟩ := gr.obj (g.get e) ok.1
    obtain ⟨us, hu, hs⟩ := gr.obj (g.get e') ok.2
    exact ⟨vs, us, .of hv, .of hu, by rw [← hr.length, ← hs.length]; exact zip_length ds es⟩
theorem walk_zipT {a b : Addr} {ds es : List D} {vs us : List V} (h : SqT K H0 a vs) (hr : VRs K η0 H0 ds vs) (h' : SqT K H0 b us) (hs : VRs K η0 H0 es us) : WalkR K (RZ.ItzT K a b) (zipD ds es) (fun _ => True) η0 H0 where
  go := fun i d η S H hi g gr ok => by
    obtain ⟨x, y, hx, hy, rfl⟩ := zip_get ds es i d hi
    obtain ⟨v, e1, r1⟩ := (hr.grow g).get hx
    obtain ⟨u, e2, r2⟩ := (hs.grow g).get hy
    refine ⟨⟨vs, us, v, u, g.sqT h, g.sqT h', e1, e2⟩, fun z H' y => ?_⟩
    obtain ⟨T, v', u', rfl, hT, rfl, y1, y2⟩ := y
    have z1 := y1 vs (g.sqT h)
    have z2 := y2 us (g.sqT h')
    rw [e1] at z1
    rw [e2] at z2
    cases z1
    cases z2
    have gn : Grow η H η (upd H T (.tup [v, u])) := grow_new hT
    exact ⟨η, gn, gr.new hT, .tup (.inl (.inl upd_same)) (.cons (r1.grow gn) (.cons (r2.grow gn) .nil))⟩
  stop := fun η S H g gr ok => ⟨vs, us, g.sqT h, g.sqT h', by rw [← hr.length, ← hs.length]; exact zip_length ds es⟩
end
section
variable {X : Cx} {B : Bs} {tg e e2 : Expr} {te : GE} {tes : GA} {pos p tpos : Pos} {elts : List Expr} {kk : Nat}
/-- a list, by its object -/
theorem gi_lst (he : GPE X B e te) : GPI X B tg e (giLst te) :=
  PI.weak (pi_list he) fun τ H R ⟨η, S, σ, RG, sr, gr, q, k⟩ =>
    ⟨η, S, σ, _, sr, gr, q, fun d S1 η1 H1 v q1 g1 gr1 r1 => by
      cases r1 with
      | obj e1 =>
        simp only at q1
        split at q1
        · rename_i ds hk
          obtain ⟨vs, hv, hr⟩ := gr1.obj e1 hk
          exact ⟨_, rfl, ⟨vs, .of hv⟩, k _ S1 η1 H1 _ q1 g1 gr1 (walk_lst e1)⟩
        · exact q1.elim
      | rol h hr => exact ⟨_, rfl, ⟨_, h.1⟩, k _ S1 η1 H1 _ q1 g1 gr1 (walk_rol h hr)⟩
      | _ => exact q1.elim⟩
theorem gi_tup (he : GPE X B e te) : GPI X B tg e (giTup te) :=
  PI.weak (pi_tup he) fun τ H R ⟨η, S, σ, RG, sr, gr, q, k⟩ =>
    ⟨η, S, σ, _, sr, gr, q, fun d S1 η1 H1 v q1 g1 gr1 r1 => by
      cases r1 with
      | tup h hr => exact ⟨_, rfl, ⟨_, h⟩, k _ S1 η1 H1 _ q1 g1 gr1 (walk_tup h hr)⟩
      | _ => exact q1.elim⟩
theorem gi_str (he : GPE X B e te) : GPI X B tg e (giStr te) :=
  PI.weak (pi_str he) fun τ H R ⟨η, S, σ, RG, sr, gr, q, k⟩ =>
    ⟨η, S, σ, _, sr, gr, q, fun d S1 η1 H1 v q1 g1 gr1 r1 => by
      cases r1 with
      | str x => exact ⟨_, rfl, k _ S1 η1 H1 _ q1 g1 gr1 walk_str⟩
      | _ => exact q1.elim⟩
theorem gi_rng1 (hm : X.mg "range" = none) (ha : GPA X B [e] tes) (hg : Gl X "range" := by rfl) (hs : starEach [e] X.env = [(false, eval e X.env)] := by rfl) : GPI X B tg (.Call (.Name "range" p) [e] [] pos) (giRng1 tes) :=
  PI.weak (pi_range1 hg hm ha hs) fun τ H R ⟨η, S, σ, RG, sr, gr, q, k⟩ =>
    ⟨η, S, σ, _, sr, gr, q, fun ds S1 η1 H1 vs q1 g1 gr1 r1 => by
      cases r1 with
      | nil => exact q1.elim
      | cons r1 r2 => cases r1 with
        | int j => cases r2 with
          | nil => exact ⟨j, rfl, q1.1.1, q1.1.2, k _ S1 η1 H1 _ q1.2 g1 gr1 walk_rng⟩
          | cons _ _ => exact q1.elim
        | _ => cases r2 <;> exact q1.elim⟩
theorem gi_rng2 (hm : X.mg "range" = none) (ha : GPA X B [e, e2] tes) (hg : Gl X "range" := by rfl) (hs : starEach [e, e2] X.env = [(false, eval e X.env), (false, eval e2 X.env)] := by rfl) (hs2 : starEach [e2] X.env = [(false, eval e2 X.env)] := by rfl) : GPI X B tg (.Call (.Name "range" p) [e, e2] [] pos) (giRng2 tes) :=
  PI.weak (pi_range2 hg hm ha hs hs2) fun τ H R ⟨η, S, σ, RG, sr, gr, q, k⟩ =>
    ⟨η, S, σ, _, sr, gr, q, fun ds S1 η1 H1 vs q1 g1 gr1 r1 => by
      cases r1 with
      | nil => exact q1.elim
      | cons r1 r2 => cases r1 with
        | int i => cases r2 with
          | nil => exact q1.elim
          | cons r2 r3 => cases r2 with
            | int j => cases r3 with
              | nil => exact ⟨i, j, rfl, q1.1, k _ S1 η1 H1 _ q1.2 g1 gr1 walk_rng⟩
              | cons _ _ => exact q1.elim
            | _ => cases r3 <;> exact q1.elim
        | _ => cases r2 with
          | nil => exact q1.elim
          | cons r2 r3 => cases r3 <;> exact q1.elim⟩
theorem gi_enum (hm : X.mg "enumerate" = none) (ha : GPA X B [e] tes) (hg : Gl X "enumerate" := by rfl) (hs : starEach [e] X.env = [(false, eval e X.env)] := by rfl) : GPI X B (.Tuple elts kk tpos) (.Call (.Name "enumerate" p) [e] [] pos) (giEnum tes) :=
  PI.weak (pi_enum hg hm ha hs) fun τ H R ⟨η, S, σ, RG, sr, gr, q, k⟩ =>
    ⟨η, S, σ, _, sr, gr, q, fun ds S1 η1 H1 vs q1 g1 gr1 r1 => by
      cases r1 with
      | nil => exact q1.elim
      | cons r1 r2 => cases r1 with
        | obj e1 => cases r2 with
          | nil =>
            simp only at q1
            split at q1
            · rename_i es hk
              obtain ⟨vs, hv, hr⟩ := gr1.obj e1 hk
              exact ⟨_, vs, rfl, .of hv, k _ S1 η1 H1 _ q1 g1 gr1 (walk_enum e1)⟩
            · exact q1.elim
          | cons _ _ => exact q1.elim
        | _ => cases r2 <;> exact q1.elim⟩
theorem gi_zip (hm : X.mg "zip" = none) (ha : GPA X B [e, e2] tes) (hg : Gl X "zip" := by rfl) (hs : starEach [e, e2] X.env = (false, eval e X.env) :: starEach [e2] X.env := by rfl) (hpl : (backTo pos (starEach [e2] X.env)).any (·.1) = false := by rfl) :
    GPI X B (.Tuple elts kk tpos) (.Call (.Name "zip" p) [e, e2] [] pos) (giZip tes) :=
  PI.weak (RZ.pi_zipA hg hm ha hs hpl) fun τ H R ⟨η, S, σ, RG, sr, gr, q, k⟩ =>
    ⟨η, S, σ, _, sr, gr, q, fun ds S1 η1 H1 vs q1 g1 gr1 r1 => by
      cases r1 with
      | nil => exact q1.elim
      | cons r1 r2 => cases r1 with
        | obj e1 => cases r2 with
          | nil => exact q1.elim
          | cons r2 r3 => cases r2 with
            | obj e2 => cases r3 with
              | nil =>
                simp only at q1
                split at q1
                · rename_i a b ha hb
                  obtain ⟨vs, hv, hr⟩ := gr1.obj e1 ha
                  obtain ⟨us, hu, hs⟩ := gr1.obj e2 hb
                  exact ⟨_, _, vs, us, rfl, .inl ⟨.of hv, .of hu, k _ S1 η1 H1 _ q1 g1 gr1 (walk_zip e1 e2)⟩⟩
                · exact q1.elim
              | cons _ _ => exact q1.elim
            | _ => cases r3 <;> exact q1.elim
        | tup h1 h2 => cases r2 with
          | nil => exact q1.elim
          | cons r2 r3 => cases r2 with
            | tup h3 h4 => cases r3 with
              | nil => exact ⟨_, _, _, _, rfl, .inr ⟨h1, h3, k _ S1 η1 H1 _ q1 g1 gr1 (walk_zipT h1 h2 h3 h4)⟩⟩
              | cons _ _ => exact q1.elim
            | _ => cases r3 <;> exact q1.elim
        | _ => cases r2 with
          | nil => exact q1.elim
          | cons r2 r3 => cases r3 <;> exact q1.elim⟩

/-! ### for -/
theorem forL_ok {ok : SS → Prop} {g : GG} {t : GS} {ds : List D} {D' : GEnds} {σ : Sl} {S : SS} (h : forL ok g t ds D' σ S) : ok S := by
  cases ds <;> exact h.1
theorem drop_get {α : Type} {l : List α} {i : Nat} {d : α} (h : l[i]? = some d) : l.drop i = d :: l.drop (i + 1) := by
  obtain ⟨h1, h2⟩ := List.getElem?_eq_some_iff.mp h
  rw [List.drop_eq_getElem_cons h1, h2]
theorem gs_for {body : List Stmt} {it : GI} {g : GG} {t : GS} (hp : PassesOwn (model X.prog X.w) X.A X.env X.xe) (hi : GPI X B tg e it) (hg : GPG X B tg g) (hb : GPSs X B body t) (hc : X.calm = true := by rfl)
    (hs : ∀ x, foldedSetIterable e X.env x = pure x := by intro _; rfl) : GPS X B (.For tg e body [] pos) (gsFor it g t) :=
  PS.weak (ps_for hp hc hi hg hb hs) fun Dv τ H ⟨η, S, σ, G, sr, gr, q, k⟩ => by
    refine ⟨η, S, σ, _, sr, gr, q, fun J S1 η1 H1 J' q1 g1 gr1 w => ?_⟩
    refine ⟨fun i m τ' H' => ∃ η' S' σ', Grow η1 H1 η' H' ∧ SG X.K B η' H' σ' τ' ∧ GR X.K η' S' H' ∧ i ≤ J.items.length ∧ m = J.items.length - i ∧ forL J.ok g t (J.items.drop i) G σ' S', ⟨_, η1, S1, σ, .refl, sr.grow g1, gr1, Nat.zero_le _, rfl, by rw [List.drop_zero]; exact q1⟩, ?_⟩
    rintro i m τ2 H2 ⟨η2, S2, σ2, g2, sr2, gr2, hi2, rfl, f2⟩
    by_cases hl : i < J.items.length
    · have he : J.items[i]? = some J.items[i] := List.getElem?_eq_getElem hl
      obtain ⟨go, yl⟩ := w.go i _ η2 S2 H2 he g2 gr2 (forL_ok f2)
      rw [drop_get he] at f2
      refine .inr ⟨go, fun τ' H' => ∃ η' S' σ', Grow η1 H1 η' H' ∧ SG X.K B η' H' σ' τ' ∧ GR X.K η' S' H' ∧ forL J.ok g t (J.items.drop (i + 1)) G σ' S', ?_, fun x H3 y => ?_⟩
      · rintro τ' H' ⟨η', S', σ', g', sr', gr', f'⟩
        exact ⟨J.items.length - (i + 1), by omega, η', S', σ', g', sr', gr', hl, rfl, f'⟩
      · obtain ⟨η3, g3, gr3, r3⟩ := yl x H3 y
        refine ⟨η3, S2, σ2, _, _, sr2.grow g3, gr3, r3, f2.2, fun σ4 S4 η4 H4 τ4 q4 g4 sr4 gr4 => ?_⟩
        have gg := (g2.trans g3).trans g4
        have ge := g1.trans gg
        exact ⟨η4, S4, σ4, _, sr4, gr4, q4, ⟨fun σ' S' η' H' τ' q' g' sr' gr' => ⟨η', S', σ', gg.trans g', sr', gr', q'⟩, k.rt.grow ge, fun σ' S' η' H' τ' q' g' sr' gr' => k.nx σ' S' η' H' τ' q' (ge.trans g') sr' gr',
          fun σ' S' η' H' τ' q' g' sr' gr' => ⟨η', S', σ', gg.trans g', sr', gr', q'⟩⟩⟩
    · have : i = J.items.length := by omega
      subst this
      rw [List.drop_length] at f2
      exact .inl ⟨w.stop η2 S2 H2 g2 gr2 f2.1, k.nx σ2 S2 η2 H2 τ2 f2.2 (g1.trans g2) sr2 gr2⟩

/-! ### comprehensions -/
theorem sg_wipe {K : PySem.W.Frag} {η : List Addr} {H : Hp} {σ : Sl} {τ : L2.St} (s : SG K B η H σ τ) : ∀ vs : List Nat, SG K B η H (wipeG σ vs) (wipe τ vs)
  | [] => s
  | v :: vs => (sg_wipe s vs).wipe v
theorem wipe_idem (τ : L2.St) : ∀ vs us : List Nat, (∀ v ∈ vs, v ∈ us) → wipe (wipe τ vs) us = wipe τ us
  | [], us, _ => rfl
  | v :: vs, us, h => by
    show wipe ((wipe τ vs).set v none) us = _
    rw [wipe_set us _ v none (h v List.mem_cons_self), wipe_idem τ vs us fun w hw => h w (List.mem_cons_of_mem _ hw)]
theorem lcL_ok {ok : SS → Prop} {n : Nat} {p : Pat} {c : GT} {e : GE} {vs : List Nat} {σ : Sl} {Q : GQ} {ds acc : List D} {S : SS} (h : lcL ok n p c e vs σ Q ds acc S) : ok S ∧ S[n]? = some (.lst acc) := by
  cases ds <;> exact ⟨h.1, h.2.1⟩
def GPTs (X : Cx) (B : Bs) (ifs : List Expr) (t : GT) : Prop := PTs X ifs (LT X.K B t)
theorem gts_nil : GPTs X B [] gtYes := ⟨fun pins s τ H Q I ⟨η, S, σ, R, sr, gr, q, k⟩ => pts_nil.run pins s τ H Q I (k true S η H q .refl gr)⟩
theorem gts_one {c : Expr} {t : GT} (h : GPT X B c t) : GPTs X B [c] t := pts_one h
theorem lc_weak {it : GI} {pt : Pat} {c : GT} {u : GE} {vs : List Nat} (hp : patIn vs pt = true) (τ : L2.St) (H : Hp) (Q : VK) (h : LE X.K B (gLc it pt c u vs) τ H Q) : tLc (LI X.K B it) (patV X.K pt) (LT X.K B c) (LE X.K B u) vs τ H Q := by
    obtain ⟨η, S, σ, R, sr, gr, q, k⟩ := h
    refine ⟨η, S, σ, _, sr, gr, q, fun J S1 η1 H1 J' q1 g1 gr1 w D hD => ?_⟩
    have gp : Grow η1 H1 (η1 ++ [D]) (upd H1 D (.lst [])) := grow_push hD
    have hk : ∀ {η' : List Addr} {H' : Hp}, Grow (η1 ++ [D]) (upd H1 D (.lst [])) η' H' → η'[S1.length]? = some D := fun g => g.get (by rw [← gr1.len]; simp)
    refine ⟨fun i m H' => ∃ η' S' acc, Grow (η1 ++ [D]) (upd H1 D (.lst [])) η' H' ∧ GR X.K η' S' H' ∧ i ≤ J.items.length ∧ m = J.items.length - i ∧ lcL J.ok S1.length pt c u vs σ R (J.items.drop i) acc S',
      ⟨_, η1 ++ [D], S1 ++ [GO.lst []], [], .refl, gr1.push (u := .lst []) hD ⟨[], upd_same, .nil⟩, Nat.zero_le _, rfl, by rw [List.drop_zero]; exact q1⟩, ?_⟩
    rintro i m H2 ⟨η2, S2, acc, g2, gr2, hi2, rfl, f2⟩
    obtain ⟨ok2, acc2⟩ := lcL_ok f2
    have g12 := gp.trans g2
    by_cases hl : i < J.items.length
    · have he : J.items[i]? = some J.items[i] := List.getElem?_eq_getElem hl
      obtain ⟨go, yl⟩ := w.go i _ η2 S2 H2 he g12 gr2 ok2
      rw [drop_get he] at f2
      obtain ⟨_, _, hlen, f2⟩ := f2
      refine .inr ⟨go, fun H' => ∃ η' S' acc', Grow (η1 ++ [D]) (upd H1 D (.lst [])) η' H' ∧ GR X.K η' S' H' ∧ lcL J.ok S1.length pt c u vs σ R (J.items.drop (i + 1)) acc' S', ?_, fun x H3 y => ?_⟩
      · rintro H' ⟨η', S', acc', g', gr', f'⟩
        exact ⟨J.items.length - (i + 1), by omega, η', S', acc', g', gr', hl, rfl, f'⟩
      · obtain ⟨η3, g3, gr3, r3⟩ := yl x H3 y
        split at f2
        · rename_i σ1 e1
          have g13 := g12.trans g3
          refine runP_ok pt _ _ σ1 x _ _ e1 (sg_wipe ((sr.grow g1).grow g13) vs) r3 fun τ3 sr3 w3 => ⟨?_, ?_⟩
          · rw [w3 vs hp, wipe_idem τ vs vs fun _ h => h]
          · refine ⟨η3, S2, σ1, _, sr3, gr3, f2, fun b S4 η4 H4 q4 g4 gr4 => ?_⟩
            have g24 := (g2.trans g3).trans g4
            cases b with
            | false => exact ⟨η4, S4, acc, g24, gr4, q4⟩
            | true =>
              refine iteT ⟨η4, S4, σ1, _, sr3.grow g4, gr4, q4, fun d S5 η5 H5 v q5 g5 gr5 r5 => ?_⟩
              have e5 := hk (g24.trans g5)
              obtain ⟨us, hu5, hr5⟩ := gr5.obj e5 q5.1
              have gs5 := gr5.growSet (o := .lst (us ++ [v])) e5 ⟨(fun _ z => nomatch hu5.symm.trans z), (fun _ z => nomatch hu5.symm.trans z)⟩
              exact ⟨us, hu5, by rw [← hr5.length]; exact hlen, η5, _, acc ++ [d], (g24.trans g5).trans gs5, gr5.set e5 ⟨(fun _ z => nomatch hu5.symm.trans z), (fun _ z => nomatch hu5.symm.trans z)⟩ (u := .lst (acc ++ [d])) ⟨_, upd_same, (hr5.append (.cons r5 .nil)).grow gs5⟩, q5.2⟩
        · exact f2.elim
    · have : i = J.items.length := by omega
      subst this
      rw [List.drop_length] at f2
      obtain ⟨_, _, f2⟩ := f2
      exact .inl ⟨w.stop η2 S2 H2 g12 gr2 ok2, k _ S2 η2 H2 _ f2 (g1.trans g12) gr2 (.obj (hk g2))⟩
theorem ge_lc {elt : Expr} {ifs : List Expr} {scope : Scope} (own : List (Str × Nat)) {it : GI} {pt : Pat} {c : GT} {u : GE} (hN : X.N.Nodup) (hi : GPI X B tg e it) (ok : BlkOk X.N X.env.scope scope own)
    (hg : ∀ (s : Shared) (H : Hp) (C : Addr) (cl : List (Str × Addr)) (fp : List Addr), PG (X.blk s H scope (compEnvC scope cl C X.env) fp) tg (patV X.K pt)) (ht : ∀ (s : Shared) (H : Hp) (C : Addr) (cl : List (Str × Addr)) (fp : List Addr), GPTs (X.blk s H scope (compEnvC scope cl C X.env) fp) B ifs c)
    (hu : ∀ (s : Shared) (H : Hp) (C : Addr) (cl : List (Str × Addr)) (fp : List Addr), GPE (X.blk s H scope (compEnvC scope cl C X.env) fp) B elt u) (hp : patIn (own.map (·.2)) pt = true := by rfl) (hc : X.calm = true := by rfl) (hs : ∀ x, foldedSetIterable e X.env x = pure x := by intro _; rfl) :
    GPE X B (.ListComp elt [⟨tg, e, ifs, 0⟩] scope pos) (gLc it pt c u (own.map (·.2))) :=
  PE.weak (pe_lc (tt := LT X.K B c) (te := LE X.K B u) hc hN hi ok hg ht hu hs) fun τ H Q h => lc_weak hp τ H Q h
end
end Gh

/-! Gg: room for calls that also says that no repr is going on: the rules of a def, of a property and of the law's call for it. -/
namespace Gh
open PySem PySem.Spec PyProof.Rows L2
variable [TabsC]

structure Rm (k : Nat) (A : Around) : Prop where
  rm : Room k A
  gd : A.guards = some []
namespace Rm
variable {j k : Nat} {A : Around}
theorem mono (r : Rm k A) (h : j ≤ k) : Rm j A := ⟨r.rm.mono h, r.gd⟩
theorem deeper (r : Rm (k + 1) A) (env : Env) : Rm k (A.deeper env) := ⟨r.rm.deeper env, r.gd⟩
theorem in1 (r : Rm (k + 1) A) : Rm k A.in1 := ⟨r.rm.in1, r.gd⟩
theorem make (r : Rm (k + 1) A) (C : Addr) (us : List Value) (kw : List (Str × Value)) : Rm k (A.under (.builtin "type.__call__" ⟨.ref C :: us, kw⟩)) :=
  ⟨r.rm.make C us kw, by
    have e : (Code.builtin "type.__call__" ⟨.ref C :: us, kw⟩).guards = [] := by simp [Code.guards, Code.isGuard, guardIds]
    show pushGuards (Code.builtin "type.__call__" ⟨.ref C :: us, kw⟩).guards A.guards = some []
    rw [e, r.gd]
    rfl⟩
theorem units (r : Rm k A) : A.units + 64 < cLine := r.rm.units
theorem units0 (r : Rm k A) : A.units < cLine := r.rm.units0
end Rm
theorem huR {k : Nat} {A : Around} (r : Rm k A) : A.units + 1 < cLine := L2.hu_of r.rm

section
variable {P : Program} {w : World} {K : PySem.W.Frag} {mg : Str → Option Value} {base : Heap}
/-- a def's promise, wherever such room is -/
structure GOk (P : Program) (w : World) (K : PySem.W.Frag) (mg : Str → Option Value) (base : Heap) (k : Nat) (f : Addr) (fd : FuncData) (ps : List Str) (sp : Sp) : Prop where
  len : ∀ vs H Q E, sp vs H Q E → vs.length = ps.length
  run : ∀ (A : Around) (ou : List Env) (st : Shared) (H : Hp) (gs : Args) (us : List Value) (vs : List V) (Q : VK) (E : XK), Rm k A → Env0 P w K mg base A ou st H → BindsTo st fd gs (ps.zip us) → Vals vs us → sp vs H Q E →
    codeAny (model P w) A (.call (.ref f) gs) (CR (L2.CX P w) ou P w H st Q E) st
theorem GOk.mono {j k : Nat} {f : Addr} {fd : FuncData} {ps : List Str} {sp : Sp} (F : GOk P w K mg base j f fd ps sp) (h : j ≤ k) : GOk P w K mg base k f fd ps sp := ⟨F.len, fun A ou st H gs us vs Q E r => F.run A ou st H gs us vs Q E (r.mono h)⟩
/-- the same without the binding -/
def GR0 (P : Program) (w : World) (K : PySem.W.Frag) (mg : Str → Option Value) (base : Heap) (k : Nat) (f : Addr) (sp : Sp) : Prop :=
  ∀ (A : Around) (ou : List Env) (st : Shared) (H : Hp) (us : List Value) (vs : List V) (Q : VK) (E : XK), Rm k A → Env0 P w K mg base A ou st H → Vals vs us → sp vs H Q E →
    codeAny (model P w) A (.call (.ref f) ⟨us, []⟩) (CR (L2.CX P w) ou P w H st Q E) st
theorem GR0.mono {j k : Nat} {f : Addr} {sp : Sp} (F : GR0 P w K mg base j f sp) (h : j ≤ k) : GR0 P w K mg base k f sp := fun A ou st H us vs Q E r => F A ou st H us vs Q E (r.mono h)
theorem GR0.imp {k : Nat} {f : Addr} {sp sp' : Sp} (F : GR0 P w K mg base k f sp) (h : ∀ vs H Q E, sp' vs H Q E → sp vs H Q E) : GR0 P w K mg base k f sp' := fun A ou st H us vs Q E r e v q => F A ou st H us vs Q E r e v (h _ _ _ _ q)
theorem GOk.raw {k : Nat} {f : Addr} {fd : FuncData} {ps : List Str} {sp : Sp} {us0 : List Value} {vs0 : List V} (F : GOk P w K mg base k f fd ps sp) (bd : Binds K fd ps us0) (rv : Vals vs0 us0) : GR0 P w K mg base k f (fun vs H Q E => sp (vs ++ vs0) H Q E) := fun A ou st H us vs Q E r e v q =>
  have v2 := v.append rv
  F.run A ou st H ⟨us, []⟩ (us ++ us0) (vs ++ vs0) Q E r e (bd st us (e.mod.kin.keeps fun b o z => (e.bs b o z).1) (by rw [← v2.length]; exact F.len _ _ _ _ q)) v2 q
variable {x qual : Str} {params : Arguments} {body : List Stmt} {scope : Scope} {dvs : List V} {kws : List (Str × V)} {f : Addr} {fd : FuncData}
/-- the code object of the function at f -/
def codeOf (K : PySem.W.Frag) (f : Addr) : Option Value := match K.lookup f with
  | some o => (match o.data with
    | .func fd => some fd.code
    | _ => none)
  | none => none
/-- the rule of a def, by its body -/
theorem def_ok {N ps : List Str} {k : Nat} {sp : Sp} (F : FunD K x qual params body scope dvs kws f fd) (Sc : FnScope N ps scope) (len : ∀ vs H Q E, sp vs H Q E → vs.length = ps.length)
    (go : ∀ (cv : Value), codeOf K f = some cv → ∀ (A : Around) (ou : List Env) (st : Shared) (H : Hp) (vs : List V) (Q : VK) (E : XK), Rm k (A.deeper (envOfC qual scope st.heap.objs.size f cv)) → sp vs H Q E →
      ∃ t, PSs (cxOf (L2.CX P w) P w K mg base N qual scope f cv A ou st H E) body t ∧ t { nx := fun _ H' => Q .non H', rt := Q } (L2.start N vs) H) : GOk P w K mg base (k + 1) f fd ps sp := by
  obtain ⟨oc, od, dV, kV, doc, pm, an, cv, ct, osl, rfl, look, code, _, _⟩ := F.ex
  refine ⟨len, fun A ou st H gs us vs Q E room e0 bd rv hsp => ?_⟩
  have lv := len _ _ _ _ hsp
  have kin : K.In st.heap := e0.mod.kin.keeps fun b o z => (e0.bs b o z).1
  have kinds : ∀ y ∈ ps.zip us, scope.names.lookup y.1 = some .local ∨ (scope.names.lookup y.1 = some .cell ∧ ((cellsFrom (st.heap.objs.size + 1) scope.names []).lookup y.1).isSome = true) := by
    rintro ⟨n, u⟩ hy
    exact (Sc.par n (List.of_mem_zip hy).1).imp id fun q => ⟨q, PySem.W.cellsFrom_some _ _ _ (.inl q)⟩
  refine codeAny_call_function room.rm.depth (kin _ _ look) rfl Sc.co Sc.gen rfl (PySem.W.codeRec_of kin code) (bd _ _ _ _ ?_)
  refine wpAny_newFunctionEnv_cells Sc.kind kinds fun env he st1 inC => ?_
  subst he
  refine ⟨(e0.mod.nolimit.keeps fun b o z => (e0.bs b o z).1).keeps inC.toInCall.keep, codeAny_func ?_⟩
  obtain ⟨t, ht, q0⟩ := go cv (by unfold codeOf; rw [look]) A ou st H vs Q E (room.deeper _) hsp
  have I0 : Inv (cxOf (L2.CX P w) P w K mg base N qual scope f cv A ou st H E) [] (L2.start N vs) H st1 := inv_start Sc room.rm.hd e0 lv rv inC
  refine wpAny_mono (ht.run [] st1 (L2.start N vs) H _ I0 q0) (fun fl st2 z => ?_) fun _ _ z => z
  cases fl with
  | ret u => obtain ⟨v, τ, H2, J, ru, q⟩ := z; exact ⟨v, H2, J.os, J.bare, J.base, J.hok, ru, q⟩
  | next => obtain ⟨τ, H2, J, q⟩ := z; exact ⟨V.non, H2, J.os, J.bare, J.base, J.hok, (rfl : RelV V.non Value.none), q⟩
  | brk => obtain ⟨_, _, _, q⟩ := z; exact q.elim
  | cont => obtain ⟨_, _, _, q⟩ := z; exact q.elim
end
section
variable {X : Cx} {k : Nat} {C p g a dx : Addr} {fs : List (Str × V)} {n : Str} {fd : FuncData} {sp : Sp} {Q : VK} {E : XK} {pins : List (Addr × Obj)} {τ : L2.St} {H : Hp} {st : Shared} {fl : Bool} {E' : Value → Shared → Prop}
/-- a property's getter, called by the read -/
theorem prop_run (I : Inv X pins τ H st) (ho : H a = some (.ins C dx fs)) (cl : Cls X.K C) (hp : PropOf X.K C n p g) (F : GOk X.prog X.w X.K X.mg X.base k g fd ["self"] sp) (room : Rm (k + 1) X.A) (bd : Binds X.K fd ["self"] [])
    (none_ : ∀ cls d H', ¬ E cls d H') (h : sp [.ref a] H Q E) : wpAny (model X.prog X.w) X.A (getAttr (.ref a) n fl) (EP X pins τ Q) E' st := by
  obtain ⟨mA, O, _, _, _, _⟩ := ins_get I.hok ho
  obtain ⟨od, J, _⟩ := O.look
  obtain ⟨more, hrec⟩ := hp.rec_
  have J1 := I.tok (st.toks + 1)
  have hcls : (PySem.W.clsIn X.K C).isSome = true := by
    obtain ⟨cd, e, _⟩ := PySem.W.any_some cl.hd
    exact Option.isSome_iff_exists.mpr ⟨cd, e⟩
  refine PySem.W.get_bind I.kIn J (PySem.W.plainGet_of (cl.get n)).1 (PySem.W.findObj_data hcls hp.at_ hp.get hp.tak) (PySem.W.plainGet_of (cl.get n)).2 (wpAny_call (PySem.W.prop_get (s := { st with toks := st.toks + 1 }) I.kIn hrec ?_))
  refine codeAny_mono (F.run X.A.in1 X.stack { st with toks := st.toks + 1 } H ⟨[.ref a], []⟩ [.ref a] [.ref a] Q E room.in1 J1.env0.in1 (bd _ [.ref a] J1.kIn rfl) (.cons rfl .nil) h) fun r st2 z => ?_
  cases r with
  | error e => obtain ⟨_, _, _, _, _, _, _, _, _, _, _, _, z⟩ := z; exact (none_ _ _ _ z).elim
  | ok fl =>
    cases fl with
    | ret u =>
      obtain ⟨v, H2, J2, ru, q⟩ := J1.after z
      show wpAny _ _ (handedOut u) _ _ _
      rw [PySem.W.handedOut_of (handed_of ru)]
      exact wpAny_pure ⟨v, H2, J2, ru, q⟩
    | next => exact z.elim
    | brk => exact z.elim
    | cont => exact z.elim
end
/-- the law's def called on the script, from a heap in which nothing but the script is tracked -/
theorem law_run {P : Program} {w : World} {K : PySem.W.Frag} {mg mb : Str → Option Value} {k : Nat} {fl scr : Addr} {fd : FuncData} {par : Str} {sp : Sp} {st : Shared} {us : List Value} {ns : List Int}
    (kin : K.In st.heap) (nsM : st.heap.Ns mainGlobals mg) (nsB : st.heap.Ns builtinsNs mb) (boot : ∀ y : Str, y ≠ "__name__" → mb y = bootBuiltins y) (lim : st.heap.NoLimit) (gens : st.gens = #[])
    (hs : st.heap.get? scr = some { cls := .type "list", data := .seq us.toArray }) (nsi : IntsAre us ns) (le : ns.length ≤ sizeLine) (room : Rm k callerA)
    (F : ∀ base : Heap, K.In base → base.Ns mainGlobals mg → GOk P w K mg base k fl fd [par] sp) (bd : ∀ (s : Shared) (u : Value), BindsTo s fd ⟨[u], []⟩ [(par, u)])
    (good : ∀ H : Hp, Only H → SqL K H scr (ns.map V.int) → sp [.ref scr] H (fun v _ => v = .bl true) fun _ _ _ => False) :
    codeAny (model P w) callerA (.call (.ref fl) ⟨[.ref scr], []⟩) (fun r s' => r = .ok (.ret (.bool true)) ∧ OldK st.heap s'.heap ∧ s'.os = st.os ∧ AllBare s'.gens) st := by
  have rv := vals_ints nsi
  have main : ∀ H : Hp, Only H → SqL K H scr (ns.map V.int) → HOk P w H st.heap → (∀ b u, H b = some u → b = scr ∧ K.lookup scr = none) →
      codeAny (model P w) callerA (.call (.ref fl) ⟨[.ref scr], []⟩) (fun r s' => r = .ok (.ret (.bool true)) ∧ OldK st.heap s'.heap ∧ s'.os = st.os ∧ AllBare s'.gens) st := by
    intro H only sq hok at_
    have dictN : ∀ {b : Addr} {o : Obj} {es : Array DictEntry} {ep : Nat}, st.heap.get? b = some o → o.data = .dict es ep → H b = none := by
      intro b o es ep e dd
      cases q : H b with
      | none => rfl
      | some u =>
        obtain ⟨rfl, _⟩ := at_ b u q
        rw [hs] at e
        cases e
        exact nomatch (show Data.seq us.toArray _ = Data.dict es ep from dd)
    have nsH : ∀ {b : Addr} {m : Str → Option Value}, st.heap.Ns b m → (hidT st.heap H).Ns b m := by
      rintro b m ⟨o, es, ep, e, dd, r⟩
      exact ⟨o, es, ep, hidT_get e (dictN e dd), dd, r⟩
    have kinH : K.In (hidT st.heap H) := by
      intro b o e
      refine hidT_get (kin b o e) ?_
      cases q : H b with
      | none => rfl
      | some u =>
        obtain ⟨rfl, no⟩ := at_ b u q
        rw [no] at e
        cases e
    obtain ⟨mc, c1, c2⟩ := lim
    have e0 : Env0 P w K mg (hidT st.heap H) callerA [] st H :=
      ⟨rfl, ⟨kinH, nsH nsM, ⟨mb, nsH nsB, boot⟩, ⟨mc, nsH c1, c2⟩⟩, fun _ _ e => of_hidT e, Nat.le_of_eq (hidT_size _ _), trivial, fun b z => by simp [frs] at z, hok, .of_eq gens⟩
    refine codeAny_mono ((F _ kinH (nsH nsM)).run callerA [] st H ⟨[.ref scr], []⟩ [.ref scr] [.ref scr] _ _ room e0 (bd st (.ref scr)) (.cons rfl .nil) (good H only sq)) fun r s' z => ?_
    cases r with
    | error e => obtain ⟨_, _, _, _, _, _, _, _, _, _, _, _, z⟩ := z; exact z.elim
    | ok fw =>
      cases fw with
      | ret u =>
        obtain ⟨v, H2, os, bare, un, hok2, ru, qv⟩ := z
        obtain rfl : v = .bl true := qv
        obtain rfl : u = Value.bool true := ru
        refine ⟨rfl, OldK.of_keep fun b o e => ?_, os, bare⟩
        cases q : H b with
        | none => exact un.keep b o e q (by simp [frs]) (by simp)
        | some t =>
          rcases only b with z | ⟨ob, ys, z⟩
          · rw [q] at z; cases z
          · have k1 := (hok b _ z).1
            have k2 := (hok2 b _ (un.frzs b ob _ z)).1
            rw [e] at k1
            cases k1
            exact k2
      | next => exact z.elim
      | brk => exact z.elim
      | cont => exact z.elim
  cases kl : K.lookup scr with
  | some o =>
    have e := kin scr o kl
    rw [hs] at e
    cases e
    exact main (fun _ => none) (fun _ => .inl rfl) (.inr ⟨_, us.toArray, _, kl, rfl, rfl, rfl, by rw [List.size_toArray, nsi.length]; exact le, by simpa using rv⟩) (fun _ _ z => nomatch z) fun _ _ z => nomatch z
  | none =>
    let ob : Obj := { cls := .type "list", data := .seq us.toArray }
    have one : ∀ b u, (fun b => if b = scr then some (HO.frz ob (.lst (ns.map V.int))) else none : Hp) b = some u → b = scr ∧ u = .frz ob (.lst (ns.map V.int)) := by
      intro b u z
      by_cases hb : b = scr
      · exact ⟨hb, (Option.some.inj ((if_pos hb).symm.trans z)).symm⟩
      · exact nomatch (if_neg hb).symm.trans z
    refine main (fun b => if b = scr then some (.frz ob (.lst (ns.map V.int))) else none) (fun b => ?_) (.inl (.inr ⟨ob, if_pos rfl⟩)) (fun b u z => ?_) fun b u z => ⟨(one b u z).1, kl⟩
    · by_cases hb : b = scr
      · exact .inr ⟨ob, _, if_pos hb⟩
      · exact .inl (if_neg hb)
    · obtain ⟨rfl, rfl⟩ := one b u z
      exact ⟨hs, by rw [List.length_map]; exact le, us, _, rv, hs⟩
end Gh

/-! Gp: calls, instances, defs. -/
namespace Gh
open PySem PySem.Spec PyProof.Rows L2
variable [TabsC]

abbrev GFn (P : Program) (w : World) (K : PySem.W.Frag) (mg : Str → Option Value) (base : Heap) (k : Nat) (f : Addr) (sp : GSp) : Prop := GR0 P w K mg base k f (LSp K sp)
/-- what X wishes of exceptions -/
abbrev Tk (X : Cx) (B : Bs) (E : Sl → GX) : Prop := Takes X (LX X.K B E)
def noX : Sl → GX := fun _ _ _ _ => False
theorem tk_no {X : Cx} {B : Bs} : Tk X B noX := Takes.imp (W := fun _ _ _ _ => False) takes0 fun _ _ _ _ ⟨_, _, _, _, _, _, _, _, _, h⟩ => h
section
variable {X : Cx} {B : Bs} {k : Nat} {f : Addr} {sp : GSp} {E : Sl → GX} {pins : List (Addr × Obj)} {τ : L2.St} {H : Hp} {s : Shared} {η : List Addr} {S : SS} {σ : Sl} {ds : List D} {us : List Value} {vs : List V} {R : GQ} {Q : VK}
theorem kox_at (sg : SG X.K B η H σ τ) : KoX X.K η H (E σ) (WE (LX X.K B E) τ) := fun C fs S' η' H' dd h g gr p => ⟨C, fs, η', S', σ, rfl, sg.grow g, gr, p, h⟩
theorem run_g (F : GFn X.prog X.w X.K X.mg X.base k f sp) (hr : Rm k X.A) (tk : Tk X B E) (I : Inv X pins τ H s) (r : Vals vs us) (sg : SG X.K B η H σ τ) (gr : GR X.K η S H) (rs : VRs X.K η H ds vs) (h : sp ds S R (E σ)) (ko : Ko X.K η H R Q) :
    wpAny (model X.prog X.w) X.A (call (.ref f) us) (EP X pins τ Q) X.xe s := by
  refine wpAny_call (codeAny_mono (F X.A X.stack s H us vs Q (WE (LX X.K B E) τ) hr I.env0 r ⟨η, S, ds, R, E σ, gr, rs, h, ko, kox_at sg⟩) fun z s' hq => ?_)
  cases z with
  | error e => exact passAt tk τ pins H s e s' I hq
  | ok fl =>
    cases fl with
    | ret u => exact I.after hq
    | next => exact hq.elim
    | brk => exact hq.elim
    | cont => exact hq.elim
theorem run_mk {C : Addr} (M : Mk X.K C f) (F : GFn X.prog X.w X.K X.mg X.base k f sp) (hr : Rm (k + 1) X.A) (tk : Tk X B E) (I : Inv X pins τ H s) (r : Vals vs us) (sg : SG X.K B η H σ τ) (gr : GR X.K η S H) (rs : VRs X.K η H ds vs)
    (h : sp (.obj S.length :: ds) (S ++ [.ins C []]) (fun d S2 => d = .non ∧ R (.obj S.length) S2) (E σ)) (ko : Ko X.K η H R Q) :
    wpAny (model X.prog X.w) X.A (call (.ref C) us) (EP X pins τ Q) X.xe s := by
  have n1 : H (s.heap.objs.size + 1) = none := I.hok.fresh (Nat.le_succ _)
  have n2 : H s.heap.objs.size = none := I.hok.fresh (Nat.le_refl _)
  have n3 : s.heap.objs.size + 1 ≠ s.heap.objs.size := Nat.succ_ne_self _
  have I2 := Inv.made (C := C) I
  have g1 : Grow η H η (upd H s.heap.objs.size (.own (s.heap.objs.size + 1))) := grow_new n2
  have n4 : (upd H s.heap.objs.size (.own (s.heap.objs.size + 1))) (s.heap.objs.size + 1) = none := by rw [upd_ne n3]; exact n1
  have g2 : Grow η (upd H s.heap.objs.size (.own (s.heap.objs.size + 1))) (η ++ [s.heap.objs.size + 1]) (upd (upd H s.heap.objs.size (.own (s.heap.objs.size + 1))) (s.heap.objs.size + 1) (.ins C s.heap.objs.size [])) := grow_push n4
  have gr2 := (gr.new (o := .own (s.heap.objs.size + 1)) n2).push (u := .ins C []) (o := .ins C s.heap.objs.size []) n4 ⟨s.heap.objs.size, [], upd_same, .nil⟩
  have gg := g1.trans g2
  have eo : (η ++ [s.heap.objs.size + 1])[S.length]? = some (s.heap.objs.size + 1) := by rw [← gr.len]; simp
  have r2 : Vals (V.ref (s.heap.objs.size + 1) :: vs) (Value.ref (s.heap.objs.size + 1) :: us) := .cons rfl r
  have hq : LSp X.K sp (V.ref (s.heap.objs.size + 1) :: vs) (upd (upd H s.heap.objs.size (.own (s.heap.objs.size + 1))) (s.heap.objs.size + 1) (.ins C s.heap.objs.size [])) (fun v H2 => v = .non ∧ Q (.ref (s.heap.objs.size + 1)) H2) (WE (LX X.K B E) τ) :=
    ⟨_, _, _, _, E σ, gr2, .cons (.obj eo) (rs.grow gg), h, fun d S' η' H' v q g gr' rv => by
      obtain ⟨rfl, q⟩ := q
      cases rv
      exact ⟨rfl, ko _ S' η' H' _ q (gg.trans g) gr' (.obj (g.get eo))⟩, kox_at (sg.grow gg)⟩
  refine wpAny_call (make_map (f := f) I.kIn M.makes M.init (beq_iff_eq.mp M.fn) (codeAny_mono (F _ X.stack _ _ (Value.ref (s.heap.objs.size + 1) :: us) _ _ _ (hr.make C us []) (I2.env0.make C us []) r2 hq) fun z s' hq' => ?_))
  cases z with
  | error e => exact passAt tk τ pins _ _ e s' I2 hq'
  | ok fl =>
    cases fl with
    | ret u =>
      obtain ⟨v, H', I3, rv, ev, q3⟩ := I2.after hq'
      subst ev
      exact ⟨rv, ⟨V.ref (s.heap.objs.size + 1), H', I3, rfl, q3⟩⟩
    | next => exact hq'.elim
    | brk => exact hq'.elim
    | cont => exact hq'.elim
end

section
variable {X : Cx} {B : Bs} {k : Nat} {f C : Addr} {sp : GSp} {E : Sl → GX} {x m : Str} {p pos apos : Pos} {e o : Expr} {es : List Expr} {te : GE} {tes : GA}
/-- f(e, ..) -/
theorem ge_call (F : GFn X.prog X.w X.K X.mg X.base k f sp) (hr : Rm k X.A) (tk : Tk X B E) (hm : X.mg x = some (.ref f)) (hk : PySem.W.keepIn X.K (.ref f) = true) (ha : GPA X B (e :: es) tes) (hg : Gl X x := by rfl) (hdb : (x == ("__debug__" : Str)) = false := by decide)
    (he : starEach (e :: es) X.env = (false, eval e X.env) :: starEach es X.env := by rfl) (hpl : (backTo pos (starEach es X.env)).any (·.1) = false := by rfl) : GPE X B (.Call (.Name x p) (e :: es) [] pos) (gCall sp E tes) := by
  refine ⟨fun pins s τ H Q I ⟨η, S, σ, R, sr, gr, q, ko⟩ => ?_⟩
  refine wpAny_Call_Name_kw (ld_glob I hg hm ?_ hdb)
  refine PySem.W.callWith_K (h₀ := X.base) I.ok.mod.kin hk (thn (ha.run pos pins s τ H (fun vs H1 => ∃ η S σ ds, SG X.K B η H1 σ τ ∧ GR X.K η S H1 ∧ VRs X.K η H1 ds vs ∧ sp ds S R (E σ) ∧ Ko X.K η H1 R Q) I ⟨η, S, σ, _, sr, gr, q, fun ds S1 η1 H1 vs q1 g1 gr1 r1 => ⟨η1, S1, σ, ds, sr.grow g1, gr1, r1, q1, ko.grow g1⟩⟩) fun us s1 ⟨vs, H1, I1, r, η1, S1, σ1, ds, sr1, gr1, r1, q1, ko1⟩ => ⟨I1.kIn, ?_⟩) he hpl
  exact run_g F hr tk I1 r sr1 gr1 r1 q1 ko1
theorem ge_call0 (F : GFn X.prog X.w X.K X.mg X.base k f sp) (hr : Rm k X.A) (tk : Tk X B E) (hm : X.mg x = some (.ref f)) (hk : PySem.W.keepIn X.K (.ref f) = true) (hg : Gl X x := by rfl) (hdb : (x == ("__debug__" : Str)) = false := by decide) : GPE X B (.Call (.Name x p) [] [] pos) (gCall sp E gNil) := by
  refine ⟨fun pins s τ H Q I ⟨η, S, σ, R, sr, gr, q, ko⟩ => ?_⟩
  refine wpAny_Call_Name_kw (ld_glob I hg hm ?_ hdb)
  exact PySem.W.callWith_K0 I.kIn hk (run_g (us := []) F hr tk I .nil sr gr .nil q ko)
/-- C(e, ..) -/
theorem ge_make (M : Mk X.K C f) (F : GFn X.prog X.w X.K X.mg X.base k f sp) (hr : Rm (k + 1) X.A) (tk : Tk X B E) (hm : X.mg x = some (.ref C)) (ha : GPA X B (e :: es) tes) (hg : Gl X x := by rfl) (hdb : (x == ("__debug__" : Str)) = false := by decide)
    (he : starEach (e :: es) X.env = (false, eval e X.env) :: starEach es X.env := by rfl) (hpl : (backTo pos (starEach es X.env)).any (·.1) = false := by rfl) : GPE X B (.Call (.Name x p) (e :: es) [] pos) (gMake C sp E tes) := by
  refine ⟨fun pins s τ H Q I ⟨η, S, σ, R, sr, gr, q, ko⟩ => ?_⟩
  refine wpAny_Call_Name_kw (ld_glob I hg hm ?_ hdb)
  refine PySem.W.callWith_K (h₀ := X.base) I.ok.mod.kin M.kp (thn (ha.run pos pins s τ H (fun vs H1 => ∃ η S σ ds, SG X.K B η H1 σ τ ∧ GR X.K η S H1 ∧ VRs X.K η H1 ds vs ∧ sp (.obj S.length :: ds) (S ++ [.ins C []]) (fun d S2 => d = .non ∧ R (.obj S.length) S2) (E σ) ∧ Ko X.K η H1 R Q) I
    ⟨η, S, σ, _, sr, gr, q, fun ds S1 η1 H1 vs q1 g1 gr1 r1 => ⟨η1, S1, σ, ds, sr.grow g1, gr1, r1, q1, ko.grow g1⟩⟩) fun us s1 ⟨vs, H1, I1, r, η1, S1, σ1, ds, sr1, gr1, r1, q1, ko1⟩ => ⟨I1.kIn, ?_⟩) he hpl
  exact run_mk M F hr tk I1 r sr1 gr1 r1 q1 ko1
theorem ge_make0 (M : Mk X.K C f) (F : GFn X.prog X.w X.K X.mg X.base k f sp) (hr : Rm (k + 1) X.A) (tk : Tk X B E) (hm : X.mg x = some (.ref C)) (hg : Gl X x := by rfl) (hdb : (x == ("__debug__" : Str)) = false := by decide) : GPE X B (.Call (.Name x p) [] [] pos) (gMake C sp E gNil) := by
  refine ⟨fun pins s τ H Q I ⟨η, S, σ, R, sr, gr, q, ko⟩ => ?_⟩
  refine wpAny_Call_Name_kw (ld_glob I hg hm ?_ hdb)
  exact PySem.W.callWith_K0 I.kIn M.kp (run_mk (us := []) M F hr tk I .nil sr gr .nil q ko)
/-- the methods m of the classes of the table -/
def MTab (X : Cx) (k : Nat) (m : Str) (tb : Addr → Option GSp) : Prop := ∀ C sp, tb C = some sp → Cls X.K C ∧ ∃ f, Meth X.K C m f ∧ GFn X.prog X.w X.K X.mg X.base k f sp
theorem fr_none {K : PySem.W.Frag} {η : List Addr} {H : Hp} {m : Str} : ∀ {fs : List (Str × D)} {us : List (Str × V)}, FR K η H fs us → fs.lookup m = none → us.lookup m = none
  | _, _, .nil, _ => rfl
  | (a, d) :: fs, (b, v) :: us, .cons h r, e => by
    have hab : a = b := h.1
    subst hab
    simp only [List.lookup] at e ⊢
    split at e
    · cases e
    · exact fr_none r e
theorem fr_some {K : PySem.W.Frag} {η : List Addr} {H : Hp} {m : Str} {d : D} : ∀ {fs : List (Str × D)} {us : List (Str × V)}, FR K η H fs us → fs.lookup m = some d → ∃ v, us.lookup m = some v ∧ VR K η H d v
  | _, _, .nil, e => by cases e
  | (a, d') :: fs, (b, v) :: us, .cons h r, e => by
    have hab : a = b := h.1
    subst hab
    simp only [List.lookup] at e ⊢
    split at e
    · cases e
      exact ⟨v, rfl, h.2⟩
    · exact fr_some r e
theorem fr_put {K : PySem.W.Frag} {η : List Addr} {H : Hp} {m : Str} {d : D} {v : V} (r : VR K η H d v) : ∀ {fs : List (Str × D)} {us : List (Str × V)}, FR K η H fs us → FR K η H (putG m d fs) (putF m v us)
  | _, _, .nil => .cons ⟨rfl, r⟩ .nil
  | (a, d') :: fs, (b, w) :: us, .cons h q => by
    have hab : a = b := h.1
    subst hab
    simp only [putG, putF]
    split
    · exact .cons ⟨rfl, r⟩ q
    · exact .cons h (fr_put r q)
theorem fr_length {K : PySem.W.Frag} {η : List Addr} {H : Hp} {fs : List (Str × D)} {us : List (Str × V)} (h : FR K η H fs us) : fs.length = us.length := Paired.length h
theorem ge_meth {pl : Sem Bool} {tb : Addr → Option GSp} (hT : MTab X k m tb) (hr : Rm k X.A) (tk : Tk X B E) (he : GPE X B o te) (ha : GPA X B (e :: es) tes)
    (hst : starEach (e :: es) X.env = (false, eval e X.env) :: starEach es X.env := by rfl) (hpl : (backTo pos (starEach es X.env)).any (·.1) = false := by rfl)
    (ht : eval (.Call (.Attribute o m apos) (e :: es) [] pos) X.env = (do
      let ov ← eval o X.env
      standAt apos.atName
      let (f, first) ← holding [ov] (getMethod ov m pl)
      callWith pos f first (backTo pos (starEach (e :: es) X.env)) (backToKw pos (keywordEach [] X.env))) := by rfl) :
    GPE X B (.Call (.Attribute o m apos) (e :: es) [] pos) (gMeth tb m E te tes) := by
  refine ⟨fun pins s τ H Q I ⟨η, S, σ, R, sr, gr, q, ko⟩ => ?_⟩
  refine PySem.W.methodCall_KW (pl := pl) (thn (he.run pins s τ H (fun x H1 => ∃ η S σ k C fs sp a, x = .ref a ∧ SG X.K B η H1 σ τ ∧ GR X.K η S H1 ∧ η[k]? = some a ∧ S[k]? = some (.ins C fs) ∧ tb C = some sp ∧ fs.lookup m = none ∧ tes σ S (fun ds S2 => sp (.obj k :: ds) S2 R (E σ)) ∧ Ko X.K η H1 R Q) I
    ⟨η, S, σ, _, sr, gr, q, fun d S1 η1 H1 v q1 g1 gr1 r1 => ?_⟩) fun u s1 ⟨x, H1, I1, rx, η1, S1, σ1, j, C, fs, sp, a, ex, sr1, gr1, e1, hk, ht', hl, q1, ko1⟩ => ?_) ht
  · cases r1 with
    | obj e1 =>
      simp only at q1
      split at q1
      · rename_i C fs hk
        split at q1
        · rename_i sp ht'
          exact ⟨η1, S1, σ, _, C, fs, sp, _, rfl, sr.grow g1, gr1, e1, hk, ht', q1.1, q1.2, ko.grow g1⟩
        · exact q1.elim
      · exact q1.elim
    | _ => exact q1.elim
  · subst ex
    obtain rfl : u = Value.ref a := rx
    obtain ⟨cl, f, hm, F⟩ := hT C sp ht'
    obtain ⟨dx, us, hu, hf⟩ := gr1.obj e1 hk
    refine getmeth_ok I1 hu cl hm (fr_none hf hl) ?_
    refine PySem.W.callWith_K (first := [.ref a]) (h₀ := X.base) I.ok.mod.kin hm.kp (thn (ha.run pos pins s1 τ H1 (fun vs H2 => ∃ η S σ ds, SG X.K B η H2 σ τ ∧ GR X.K η S H2 ∧ VRs X.K η H2 ds vs ∧ η[j]? = some a ∧ sp (.obj j :: ds) S R (E σ) ∧ Ko X.K η H2 R Q) I1
      ⟨η1, S1, σ1, _, sr1, gr1, q1, fun ds S2 η2 H2 vs q2 g2 gr2 r2 => ⟨η2, S2, σ1, ds, sr1.grow g2, gr2, r2, g2.get e1, q2, ko1.grow g2⟩⟩) fun ws s2 ⟨vs, H2, I2, r, η2, S2, σ2, ds, sr2, gr2, r2, e2, q2, ko2⟩ => ⟨I2.kIn, ?_⟩) hst hpl
    exact run_g (us := .ref a :: ws) (vs := .ref a :: vs) F hr tk I2 (.cons rfl r) sr2 gr2 (.cons (.obj e2) r2) q2 ko2
theorem ge_meth0 {pl : Sem Bool} {tb : Addr → Option GSp} (hT : MTab X k m tb) (hr : Rm k X.A) (tk : Tk X B E) (he : GPE X B o te)
    (ht : eval (.Call (.Attribute o m apos) [] [] pos) X.env = (do
      let ov ← eval o X.env
      standAt apos.atName
      let (f, first) ← holding [ov] (getMethod ov m pl)
      callWith pos f first (backTo pos (starEach [] X.env)) (backToKw pos (keywordEach [] X.env))) := by rfl) :
    GPE X B (.Call (.Attribute o m apos) [] [] pos) (gMeth tb m E te gNil) := by
  refine ⟨fun pins s τ H Q I ⟨η, S, σ, R, sr, gr, q, ko⟩ => ?_⟩
  refine PySem.W.methodCall_KW (pl := pl) (thn (he.run pins s τ H (fun x H1 => ∃ η S σ k C fs sp a, x = .ref a ∧ SG X.K B η H1 σ τ ∧ GR X.K η S H1 ∧ η[k]? = some a ∧ S[k]? = some (.ins C fs) ∧ tb C = some sp ∧ fs.lookup m = none ∧ sp [.obj k] S R (E σ) ∧ Ko X.K η H1 R Q) I
    ⟨η, S, σ, _, sr, gr, q, fun d S1 η1 H1 v q1 g1 gr1 r1 => ?_⟩) fun u s1 ⟨x, H1, I1, rx, η1, S1, σ1, j, C, fs, sp, a, ex, sr1, gr1, e1, hk, ht', hl, q1, ko1⟩ => ?_) ht
  · cases r1 with
    | obj e1 =>
      simp only at q1
      split at q1
      · rename_i C fs hk
        split at q1
        · rename_i sp ht'
          exact ⟨η1, S1, σ, _, C, fs, sp, _, rfl, sr.grow g1, gr1, e1, hk, ht', q1.1, q1.2, ko.grow g1⟩
        · exact q1.elim
      · exact q1.elim
    | _ => exact q1.elim
  · subst ex
    obtain rfl : u = Value.ref a := rx
    obtain ⟨cl, f, hm, F⟩ := hT C sp ht'
    obtain ⟨dx, us, hu, hf⟩ := gr1.obj e1 hk
    refine getmeth_ok I1 hu cl hm (fr_none hf hl) ?_
    exact PySem.W.callWith_K0 (first := [.ref a]) I1.kIn hm.kp (run_g (us := [.ref a]) (vs := [.ref a]) F hr tk I1 (.cons rfl .nil) sr1 gr1 (.cons (.obj e1) .nil) q1 ko1)
theorem ge_fld {ok : Addr → Prop} {n : Str} (hC : ∀ C, ok C → Cls X.K C ∧ NoAttr X.K C n) (he : GPE X B o te) (hb : attributeBase o n X.env (eval o X.env) = eval o X.env := by rfl) : GPE X B (.Attribute o n pos) (gFld ok n te) :=
  PE.weak (pe_fld he hb) fun τ H Q ⟨η, S, σ, R, sr, gr, q, k⟩ =>
    ⟨η, S, σ, _, sr, gr, q, fun d S1 η1 H1 v q1 g1 gr1 r1 => by
      cases r1 with
      | obj e1 =>
        simp only at q1
        split at q1
        · rename_i C fs hk
          obtain ⟨okc, q1⟩ := q1
          obtain ⟨dx, us, hu, hf⟩ := gr1.obj e1 hk
          split at q1
          · rename_i d hd
            obtain ⟨w, hw, rw⟩ := fr_some hf hd
            exact ⟨_, C, dx, us, w, rfl, hu, (hC C okc).1, (hC C okc).2, hw, k d S1 η1 H1 w q1 g1 gr1 rw⟩
          · exact q1.elim
        · exact q1.elim
      | _ => exact q1.elim⟩
theorem gs_fld {ok : Addr → Prop} {n : Str} {tv : GE} {pos' : Pos} (hC : ∀ C, ok C → Cls X.K C ∧ NoAttr X.K C n) (he : GPE X B o te) (hv : GPE X B e tv) (hs : swapsWith e (some (.Attribute o n pos')) pos.line X.env = pure false := by rfl) :
    GPS X B (.Assign [.Attribute o n pos'] e pos) (gsFld ok n te tv) :=
  PS.weak (ps_fld he hv hs) fun D τ H ⟨η, S, σ, G, sr, gr, q, k⟩ =>
    ⟨η, S, σ, _, sr, gr, q, fun d S1 η1 H1 v q1 g1 gr1 r1 => ⟨η1, S1, σ, _, sr.grow g1, gr1, q1, fun x S2 η2 H2 u q2 g2 gr2 r2 => by
      cases r2 with
      | obj e2 =>
        simp only at q2
        split at q2
        · rename_i C fs hk
          obtain ⟨okc, hl, q2⟩ := q2
          obtain ⟨dx, us, hu, hf⟩ := gr2.obj e2 hk
          have gs := gr2.growSet (o := .ins C dx (putF n v us)) e2 ⟨(fun _ z => nomatch hu.symm.trans z), (fun _ z => nomatch hu.symm.trans z)⟩
          have g := g1.trans g2
          refine ⟨_, C, dx, us, rfl, hu, (hC C okc).1, (hC C okc).2, by rw [← fr_length hf]; exact hl, ?_⟩
          exact k.nx σ _ η2 _ τ q2 (g.trans gs) ((sr.grow g).grow gs) (gr2.set e2 ⟨(fun _ z => nomatch hu.symm.trans z), (fun _ z => nomatch hu.symm.trans z)⟩ (u := .ins C (putG n d fs)) ⟨dx, _, upd_same, fr_put ((r1.grow g2).grow gs) (Paired.grow hf fun _ _ z => ⟨z.1, z.2.grow gs⟩)⟩)
        · exact q2.elim
      | _ => exact q2.elim⟩⟩
/-- the properties n of the classes of the table -/
def PTab (X : Cx) (k : Nat) (n : Str) (tb : Addr → Option GSp) : Prop := ∀ C sp, tb C = some sp → Cls X.K C ∧ ∃ p g fd, PropOf X.K C n p g ∧ GOk X.prog X.w X.K X.mg X.base k g fd ["self"] (LSp X.K sp) ∧ Binds X.K fd ["self"] []
theorem ge_prop {tb : Addr → Option GSp} {n : Str} (hT : PTab X k n tb) (hr : Rm (k + 1) X.A) (he : GPE X B o te) (hb : attributeBase o n X.env (eval o X.env) = eval o X.env := by rfl) : GPE X B (.Attribute o n pos) (gProp tb te) := by
  refine ⟨fun pins s τ H Q I ⟨η, S, σ, R, sr, gr, q, ko⟩ => ?_⟩
  refine attr_of hb (thn (he.run pins s τ H (fun x H1 => ∃ η S k C fs sp a, x = .ref a ∧ GR X.K η S H1 ∧ η[k]? = some a ∧ S[k]? = some (.ins C fs) ∧ tb C = some sp ∧ sp [.obj k] S R (fun _ _ _ => False) ∧ Ko X.K η H1 R Q) I
    ⟨η, S, σ, _, sr, gr, q, fun d S1 η1 H1 v q1 g1 gr1 r1 => ?_⟩) fun u s1 ⟨x, H1, I1, rx, η1, S1, j, C, fs, sp, a, ex, gr1, e1, hk, ht', q1, ko1⟩ => ?_)
  · cases r1 with
    | obj e1 =>
      simp only at q1
      split at q1
      · rename_i C fs hk
        split at q1
        · rename_i sp ht'
          exact ⟨η1, S1, _, C, fs, sp, _, rfl, gr1, e1, hk, ht', q1, ko.grow g1⟩
        · exact q1.elim
      · exact q1.elim
    | _ => exact q1.elim
  · subst ex
    obtain rfl : u = Value.ref a := rx
    obtain ⟨cl, p, g, fd, hp, F, hb'⟩ := hT C sp ht'
    obtain ⟨dx, us, hu, hf⟩ := gr1.obj e1 hk
    exact prop_run (E := fun _ _ _ => False) I1 hu cl hp F hr hb' (fun _ _ _ z => z) ⟨η1, S1, _, R, _, gr1, .cons (.obj e1) .nil, q1, ko1, fun _ _ _ _ _ _ h => h.elim⟩
end

/-! ### a def, by its body -/
def startG (N : List Str) (ds : List D) : Sl := ds.map some ++ List.replicate (N.length - ds.length) none
theorem sr_start {K : PySem.W.Frag} {η : List Addr} {H : Hp} {ds : List D} {vs : List V} (r : VRs K η H ds vs) (N : List Str) : SR K η H (startG N ds) (L2.start N vs) := by
  have h1 : ∀ {ds : List D} {vs : List V}, VRs K η H ds vs → SR K η H (ds.map some) (vs.map some) := by
    intro ds
    induction ds with
    | nil => intro vs r; cases r; exact .nil
    | cons d ds ih => intro vs r; cases r with
      | cons a b => exact .cons a (ih b)
  have h2 : ∀ n : Nat, SR K η H (List.replicate n none) (List.replicate n none) := by
    intro n
    induction n with
    | zero => exact .nil
    | succ n ih => exact .cons trivial ih
  have h3 : ∀ {a b : Sl} {c d : L2.St}, SR K η H a c → SR K η H b d → SR K η H (a ++ b) (c ++ d) := by
    intro a
    induction a with
    | nil => intro b c d h g; cases h; exact g
    | cons x a ih => intro b c d h g; cases h with
      | cons u v => exact .cons u (ih v g)
  unfold startG L2.start
  rw [r.length]
  exact h3 (h1 r) (h2 _)
mutual
theorem low_vr {K : PySem.W.Frag} {η : List Addr} {H : Hp} {n : Nat} : ∀ {d : D} {v : V}, VR K η H d v → dLow n d = true → VR K (η.take n) H d v
  | _, _, .non, _ => .non
  | _, _, .bl b, _ => .bl b
  | _, _, .int i, _ => .int i
  | _, _, .str x, _ => .str x
  | _, _, .tup h r, l => .tup h (low_vrs r (by simpa [dLow] using l))
  | _, _, .rol h r, l => .rol h (low_vrs r (by simpa [dLow] using l))
  | _, _, .obj q, l => .obj (by rw [List.getElem?_take_of_lt (by simpa [dLow] using l)]; exact q)
  | _, _, .ref a, _ => .ref a
  | _, _, .ty x, _ => .ty x
theorem low_vrs {K : PySem.W.Frag} {η : List Addr} {H : Hp} {n : Nat} : ∀ {ds : List D} {vs : List V}, VRs K η H ds vs → dLowAll n ds = true → VRs K (η.take n) H ds vs
  | _, _, .nil, _ => .nil
  | _, _, .cons h r, l => by
    simp only [dLowAll, Bool.and_eq_true] at l
    exact .cons (low_vr h l.1) (low_vrs r l.2)
end
mutual
theorem vr_low {K : PySem.W.Frag} {η : List Addr} {H : Hp} {n : Nat} (hn : η.length ≤ n) : ∀ {d : D} {v : V}, VR K η H d v → dLow n d = true
  | _, _, .non => rfl
  | _, _, .bl b => rfl
  | _, _, .int i => rfl
  | _, _, .str x => rfl
  | _, _, .tup h r => by simpa [dLow] using vrs_low hn r
  | _, _, .rol h r => by simpa [dLow] using vrs_low hn r
  | _, _, .obj q => by
    have := (List.getElem?_eq_some_iff.mp q).1
    simp [dLow]
    omega
  | _, _, .ref a => rfl
  | _, _, .ty x => rfl
theorem vrs_low {K : PySem.W.Frag} {η : List Addr} {H : Hp} {n : Nat} (hn : η.length ≤ n) : ∀ {ds : List D} {vs : List V}, VRs K η H ds vs → dLowAll n ds = true
  | _, _, .nil => rfl
  | _, _, .cons h r => by simp only [dLowAll, vr_low hn h, vrs_low hn r, Bool.and_self]
end
section
variable {K : PySem.W.Frag} {η η' : List Addr} {H H' : Hp} {S S' : SS} {m : Nat}
theorem pair_low {α β : Type} {F : α × D → β × V → Prop} {G : α × D → β × V → Prop} {n : Nat} (hFG : ∀ p q, F p q → dLow n p.2 = true → G p q) : ∀ {l : List (α × D)} {u : List (β × V)}, Paired F l u → (l.all fun p => dLow n p.2) = true → Paired G l u
  | _, _, .nil, _ => .nil
  | _, _, .cons h r, e => by
    simp only [List.all_cons, Bool.and_eq_true] at e
    exact .cons (hFG _ _ h e.1) (pair_low hFG r e.2)
theorem low_pair {α β : Type} {F : α × D → β × V → Prop} {n : Nat} (hF : ∀ p q, F p q → dLow n p.2 = true) : ∀ {l : List (α × D)} {u : List (β × V)}, Paired F l u → (l.all fun p => dLow n p.2) = true
  | _, _, .nil => rfl
  | _, _, .cons h r => by simp only [List.all_cons, hF _ _ h, low_pair hF r, Bool.and_self]
theorem orel_low {a : Addr} {o : GO} {n : Nat} (h : ORel K η H a o) (l : oLow n o = true) : ORel K (η.take n) H a o := by
  cases o with
  | lst ds => obtain ⟨vs, h1, h2⟩ := h; exact ⟨vs, h1, low_vrs h2 l⟩
  | dK kvs => obtain ⟨us, h1, h2⟩ := h; exact ⟨us, h1, pair_low (fun p q z d => ⟨z.1, low_vr z.2 d⟩) h2 l⟩
  | dT kvs => obtain ⟨us, h1, h2⟩ := h; exact ⟨us, h1, pair_low (fun p q z d => ⟨z.1, low_vr z.2 d⟩) h2 l⟩
  | ins C fs => obtain ⟨dx, us, h1, h2⟩ := h; exact ⟨dx, us, h1, pair_low (fun p q z d => ⟨z.1, low_vr z.2 d⟩) h2 l⟩
  | exc C fs =>
    obtain ⟨d, h1, h2⟩ := h
    refine ⟨d, h1, ?_⟩
    rcases h2 with h2 | ⟨dd, us, h2, h3, h4⟩
    · exact .inl h2
    · exact .inr ⟨dd, us, h2, h3, pair_low (fun p q z d => ⟨z.1, low_vr z.2 d⟩) h4 l⟩
theorem low_orel {a : Addr} {o : GO} {n : Nat} (hn : η.length ≤ n) (h : ORel K η H a o) : oLow n o = true := by
  cases o with
  | lst ds => obtain ⟨vs, h1, h2⟩ := h; exact vrs_low hn h2
  | dK kvs => obtain ⟨us, h1, h2⟩ := h; exact low_pair (fun p q z => vr_low hn z.2) h2
  | dT kvs => obtain ⟨us, h1, h2⟩ := h; exact low_pair (fun p q z => vr_low hn z.2) h2
  | ins C fs => obtain ⟨dx, us, h1, h2⟩ := h; exact low_pair (fun p q z => vr_low hn z.2) h2
  | exc C fs =>
    obtain ⟨d, h1, h2⟩ := h
    rcases h2 with ⟨h2, _⟩ | ⟨dd, us, h2, h3, h4⟩
    · subst h2; rfl
    · exact low_pair (fun p q z => vr_low hn z.2) h4
theorem cut_gr (gr : GR K η S H) (g : Grow η H η' H') (gr' : GR K η' S' H') (c : CutOk m S S') : GR K (η'.take m) (S'.take m) H' ∧ Grow η H (η'.take m) H' := by
  obtain ⟨hm, hc⟩ := c
  have hl : η.length ≤ m := by rw [gr.len]; exact hm
  refine ⟨⟨by rw [List.length_take, List.length_take, gr'.len], gr'.nd.sublist (List.take_sublist _ _), fun k a o e1 e2 => ?_, gr'.tb⟩, ⟨?_, g.tups, g.frzs, g.xds, g.cods⟩⟩
  · have hk : k < m := by
      have := (List.getElem?_eq_some_iff.mp e1).1
      rw [List.length_take] at this
      omega
    rw [List.getElem?_take_of_lt hk] at e1 e2
    have r := gr'.at_ k a o e1 e2
    refine orel_low r ?_
    rcases hc k o hk e2 with z | z
    · obtain ⟨b, _, q⟩ := gr.have z
      exact low_orel hl q
    · exact z
  · obtain ⟨e, he⟩ := g.pre
    rw [he]
    exact ⟨e.take (m - η.length), by rw [List.take_append, List.take_of_length_le hl]⟩
end
section
variable {P : Program} {w : World} {K : PySem.W.Frag} {mg : Str → Option Value} {base : Heap} {x qual : Str} {params : Arguments} {body : List Stmt} {scope : Scope} {dvs : List V} {kws : List (Str × V)} {f : Addr} {fd : FuncData}
theorem pay_low {η : List Addr} {H : Hp} {fs : List (Str × D)} {dd : Option Addr} {m : Nat} (p : PayR K η H fs dd) (l : (fs.all fun p => dLow m p.2) = true) : PayR K (η.take m) H fs dd := by
  rcases p with p | ⟨a, us, h1, h2, h3⟩
  · exact .inl p
  · exact .inr ⟨a, us, h1, h2, pair_low (fun p q z d => ⟨z.1, low_vr z.2 d⟩) h3 l⟩
/-- THE RULE: a def keeps its promise -/
theorem fn_ok {N ps : List Str} {k : Nat} {sp : GSp} (F : FunD K x qual params body scope dvs kws f fd) (Sc : FnScope N ps scope) (b : (Sl → GX) → GS) (len : ∀ ds S Q G, sp ds S Q G → ds.length = ps.length)
    (hb : ∀ (cdv : Value), codeOf K f = some cdv → ∀ (A : Around) (outer : List Env) (s : Shared) (H : Hp) (E : XK) (B : Bs) (G : Sl → GX), Rm k (A.deeper (envOfC qual scope s.heap.objs.size f cdv)) → Tk (cxOf (L2.CX P w) P w K mg base N qual scope f cdv A outer s H E) B G →
      GPSs (cxOf (L2.CX P w) P w K mg base N qual scope f cdv A outer s H E) B body (b G))
    (vc : ∀ ds S Q G, sp ds S Q G → b (fun _ => gCutX S G) ⟨fun _ S' => gCut S Q .non S', gCut S Q, fun _ _ => False, fun _ _ => False⟩ (startG N ds) S) : GOk P w K mg base (k + 1) f fd ps (LSp K sp) := by
  refine def_ok F Sc (fun vs H Q E ⟨η, S, ds, R, G, gr, rs, h, _⟩ => by rw [← rs.length]; exact len ds S R G h) (fun cdv hcv A outer s H vs Q E hr ⟨η, S, ds, R, G, gr, rs, h, ko, kx⟩ => ?_)
  have tk : Tk (cxOf (L2.CX P w) P w K mg base N qual scope f cdv A outer s H E) (η, H) (fun _ => gCutX S G) := by
    refine Takes.imp (takes_of rfl rfl rfl rfl) ?_
    rintro c dd τ H' ⟨C, fs, η', S', σ, rfl, sg, gr', pay, h'⟩
    rcases h' with h' | ⟨m, cm, lm, h'⟩
    · exact kx C fs S' η' H' dd h' sg.up gr' pay
    · obtain ⟨g1, g2⟩ := cut_gr gr sg.up gr' cm
      exact kx C fs _ _ H' dd h' g2 g1 (pay_low pay lm)
  refine ⟨_, hb cdv hcv A outer s H E (η, H) (fun _ => gCutX S G) hr tk, η, S, startG N ds, _, ⟨.refl, sr_start rs N⟩, gr, vc ds S R G h, ?_⟩
  have kcut : Ko K η H (gCut S R) Q := by
    intro d S' η' H' v q g gr' r
    rcases q with q | ⟨m, cm, lm, q⟩
    · exact ko d S' η' H' v q g gr' r
    · obtain ⟨g1, g2⟩ := cut_gr gr g gr' cm
      exact ko d _ _ H' v q g2 g1 (low_vr r lm)
  exact ⟨fun σ' S' η' H' τ' q g sr gr' => kcut .non S' η' H' .non q g gr' .non, kcut, fun _ _ _ _ _ q => q.elim, fun _ _ _ _ _ q => q.elim⟩
theorem gfn {k : Nat} {ps : List Str} {sp : GSp} (F : GOk P w K mg base k f fd ps (LSp K sp)) (hb : Binds K fd ps []) : GFn P w K mg base k f sp :=
  GR0.imp (F.raw hb .nil) fun vs H Q E h => by rw [List.append_nil]; exact h
/-- with defaults -/
theorem gfnD {k : Nat} {ps : List Str} {ds : List Value} {dvs : List V} {dds : List D} {sp : GSp} (F : GOk P w K mg base k f fd ps (LSp K sp)) (hb : Binds K fd ps ds) (hd : Vals dvs ds) (hv : ∀ η H, VRs K η H dds dvs) :
    GFn P w K mg base k f (fun as S Q G => sp (as ++ dds) S Q G) :=
  GR0.imp (F.raw hb hd) fun vs H Q E ⟨η, S, as, R, G, gr, rs, h, ko⟩ => ⟨η, S, as ++ dds, R, G, gr, rs.append (hv η H), h, ko⟩
end
end Gh

/-! Gq: items, slices, built-ins. -/
namespace Gh
open PySem PySem.Spec PyProof.Rows L2
variable [TabsC]

section
variable {X : Cx} {B : Bs} {pos p : Pos} {a b e : Expr} {ta tb te : GE} {es : List Expr} {tes : GA}
theorem atG_eq {α : Type} (xs : List α) (i : Int) : atI xs i = atG xs i := by
  unfold atI atG ixN
  by_cases h : 0 ≤ i
  · rw [if_pos h, if_pos h]
    by_cases h2 : i < xs.length
    · rw [if_pos h2]; rfl
    · rw [if_neg h2, List.getElem?_eq_none (by omega)]; rfl
  · rw [if_neg h, if_neg h]
    by_cases h2 : -(xs.length : Int) ≤ i
    · rw [if_pos h2, if_pos h2]; rfl
    · rw [if_neg h2, if_neg h2]; rfl
theorem vrs_atG {K : PySem.W.Frag} {η : List Addr} {H : Hp} {ds : List D} {vs : List V} (r : VRs K η H ds vs) {i : Int} {d : D} (e : atG ds i = some d) : ∃ v, atI vs i = some v ∧ VR K η H d v := by
  rw [atG_eq]
  unfold atG at e ⊢
  rw [← r.length]
  split at e
  · rename_i h
    rw [if_pos h]
    exact r.get e
  · rename_i h
    rw [if_neg h]
    split at e
    · rename_i h2
      rw [if_pos h2]
      exact r.get e
    · cases e
theorem lix : IxR X (LO2 X.K oIx) := by
  intro value slice pins s σ H x y v u Q I rx ry ⟨η, S, d, e, R, gr, r1, r2, q, k⟩ hs
  cases r2 with
  | int i =>
    cases r1 with
    | tup h1 h2 =>
      simp only [oIx] at q
      split at q
      · rename_i d' hd
        obtain ⟨w, hw, rw'⟩ := vrs_atG h2 hd
        exact ix_tup value slice pins s σ H _ _ v u Q I rx ry ⟨_, _, i, w, rfl, rfl, h1, hw, k _ S η H w q .refl gr rw'⟩ hs
      · exact q.elim
    | rol h1 h2 =>
      simp only [oIx] at q
      split at q
      · rename_i d' hd
        obtain ⟨w, hw, rw'⟩ := vrs_atG h2 hd
        exact ix_list value slice pins s σ H _ _ v u Q I rx ry ⟨_, _, i, w, rfl, rfl, h1.1, hw, k _ S η H w q .refl gr rw'⟩ hs
      · exact q.elim
    | str z =>
      simp only [oIx] at q
      obtain ⟨hz, q⟩ := q
      split at q
      · rename_i c hc
        exact ix_str value slice pins s σ H _ _ v u Q I rx ry ⟨z, i, c, rfl, rfl, hz, by rw [atG_eq]; exact hc, k _ S η H _ q .refl gr (.str _)⟩ hs
      · exact q.elim
    | obj e1 =>
      simp only [oIx] at q
      split at q
      · rename_i ds hk
        split at q
        · rename_i d' hd
          obtain ⟨us, hu, hr⟩ := gr.obj e1 hk
          obtain ⟨w, hw, rw'⟩ := vrs_atG hr hd
          exact ix_list value slice pins s σ H _ _ v u Q I rx ry ⟨_, _, i, w, rfl, rfl, .of hu, hw, k _ S η H w q .refl gr rw'⟩ hs
        · exact q.elim
      · exact q.elim
    | _ => exact q.elim
  | _ => cases r1 <;> exact q.elim
theorem ge_ix (ha : GPE X B a ta) (hb : GPE X B b tb) (hs : PlainIx b := by intro _ _; rfl) : GPE X B (.Subscript a b pos) (gBin oIx ta tb) := PE.weak (pe_ix lix ha hb hs) bin_weak

/-! ### built-ins -/
theorem ge_bty {x : Str} {n : String} (hm : X.mg x = none) (hv : bootBuiltins x = some (.type n)) (hg : Gl X x := by rfl) (hn : x ≠ "__name__" := by decide) (hd : (x == ("__debug__" : Str)) = false := by decide) : GPE X B (.Name x pos) (gC (.ty n)) :=
  ge_const (pe_bltn hg hm hv (v := .ty n) rfl hn hd) fun _ _ => .ty n
theorem ge_blt {x : Str} {id : String} {c : GC} (hc : CallR X (.builtin id) (LC X.K c)) (hm : X.mg x = none) (hv : bootBuiltins x = some (.builtin id)) (ha : GPA X B (e :: es) tes) (hg : Gl X x := by rfl) (hn : x ≠ "__name__" := by decide) (hdb : (x == ("__debug__" : Str)) = false := by decide)
    (he : starEach (e :: es) X.env = (false, eval e X.env) :: starEach es X.env := by rfl) (hpl : (backTo pos (starEach es X.env)).any (·.1) = false := by rfl) : GPE X B (.Call (.Name x p) (e :: es) [] pos) (gBlt c tes) :=
  PE.weak (pe_callB hc hg hm hv ha hn hdb he hpl) fun τ H Q ⟨η, S, σ, R, sr, gr, q, k⟩ =>
    ⟨η, S, σ, _, sr, gr, q, fun ds S1 η1 H1 vs q1 g1 gr1 r1 => ⟨η1, S1, ds, R, gr1, r1, q1, k.grow g1⟩⟩
theorem ge_bltT {x : Str} {T : String} {c : GC} (hc : CallR X (.type T) (LC X.K c)) (hm : X.mg x = none) (hv : bootBuiltins x = some (.type T)) (ha : GPA X B (e :: es) tes) (hg : Gl X x := by rfl) (hn : x ≠ "__name__" := by decide) (hdb : (x == ("__debug__" : Str)) = false := by decide)
    (he : starEach (e :: es) X.env = (false, eval e X.env) :: starEach es X.env := by rfl) (hpl : (backTo pos (starEach es X.env)).any (·.1) = false := by rfl) : GPE X B (.Call (.Name x p) (e :: es) [] pos) (gBlt c tes) :=
  PE.weak (pe_callTy hc hg hm hv ha hn hdb he hpl) fun τ H Q ⟨η, S, σ, R, sr, gr, q, k⟩ =>
    ⟨η, S, σ, _, sr, gr, q, fun ds S1 η1 H1 vs q1 g1 gr1 r1 => ⟨η1, S1, ds, R, gr1, r1, q1, k.grow g1⟩⟩
theorem one_of {K : PySem.W.Frag} {η : List Addr} {H : Hp} {ds : List D} {vs : List V} {P : D → Prop} (q : match ds with
  | [d] => P d
  | _ => False) (r : VRs K η H ds vs) : ∃ d v, ds = [d] ∧ vs = [v] ∧ VR K η H d v ∧ P d := by
  cases r with
  | nil => exact q.elim
  | cons r1 r2 => cases r2 with
    | nil => exact ⟨_, _, rfl, rfl, r1, q⟩
    | cons _ _ => exact q.elim
theorem two_of {K : PySem.W.Frag} {η : List Addr} {H : Hp} {ds : List D} {vs : List V} {P : D → D → Prop} (q : match ds with
  | [d, e] => P d e
  | _ => False) (r : VRs K η H ds vs) : ∃ d e v u, ds = [d, e] ∧ vs = [v, u] ∧ VR K η H d v ∧ VR K η H e u ∧ P d e := by
  cases r with
  | nil => exact q.elim
  | cons r1 r2 => cases r2 with
    | nil => exact q.elim
    | cons r2 r3 => cases r3 with
      | nil => exact ⟨_, _, _, _, rfl, rfl, r1, r2, q⟩
      | cons _ _ => exact q.elim
theorem lc_len : CallR X (.builtin "len") (LC X.K cLen) := by
  intro pins s σ H xs us Q I rx ⟨η, S, ds, R, gr, r, q, k⟩
  obtain ⟨d, v, rfl, rfl, r1, q⟩ := one_of q r
  cases r1 with
  | str z => exact call_len_str pins s σ H _ us Q I rx ⟨z, rfl, q.1, k _ S η H _ q.2 .refl gr (.int _)⟩
  | tup h1 h2 => exact call_len_seq pins s σ H _ us Q I rx ⟨_, _, rfl, .inr h1, by rw [← h2.length]; exact k _ S η H _ q .refl gr (.int _)⟩
  | rol h1 h2 => exact call_len_seq pins s σ H _ us Q I rx ⟨_, _, rfl, .inl h1.1, by rw [← h2.length]; exact k _ S η H _ q .refl gr (.int _)⟩
  | obj e1 =>
    simp only at q
    split at q
    · rename_i ds hk
      obtain ⟨vs, hv, hr⟩ := gr.obj e1 hk
      exact call_len_seq pins s σ H _ us Q I rx ⟨_, _, rfl, .inl (.of hv), by rw [← hr.length]; exact k _ S η H _ q .refl gr (.int _)⟩
    · rename_i kvs hk
      obtain ⟨vs, hv, hr⟩ := gr.obj e1 hk
      exact call_lenD pins s σ H _ us Q I rx ⟨_, _, rfl, hv, by rw [← Paired.length hr]; exact k _ S η H _ q .refl gr (.int _)⟩
    · exact q.elim
  | _ => exact q.elim
theorem lc_max2 (hc : X.calm = true) : CallR X (.builtin "max") (LC X.K cMax2) := by
  intro pins s σ H xs us Q I rx ⟨η, S, ds, R, gr, r, q, k⟩
  obtain ⟨d, e, v, u, rfl, rfl, r1, r2, q⟩ := two_of q r
  obtain ⟨i, j, rfl, rfl, q⟩ := ints_of (P := fun i j => R (.int (if j > i then j else i)) S) q
  cases r1
  cases r2
  exact call_max2 hc pins s σ H _ us Q I rx ⟨i, j, rfl, k _ S η H _ q .refl gr (.int _)⟩
theorem lc_min2 (hc : X.calm = true) : CallR X (.builtin "min") (LC X.K cMin2) := by
  intro pins s σ H xs us Q I rx ⟨η, S, ds, R, gr, r, q, k⟩
  obtain ⟨d, e, v, u, rfl, rfl, r1, r2, q⟩ := two_of q r
  obtain ⟨i, j, rfl, rfl, q⟩ := ints_of (P := fun i j => R (.int (if j < i then j else i)) S) q
  cases r1
  cases r2
  exact call_min2 hc pins s σ H _ us Q I rx ⟨i, j, rfl, k _ S η H _ q .refl gr (.int _)⟩
theorem lc_abs : CallR X (.builtin "abs") (LC X.K cAbs) := by
  intro pins s σ H xs us Q I rx ⟨η, S, ds, R, gr, r, q, k⟩
  obtain ⟨d, v, rfl, rfl, r1, q⟩ := one_of q r
  cases r1 with
  | int i => exact call_abs pins s σ H _ us Q I rx ⟨i, rfl, k _ S η H _ q .refl gr (.int _)⟩
  | _ => exact q.elim
theorem lc_str : CallR X (.type "str") (LC X.K cStr) := by
  intro pins s σ H xs us Q I rx ⟨η, S, ds, R, gr, r, q, k⟩
  obtain ⟨d, v, rfl, rfl, r1, q⟩ := one_of q r
  cases r1 with
  | int i => exact call_str_int pins s σ H _ us Q I rx ⟨i, rfl, q.1, k _ S η H _ q.2 .refl gr (.str _)⟩
  | str z => exact SkE.call_str_str pins s σ H _ us Q I rx ⟨z, rfl, k _ S η H _ q .refl gr (.str _)⟩
  | _ => exact q.elim
theorem lc_bool : CallR X (.type "bool") (LC X.K cBool) := by
  intro pins s σ H xs us Q I rx ⟨η, S, ds, R, gr, r, q, k⟩
  obtain ⟨d, v, rfl, rfl, r1, q⟩ := one_of q r
  cases r1 with
  | int i => exact call_bool1 pins s σ H _ us Q I rx (.inl ⟨i, rfl, k _ S η H _ q .refl gr (.bl _)⟩)
  | bl b => exact call_bool1 pins s σ H _ us Q I rx (.inr ⟨b, rfl, k _ S η H _ q .refl gr (.bl _)⟩)
  | _ => exact q.elim
theorem lc_int : CallR X (.type "int") (LC X.K (cInt PySem.intText?)) := by
  intro pins s σ H xs us Q I rx ⟨η, S, ds, R, gr, r, q, k⟩
  obtain ⟨d, v, rfl, rfl, r1, q⟩ := one_of q r
  cases r1 with
  | int i => exact call_int1 pins s σ H _ us Q I rx (.inl ⟨i, rfl, k _ S η H _ q .refl gr (.int _)⟩)
  | str z =>
    obtain ⟨n, h1, h2, q⟩ := q
    exact call_int_str pins s σ H _ us Q I rx ⟨z, n, rfl, h1, h2, k _ S η H _ q .refl gr (.int _)⟩
  | _ => exact q.elim
theorem lc_tuple : CallR X (.type "tuple") (LC X.K cTuple) := by
  intro pins s σ H xs us Q I rx ⟨η, S, ds, R, gr, r, q, k⟩
  obtain ⟨d, v, rfl, rfl, r1, q⟩ := one_of q r
  cases r1 with
  | tup h1 h2 => exact call_tuple_of pins s σ H _ us Q I rx ⟨_, _, rfl, .inr ⟨h1, k _ S η H _ q .refl gr (.tup h1 h2)⟩⟩
  | rol h1 h2 => exact call_tuple_of pins s σ H _ us Q I rx ⟨_, _, rfl, .inl ⟨h1.1, fun l hl => k _ S η _ _ q (grow_new hl) (gr.new hl) (.tup (.inl (.inl upd_same)) (h2.grow (grow_new hl)))⟩⟩
  | obj e1 =>
    simp only at q
    split at q
    · rename_i ds hk
      obtain ⟨vs, hv, hr⟩ := gr.obj e1 hk
      exact call_tuple_of pins s σ H _ us Q I rx ⟨_, _, rfl, .inl ⟨.of hv, fun l hl => k _ S η _ _ q (grow_new hl) (gr.new hl) (.tup (.inl (.inl upd_same)) (hr.grow (grow_new hl)))⟩⟩
    · exact q.elim
  | _ => exact q.elim
theorem push_lst {K : PySem.W.Frag} {η : List Addr} {S : SS} {H : Hp} {ds : List D} {vs : List V} {R : GQ} {Q : VK} (k : Ko K η H R Q) (gr : GR K η S H) (r : VRs K η H ds vs) (q : R (.obj S.length) (S ++ [.lst ds])) {l : Addr} (hl : H l = none) : Q (.ref l) (upd H l (.lst vs)) := by
  have g : Grow η H (η ++ [l]) (upd H l (.lst vs)) := grow_push hl
  exact k _ _ (η ++ [l]) _ (.ref l) q g (gr.push (u := .lst ds) hl ⟨vs, upd_same, r.grow g⟩) (.obj (by rw [← gr.len]; simp))
theorem lc_list : CallR X (.type "list") (LC X.K cList) := by
  intro pins s σ H xs us Q I rx ⟨η, S, ds, R, gr, r, q, k⟩
  obtain ⟨d, v, rfl, rfl, r1, q⟩ := one_of q r
  cases r1 with
  | tup h1 h2 => exact call_list_of pins s σ H _ us Q I rx ⟨_, _, rfl, .inr h1, fun l hl => push_lst k gr h2 q hl⟩
  | rol h1 h2 => exact call_list_of pins s σ H _ us Q I rx ⟨_, _, rfl, .inl h1.1, fun l hl => push_lst k gr h2 q hl⟩
  | obj e1 =>
    simp only at q
    split at q
    · rename_i ds hk
      obtain ⟨vs, hv, hr⟩ := gr.obj e1 hk
      exact call_list_of pins s σ H _ us Q I rx ⟨_, _, rfl, .inl (.of hv), fun l hl => push_lst k gr hr q hl⟩
    · exact q.elim
  | _ => exact q.elim

/-! ### isinstance -/
theorem tyx_of {K : PySem.W.Frag} {η : List Addr} {S : SS} {H : Hp} {d : D} {v : V} (gr : GR K η S H) (r : VR K η H d v) {n : String} (h : tyD S d = some (.inl n)) : TyX K H v (.type n) := by
  cases r with
  | non => cases h; exact .base .non
  | bl b => cases h; exact .base (.bl b)
  | int i => cases h; exact .base (.int i)
  | str x => cases h; exact .base (.str x)
  | tup h1 h2 =>
    cases h
    rcases h1 with (h1 | ⟨o, h1⟩) | ⟨o, its, m, h1, h2, _⟩
    · exact .base (.tup h1)
    · exact .fTuple h1
    · exact .kTuple h1 h2
  | rol h1 h2 =>
    cases h
    rcases h1.1 with (h1 | ⟨o, h1⟩) | ⟨o, its, m, h1, h2, _⟩
    · exact .base (.lst h1)
    · exact .base (.frz h1)
    · exact .kList h1 h2
  | obj e =>
    simp only [tyD] at h
    split at h
    · rename_i ds hk
      cases h
      obtain ⟨vs, hv, _⟩ := gr.obj e hk
      exact .base (.lst hv)
    · rename_i kvs hk
      cases h
      obtain ⟨vs, hv, _⟩ := gr.obj e hk
      exact .base (.dK hv)
    · rename_i kvs hk
      cases h
      obtain ⟨vs, hv, _⟩ := gr.obj e hk
      exact .base (.dT hv)
    · cases h
    · cases h
  | ref a => cases h
  | ty m => cases h
/-- what isinstance asks of an own class -/
structure OwnC (K : PySem.W.Frag) (C : Addr) : Prop where
  cl : Cls K C
  ca : PySem.W.findIn K (.ref C) "__class__" = some (some (.builtin "object.__class__"))
  cn : PySem.W.specialIn K (.builtin "object.__class__") "__get__" = some (some (.builtin "getset_descriptor.__get__"))
  ct : PySem.W.takesIn K (.builtin "object.__class__") = some true
  cm : PySem.W.mroIn K C (.type "object") = some true
theorem tyx_own {K : PySem.W.Frag} {η : List Addr} {S : SS} {H : Hp} {d : D} {v : V} (gr : GR K η S H) (r : VR K η H d v) {C : Addr} (h : tyD S d = some (.inr C)) (o : OwnC K C) : TyX K H v (.ref C) := by
  cases r with
  | obj e =>
    simp only [tyD] at h
    split at h
    · cases h
    · cases h
    · cases h
    · rename_i C' fs hk
      cases h
      obtain ⟨dx, us, hv, _⟩ := gr.obj e hk
      exact .base (.ins hv o.cl o.ca o.cn o.ct o.cm)
    · cases h
  | _ => cases h
/-- the table f tells isinstance(·, u) -/
def IsiT (K : PySem.W.Frag) (u : Value) (f : String ⊕ Addr → Option Bool) : Prop := (∀ n b, f (.inl n) = some b → PySem.W.kitOne K (.type n) u = some b) ∧ ∀ C b, f (.inr C) = some b → OwnC K C ∧ PySem.W.kitOne K (.ref C) u = some b
theorem lc_isi {t : D} {u : Value} {c : V} {f : String ⊕ Addr → Option Bool} (hu : ClsV c u) (ht : ∀ η H v, VR X.K η H t v → v = c) (h : IsiT X.K u f) : CallR X (.builtin "isinstance") (LC X.K (cIsi t f)) := by
  intro pins s σ H xs us Q I rx ⟨η, S, ds, R, gr, r, q, k⟩
  obtain ⟨d, e, v, w, rfl, rfl, r1, r2, q⟩ := two_of q r
  obtain ⟨rfl, q2⟩ := q
  clear q
  have q := q2
  clear q2
  obtain rfl := ht _ _ _ r2
  split at q
  · rename_i key hkey
    split at q
    · rename_i b hb
      cases key with
      | inl n => exact call_isi pins s σ H _ us Q I rx ⟨v, w, _, u, b, rfl, hu, tyx_of gr r1 hkey, h.1 n b hb, k _ S η H _ q .refl gr (.bl _)⟩
      | inr C =>
        obtain ⟨o, hk⟩ := h.2 C b hb
        exact call_isi pins s σ H _ us Q I rx ⟨v, w, _, u, b, rfl, hu, tyx_own gr r1 hkey o, hk, k _ S η H _ q .refl gr (.bl _)⟩
    · exact q.elim
  · exact q.elim
theorem ty_inj {K : PySem.W.Frag} {n : String} (η : List Addr) (H : Hp) (v : V) (r : VR K η H (.ty n) v) : v = .ty n := by cases r; rfl
theorem ref_inj {K : PySem.W.Frag} {a : Addr} (η : List Addr) (H : Hp) (v : V) (r : VR K η H (.ref a) v) : v = .ref a := by cases r; rfl
theorem isiB_ok {K : PySem.W.Frag} {T : String} {own : Addr → Bool} (hT : (["int", "bool", "tuple", "str", "list", "dict"] : List String).contains T = true) (ho : ∀ C, own C = true → OwnC K C ∧ PySem.W.kitOne K (.ref C) (.type T) = some false) : IsiT K (.type T) (isiB T own) := by
  refine ⟨fun n b h => ?_, fun C b h => ?_⟩
  · simp only [isiB] at h
    split at h
    · rename_i hn
      cases h
      have key : ∀ T ∈ (["int", "bool", "tuple", "str", "list", "dict"] : List String), ∀ n ∈ (["NoneType", "int", "bool", "tuple", "str", "list", "dict"] : List String), kitB n T = some (n == T || (n == "bool" && T == "int")) := by decide +kernel
      exact kit_ty (key T (by simpa using hT) n (by simpa using hn))
    · cases h
  · simp only [isiB] at h
    split at h
    · rename_i hC
      cases h
      exact ho C hC
    · cases h
end

/-! ### slices -/
section
variable {X : Cx} {B : Bs} {pos p2 : Pos} {e l u : Expr} {te tl tu : GE}
def LO (K : PySem.W.Frag) (B : Bs) (t : GO') : TO := fun τ H Q => ∃ η S σ R, SG K B η H σ τ ∧ GR K η S H ∧ t σ S R ∧ ∀ o S' η' H', R o S' → Grow η H η' H' → GR K η' S' H' → Q o H'
def GPO (X : Cx) (B : Bs) (e : Option Expr) (t : GO') : Prop := PO X e (LO X.K B t)
theorem PO.weak {e : Option Expr} {t u : TO} (h : PO X e t) (w : ∀ τ H Q, u τ H Q → t τ H Q) : PO X e u := ⟨fun p s τ H Q I q => h.run p s τ H Q I (w τ H Q q)⟩
theorem go_none : GPO X B none goNone := PO.weak po_none fun τ H Q ⟨η, S, σ, R, sr, gr, q, k⟩ => k none S η H q .refl gr
theorem go_some (h : GPE X B e te) : GPO X B (some e) (goSome te) := PO.weak (po_some h) fun τ H Q ⟨η, S, σ, R, sr, gr, q, k⟩ =>
  ⟨η, S, σ, _, sr, gr, q, fun d S1 η1 H1 v q1 g1 gr1 r1 => by
    cases r1 with
    | int i => exact ⟨i, rfl, k _ S1 η1 H1 q1 g1 gr1⟩
    | _ => exact q1.elim⟩
def LSl (K : PySem.W.Frag) (o : D → Option Int → Option Int → SS → GQ → Prop) : V → Option Int → Option Int → Hp → VK → Prop := fun x a b H Q => ∃ η S d R, GR K η S H ∧ VR K η H d x ∧ o d a b S R ∧ Ko K η H R Q
theorem six_eq (n d : Nat) (o : Option Int) : HT.sIx n d o = sIxG n d o := by cases o <;> rfl
theorem vrs_cut {K : PySem.W.Frag} {η : List Addr} {H : Hp} : ∀ {ds : List D} {vs : List V} (i j : Nat), VRs K η H ds vs → VRs K η H ((ds.drop i).take j) ((vs.drop i).take j) := by
  have h1 : ∀ {ds : List D} {vs : List V} (j : Nat), VRs K η H ds vs → VRs K η H (ds.take j) (vs.take j) := by
    intro ds vs j r
    induction j generalizing ds vs with
    | zero => simp; exact .nil
    | succ j ih => cases r with
      | nil => exact .nil
      | cons a b => exact .cons a (ih b)
  have h2 : ∀ {ds : List D} {vs : List V} (i : Nat), VRs K η H ds vs → VRs K η H (ds.drop i) (vs.drop i) := by
    intro ds vs i r
    induction i generalizing ds vs with
    | zero => exact r
    | succ j ih => cases r with
      | nil => exact .nil
      | cons a b => exact ih b
  intro ds vs i j r
  exact h1 j (h2 i r)
theorem vrs_cutV {K : PySem.W.Frag} {η : List Addr} {H : Hp} {ds : List D} {vs : List V} (r : VRs K η H ds vs) (a b : Option Int) : VRs K η H (cutG ds a b) (cutV vs a b) := by
  unfold cutG cutV
  rw [six_eq, six_eq, ← r.length]
  exact vrs_cut _ _ r
theorem lsl : SlR X (LSl X.K oSl) := by
  intro pins s σ H x v vl vu lo hi sl Q I rx hs pl pu ⟨η, S, d, R, gr, r, q, k⟩
  cases r with
  | str z =>
    exact sl_str pins s σ H _ v vl vu lo hi sl Q I rx hs pl pu ⟨z, rfl, q.1, by
      have e : cutS z lo hi = cutSG z lo hi := by
        have hl : z.cps.toList.length = z.length := by simp [Str.length]
        unfold cutS cutSG cutG
        rw [six_eq, six_eq, hl]
      rw [e]
      exact k _ S η H _ q.2 .refl gr (.str _)⟩
  | tup h1 h2 =>
    refine sl_tupA pins s σ H _ v vl vu lo hi sl Q I rx hs pl pu ⟨_, _, rfl, h1, fun hw => ?_, fun hw l hl => ?_⟩
    · rw [six_eq, six_eq, ← h2.length] at hw
      simp only [oSl, cutG, hw.1, hw.2, Nat.sub_zero, List.drop_zero, List.take_length] at q
      exact k _ S η H _ q .refl gr (.tup h1 h2)
    · exact k _ S η _ _ q (grow_new hl) (gr.new hl) (.tup (.inl (.inl upd_same)) ((vrs_cutV h2 lo hi).grow (grow_new hl)))
  | rol h1 h2 => exact sl_list pins s σ H _ v vl vu lo hi sl Q I rx hs pl pu ⟨_, _, rfl, h1.1, fun l hl => push_lst k gr (vrs_cutV h2 lo hi) q hl⟩
  | obj e1 =>
    simp only [oSl] at q
    split at q
    · rename_i ds hk
      obtain ⟨vs, hv, hr⟩ := gr.obj e1 hk
      exact sl_list pins s σ H _ v vl vu lo hi sl Q I rx hs pl pu ⟨_, _, rfl, .of hv, fun l hl => push_lst k gr (vrs_cutV hr lo hi) q hl⟩
    · exact q.elim
  | _ => exact q.elim
theorem ge_slice {lo hi : Option Expr} {tl tu : GO'} (he : GPE X B e te) (hl : GPO X B lo tl) (hu : GPO X B hi tu) : GPE X B (.Subscript e (.Slice lo hi none p2) pos) (gSlice te tl tu) :=
  PE.weak (pe_slice lsl he hl hu) fun τ H Q ⟨η, S, σ, R, sr, gr, q, k⟩ =>
    ⟨η, S, σ, _, sr, gr, q, fun d S1 η1 H1 v q1 g1 gr1 r1 => ⟨η1, S1, σ, _, sr.grow g1, gr1, q1, fun a S2 η2 H2 q2 g2 gr2 => ⟨η2, S2, σ, _, (sr.grow g1).grow g2, gr2, q2, fun b S3 η3 H3 q3 g3 gr3 =>
      ⟨η3, S3, d, R, gr3, (r1.grow g2).grow g3, q3, k.grow ((g1.trans g2).trans g3)⟩⟩⟩⟩
end
end Gh

/-! Gr: own operators: *, ~, ==, !=, bool, str, len, in, calls of instances. -/
namespace Gh
open PySem PySem.Spec PyProof.Rows L2
variable [TabsC]

section
variable {prog : Program} {w : World} {M : Model} {A : Around} {E : Value → Shared → Prop} {s : Shared} {K : PySem.W.Frag} {x C L f : Addr} {h₀ : Heap} {m : Str → Option Value} {ox : Obj} {od : Option Obj} {tb b : Value}
theorem ifBound_B {name : Str} {id : String} {args : List Value} {Q : Option Value → Shared → Prop} (X : K.In s.heap) (I : PySem.W.InstAt s.heap x ox C od) (hs : PySem.W.findIn K (.ref C) name = some (some (.builtin id))) (hb : ∀ self, bindSpecial (.builtin id) self = pure (.builtin id, [self]))
    (h : wpAny M A (call (.builtin id) (.ref x :: args)) (fun v => Q (some v)) E s) : wpAny M A (callSpecialIfBound? (.ref x) name args) Q E s := by
  simp only [callSpecialIfBound?, bindSpecialIfBound?]
  refine wpAny_holding (wpAny_bind (wpAny_bind (wpAny_bind (I.type.here ((PySem.W.looks_findIn X hs).here ?_)))))
  have last : wpAny M A (call (.builtin id) ([.ref x] ++ args) >>= fun v => pure (some v)) Q E s := wpAny_bind (wpAny_mono h (fun v s' z => wpAny_pure z) fun _ _ z => z)
  refine wpAny_bind (wpAny_askSetting (wpAny_ite ?_))
  split
  · exact wpAny_bind (wpAny_of_eq (hb _) (wpAny_pure last))
  · exact wpAny_tryCatch (wpAny_bind (wpAny_of_eq (hb _) (wpAny_pure last)))
/-- a != b by a's own __eq__ -/
theorem ne_own {Q : Value → Shared → Prop} (hu : A.units + 1 < cLine) (F : Fr h₀ L s.heap m) (X₀ : K.In h₀) (I : PySem.W.InstAt s.heap x ox C od) (hb : PySem.W.Looks (model prog w) s.heap (typeOf b) tb) (hn : PySem.W.notFirst K C tb = true)
    (hne : PySem.W.findIn K (.ref C) "__ne__" = some (some (.builtin "object.__ne__"))) (hm : PySem.W.mroIn K C (.type "object") = some true) (hs : PySem.W.findIn K (.ref C) "__eq__" = some (some (.ref f))) (hf : PySem.W.isFn K (.ref f) = true)
    (h : wpAny (model prog w) A.in1 (call (.ref f) [.ref x, b]) (fun v s' => ∃ r, v = .bool r ∧ Q (.bool (!r)) s') E s) : wpAny (model prog w) A (richCompare .NotEq (.ref x) b) Q E s := by
  have X := X₀.keeps F.keep
  have hu0 : A.units < cLine := Nat.lt_of_succ_lt hu
  have one : wpAny (model prog w) A (tryCompare (.ref x) "__ne__" b) (fun r s' => ∃ v, r = some v ∧ Q v s') E s := by
    unfold tryCompare
    refine wpAny_bind (ifBound_B X I hne PySem.F.cmp_object.ne.bind (wpAny_call (codeAny_call_builtin PySem.F.cmp_object.ne.plain PySem.F.cmpEntry_ne (PySem.W.check_slot (i := "object.__ne__") (owner := "object") (n := "__ne__") PySem.F.cmpKind_ne PySem.F.cmpSplit_ne (I.type.andThen (PySem.W.looks_mroIn X hm)) (PySem.F.cmpArgs_ne _ _) ?_))))
    unfold Builtin.«object.__ne__»
    refine wpAny_bind (m := slotArgs "__ne__" 1 _) (wpAny_pure ?_)
    refine wpAny_bind (m := cRoomFor _ _) (wpAny_cRoomFor (show A.in1.units < cLine from hu) ?_)
    refine wpAny_bind (m := callSpecialIfBound? (.ref x) (Str.ofString "__eq__") [b]) (PySem.W.ifBound_K X I hs hf (wpAny_mono h (fun v s' z => ?_) fun _ _ z => z))
    obtain ⟨r, rfl, q⟩ := z
    refine wpAny_bind (m := truthy (.bool r)) (wpAny_truthy_bool ?_)
    exact wpAny_pure (wpAny_pure ⟨_, rfl, q⟩)
  unfold richCompare
  simp only [oneThing_ref, cmpInfo]
  refine wpAny_holding (wpAny_bind (wpAny_cRoomFor hu0 ?_))
  refine wpAny_bind (I.type.here (wpAny_bind (hb.here ?_)))
  split
  · rename_i q
    have e : PySem.W.subIn K tb (.ref C) = some false := (Bool.or_eq_true_iff.mp hn).elim (fun e => by rw [beq_iff_eq.mp e] at q; simp at q) fun e => beq_iff_eq.mp e
    refine wpAny_bind ((PySem.W.looks_subIn X e).here ?_)
    simp only [Bool.false_eq_true, if_false]
    refine wpAny_bind (wpAny_mono one (fun r s' ⟨v, e, hq⟩ => ?_) fun _ _ e => e)
    subst e
    exact wpAny_pure hq
  · refine wpAny_bind (wpAny_pure ?_)
    simp only [Bool.false_eq_true, if_false]
    refine wpAny_bind (wpAny_mono one (fun r s' ⟨v, e, hq⟩ => ?_) fun _ _ e => e)
    subst e
    exact wpAny_pure hq
end
section
variable {X : Cx} {B : Bs} {k : Nat} {pins : List (Addr × Obj)} {σ : L2.St} {H : Hp} {s : Shared} {η : List Addr} {S : SS}
theorem inst_at {a C dx : Addr} {us : List (Str × V)} (I : Inv X pins σ H s) (h : H a = some (.ins C dx us)) : ∃ ox od, PySem.W.InstAt s.heap a ox C (some od) ∧ ox.data = .plain := by
  obtain ⟨mA, O, _⟩ := ins_get I.hok h
  obtain ⟨od, J, _⟩ := O.look
  exact ⟨_, _, J, rfl⟩
/-- the callee, below the running body -/
theorem run_gA {A : Around} {f : Addr} {sp : GSp} {ds : List D} {us : List Value} {vs : List V} {R : GQ} {Q : VK} {G : GX} (F : GFn X.prog X.w X.K X.mg X.base k f sp) (hr : Rm k A) (e0 : Env0 X.prog X.w X.K X.mg X.base A X.stack s H) (hG : ∀ C fs S', ¬ G C fs S') (I : Inv X pins σ H s) (r : Vals vs us)
    (gr : GR X.K η S H) (rs : VRs X.K η H ds vs) (h : sp ds S R G) (ko : Ko X.K η H R Q) : wpAny (model X.prog X.w) A (call (.ref f) us) (EP X pins σ Q) X.xe s := by
  refine wpAny_call (codeAny_mono (F A X.stack s H us vs Q (fun _ _ _ => False) hr e0 r ⟨η, S, ds, R, G, gr, rs, h, ko, fun C fs S' _ _ _ z => (hG C fs S' z).elim⟩) fun z s' hq => ?_)
  cases z with
  | error e => obtain ⟨_, _, _, _, _, _, _, _, _, _, _, _, z⟩ := hq; exact z.elim
  | ok fl =>
    cases fl with
    | ret u => exact I.after hq
    | next => exact hq.elim
    | brk => exact hq.elim
    | cont => exact hq.elim
/-- the table's promises of the method m -/
def STab (X : Cx) (k : Nat) (m : Str) (tb : Addr → Option GSp) : Prop := ∀ C sp, tb C = some sp → ∃ f, PySem.W.findIn X.K (.ref C) m = some (some (.ref f)) ∧ PySem.W.isFn X.K (.ref f) = true ∧ GFn X.prog X.w X.K X.mg X.base k f sp
theorem noG (C : Addr) (fs : List (Str × D)) (S' : SS) : ¬ (fun _ _ _ => False : GX) C fs S' := fun z => z
def keyV : String ⊕ Addr → Value
  | .inl n => .type n
  | .inr C => .ref C
/-- the type that the model sees -/
theorem typ_of {K : PySem.W.Frag} {d : D} {v : V} {u : Value} (I : Inv X pins σ H s) (gr : GR X.K η S H) (r : VR X.K η H d v) (ru : RelV v u) {key : String ⊕ Addr} (h : tyD S d = some key) (ho : ∀ C, key = .inr C → OwnC X.K C) :
    PySem.W.Looks (model X.prog X.w) s.heap (typeOf u) (keyV key) := by
  cases key with
  | inl n => obtain ⟨P, kx, p, _⟩ := kit_of I ru (tyx_of gr r h); exact kx.ty _ _ I.kIn p
  | inr C => obtain ⟨P, kx, p, _⟩ := kit_of I ru (tyx_own gr r h (ho C rfl)); exact kx.ty _ _ I.kIn p
/-- what the right side may be -/
def OkTab (X : Cx) (tb : Addr → Option GSp) (ok : Addr → String ⊕ Addr → Bool) : Prop := ∀ C sp key, tb C = some sp → ok C key = true → (∀ C', key = .inr C' → OwnC X.K C') ∧ PySem.W.notFirst X.K C (keyV key) = true
theorem own_split {tb : Addr → Option GSp} {ok : Addr → String ⊕ Addr → Bool} {neg : Bool} {d e : D} {v : V} {R : GQ} (gr : GR X.K η S H) (r : VR X.K η H d v) (q : oOwn tb ok neg d e S R) :
    ∃ j a C dx us sp key, d = .obj j ∧ v = .ref a ∧ H a = some (.ins C dx us) ∧ tb C = some sp ∧ tyD S e = some key ∧ ok C key = true ∧ sp [d, e] S (fun z S' => match z with
        | .bl b => R (.bl (if neg then !b else b)) S'
        | _ => False) (fun _ _ _ => False) := by
  cases r with
  | obj e1 =>
    simp only [oOwn] at q
    split at q
    · rename_i C fs hk
      obtain ⟨dx, us, hv, hf⟩ := gr.obj e1 hk
      split at q
      · rename_i sp key h1 h2
        exact ⟨_, _, C, dx, us, sp, key, rfl, rfl, hv, h1, h2, q.1, q.2⟩
      · exact q.elim
    · exact q.elim
  | _ => exact q.elim
theorem ko_bl {K : PySem.W.Frag} {R : GQ} {Q : VK} {neg : Bool} (k : Ko K η H R Q) : Ko K η H (fun z S' => match z with
        | .bl b => R (.bl (if neg then !b else b)) S'
        | _ => False) (fun v H' => ∃ b, v = .bl b ∧ Q (.bl (if neg then !b else b)) H') := by
  intro d S' η' H' v q g gr r
  cases r with
  | bl b => exact ⟨b, rfl, k _ S' η' H' _ q g gr (.bl _)⟩
  | _ => exact q.elim
theorem lo_eqO {tb : Addr → Option GSp} {ok : Addr → String ⊕ Addr → Bool} (hT : STab X k "__eq__" tb) (hO : OkTab X tb ok) (hr : Rm k X.A) : OpR X (compareOp .Eq) (LO2 X.K (oOwn tb ok false)) := by
  intro pins s σ H x y v u Q I rx ry ⟨η, S, d, e, R, gr, r1, r2, q, ko⟩
  obtain ⟨j, a, C, dx, us, sp, key, rfl, rfl, hv, ht, hk, hok, q⟩ := own_split gr r1 q
  obtain ⟨f, hs, hf, F⟩ := hT C sp ht
  obtain ⟨ho, hn⟩ := hO C sp key ht hok
  obtain ⟨ox, od, J, _⟩ := inst_at I hv
  obtain ⟨m, hF⟩ := I.fr
  cases (show v = Value.ref a from rx)
  show wpAny _ _ (richCompare .Eq _ _) _ _ _
  refine PySem.W.cmp_K (op := .Eq) hr.units0 hF I.ok.mod.kin J (typ_of (K := X.K) I gr r2 ry hk ho) hn hs hf ?_
  refine wpAny_mono (run_gA (us := [.ref a, u]) (vs := [.ref a, y]) F hr I.env0 noG I (.cons rfl (.cons ry .nil)) gr (.cons r1 (.cons r2 .nil)) q (ko_bl (neg := false) ko)) (fun z s' ⟨v', H', I', rv, b, e, q'⟩ => ?_) fun _ _ z => z
  subst e
  cases (show z = Value.bool b from rv)
  exact ⟨.bl b, H', I', rfl, q'⟩
theorem lo_neO {tb : Addr → Option GSp} {ok : Addr → String ⊕ Addr → Bool} (hT : STab X k "__eq__" tb) (hN : ∀ C sp, tb C = some sp → PySem.W.findIn X.K (.ref C) "__ne__" = some (some (.builtin "object.__ne__")) ∧ PySem.W.mroIn X.K C (.type "object") = some true) (hO : OkTab X tb ok) (hr : Rm (k + 1) X.A) : OpR X (compareOp .NotEq) (LO2 X.K (oOwn tb ok true)) := by
  intro pins s σ H x y v u Q I rx ry ⟨η, S, d, e, R, gr, r1, r2, q, ko⟩
  obtain ⟨j, a, C, dx, us, sp, key, rfl, rfl, hv, ht, hk, hok, q⟩ := own_split gr r1 q
  obtain ⟨f, hs, hf, F⟩ := hT C sp ht
  obtain ⟨hn1, hn2⟩ := hN C sp ht
  obtain ⟨ho, hn⟩ := hO C sp key ht hok
  obtain ⟨ox, od, J, _⟩ := inst_at I hv
  obtain ⟨m, hF⟩ := I.fr
  cases (show v = Value.ref a from rx)
  show wpAny _ _ (richCompare .NotEq _ _) _ _ _
  refine ne_own (huR hr) hF I.ok.mod.kin J (typ_of (K := X.K) I gr r2 ry hk ho) hn hn1 hn2 hs hf ?_
  refine wpAny_mono (run_gA (us := [.ref a, u]) (vs := [.ref a, y]) F hr.in1 I.env0.in1 noG I (.cons rfl (.cons ry .nil)) gr (.cons r1 (.cons r2 .nil)) q (ko_bl (neg := true) ko)) (fun z s' ⟨v', H', I', rv, b, e, q'⟩ => ?_) fun _ _ z => z
  subst e
  cases (show z = Value.bool b from rv)
  exact ⟨b, rfl, .bl (!b), H', I', rfl, q'⟩
theorem lo_binO {op : Operator} {tb : Addr → Option GSp} (hT : STab X k (PySem.dunder op.info.2) tb) (hS : ∀ C sp, tb C = some sp → PySem.W.selfFirst X.K C = true) (hr : Rm k X.A) : OpR X (binaryOp op) (LO2 X.K (oOwnB tb)) := by
  intro pins s σ H x y v u Q I rx ry ⟨η, S, d, e, R, gr, r1, r2, q, ko⟩
  cases r1 with
  | @obj ka a e1 => cases r2 with
    | @obj kb b e2 =>
      simp only [oOwnB] at q
      split at q
      · rename_i C fs C' fs' h1 h2
        obtain ⟨rfl, q⟩ := q
        split at q
        · rename_i sp ht
          obtain ⟨dx, us, hv, _⟩ := gr.obj e1 h1
          obtain ⟨dy, ws, hw, _⟩ := gr.obj e2 h2
          obtain ⟨f, hs, hf, F⟩ := hT C sp ht
          obtain ⟨ox, od, J, _⟩ := inst_at I hv
          obtain ⟨oy, od', J', _⟩ := inst_at I hw
          obtain ⟨m, hF⟩ := I.fr
          cases (show v = Value.ref a from rx)
          cases (show u = Value.ref b from ry)
          refine PySem.W.binop_K hF I.ok.mod.kin J J'.type (hS C sp ht) hs hf ?_
          refine wpAny_mono (run_gA (us := [.ref a, .ref b]) (vs := [.ref a, .ref b]) F hr I.env0 noG I (.cons rfl (.cons rfl .nil)) gr (.cons (.obj e1) (.cons (.obj e2) .nil)) q ko) (fun z s' ⟨v', H', I', rv, q'⟩ => ?_) fun _ _ z => z
          have fin : EP X pins σ Q z s' := ⟨v', H', I', rv, q'⟩
          cases v' with
          | non => cases (show z = Value.none from rv); exact fin
          | bl b => cases (show z = Value.bool b from rv); exact fin
          | int i => obtain ⟨t, rfl⟩ := rv; exact fin
          | str i => obtain ⟨t, rfl⟩ := rv; exact fin
          | byt i => obtain ⟨t, rfl⟩ := rv; exact fin
          | flt i => obtain ⟨t, rfl⟩ := rv; exact fin
          | ref a => cases (show z = Value.ref a from rv); exact fin
          | ty a => cases (show z = Value.type a from rv); exact fin
        · exact q.elim
      · exact q.elim
    | _ => exact q.elim
  | _ => exact q.elim
theorem own_un {tb : Addr → Option GSp} {d : D} {v : V} {R : GQ} (gr : GR X.K η S H) (r : VR X.K η H d v) (q : oOwnU tb d S R) : ∃ a C dx us sp, v = .ref a ∧ H a = some (.ins C dx us) ∧ tb C = some sp ∧ sp [d] S R (fun _ _ _ => False) := by
  cases r with
  | obj e1 =>
    simp only [oOwnU] at q
    split at q
    · rename_i C fs hk
      obtain ⟨dx, us, hv, hf⟩ := gr.obj e1 hk
      split at q
      · rename_i sp h1
        exact ⟨_, C, dx, us, sp, rfl, hv, h1, q⟩
      · exact q.elim
    · exact q.elim
  | _ => exact q.elim
theorem lo_invO {tb : Addr → Option GSp} (hT : STab X k "__invert__" tb) (hr : Rm k X.A) : UnR X (unaryOp .Invert) (LO1 X.K (oOwnU tb)) := by
  intro pins s σ H x v Q I rx ⟨η, S, d, R, gr, r1, q, ko⟩
  obtain ⟨a, C, dx, us, sp, rfl, hv, ht, q⟩ := own_un gr r1 q
  obtain ⟨f, hs, hf, F⟩ := hT C sp ht
  obtain ⟨ox, od, J, _⟩ := inst_at I hv
  obtain ⟨m, hF⟩ := I.fr
  cases (show v = Value.ref a from rx)
  exact PySem.W.ksp_inv hF I.ok.mod.kin J hs hf (run_gA (us := [.ref a]) (vs := [.ref a]) F hr I.env0 noG I (.cons rfl .nil) gr (.cons r1 .nil) q ko)
theorem ko_isBl {K : PySem.W.Frag} {R : GQ} {Q : VK} (k : Ko K η H R Q) : Ko K η H (isBlD R) (fun v H' => ∃ b, v = .bl b ∧ Q (.bl b) H') := by
  intro d S' η' H' v q g gr r
  cases r with
  | bl b => exact ⟨b, rfl, k _ S' η' H' _ q g gr (.bl _)⟩
  | _ => exact q.elim
theorem ko_isStr {K : PySem.W.Frag} {R : GQ} {Q : VK} (k : Ko K η H R Q) : Ko K η H (isStrD R) (fun v H' => ∃ z, v = .str z ∧ Q (.str z) H') := by
  intro d S' η' H' v q g gr r
  cases r with
  | str z => exact ⟨z, rfl, k _ S' η' H' _ q g gr (.str _)⟩
  | _ => exact q.elim
theorem ko_isLen {K : PySem.W.Frag} {R : GQ} {Q : VK} (k : Ko K η H R Q) : Ko K η H (isLenD R) (fun v H' => ∃ n, v = .int n ∧ (0 ≤ n ∧ n < 2 ^ 63) ∧ Q (.int n) H') := by
  intro d S' η' H' v q g gr r
  cases r with
  | int n => exact ⟨n, rfl, q.1, k _ S' η' H' _ q.2 g gr (.int _)⟩
  | _ => exact q.elim
/-- bool(x) by an own __bool__, at the model's level -/
theorem call_bool_own {prog : Program} {w : World} {A : Around} {E : Value → Shared → Prop} {s : Shared} {K : PySem.W.Frag} {x C L f : Addr} {h₀ : Heap} {m : Str → Option Value} {ox : Obj} {od : Option Obj} {Q : Value → Shared → Prop} (F : Fr h₀ L s.heap m) (X₀ : K.In h₀) (I : PySem.W.InstAt s.heap x ox C od)
    (hs : PySem.W.findIn K (.ref C) "__bool__" = some (some (.ref f))) (hf : PySem.W.isFn K (.ref f) = true) (h : wpAny (model prog w) A.in1.in1 (call (.ref f) [.ref x]) (PySem.W.BoolBack fun b => Q (.bool b)) E s) : wpAny (model prog w) A (call (.type "bool") [.ref x]) Q E s := by
  refine callType_codes (T := "bool") (Bi := Builtin.«object.__init__») (Q₁ := fun r s₁ => ∃ b, r = .bool b ∧ Q r s₁) PySem.F.called_bool (PySem.F.typeCall_bool_1 _) PySem.F.entry_object_init ?_ ?_
  · refine codeAny_of_tree ?_
    show wpAny _ A.in1.in1 (do checkBuiltinCall "bool.__new__" ⟨[.type "bool", .ref x], []⟩; again (.builtin "bool.__new__" ⟨[.type "bool", .ref x], []⟩)) _ _ s
    refine wpAny_bind (wpAny_of_eq (PySem.F.newCall_bool_1 _) (wpAny_pure ⟨plainId_quiet (by decide +kernel) _, codeAny_builtin PySem.F.entry_bool_new ?_⟩))
    rw [Around.under_plainId (by decide +kernel) _]
    unfold Builtin.«bool.__new__»
    have f1 := PySem.F.conv_sub_bool
    have key : wpAny (model prog w) A.in1.in1 (truthy (.ref x)) (fun b s' => Q (.bool b) s') E s := PySem.W.truthy_K F X₀ I hs hf h
    refine wpAny_bind (m := isType _) (wpAny_pure ?_)
    refine wpAny_bind (m := isSubtype _ _) (wpAny_of_eq f1 ?_)
    refine wpAny_bind (m := someArgs _ _ _ _) (wpAny_pure ?_)
    refine wpAny_bind (m := truthy _) (wpAny_mono key (fun b s' q => ?_) fun _ _ z => z)
    exact wpAny_pure ⟨b, rfl, q⟩
  · rintro obj s₁ ⟨b, rfl, hq⟩
    exact ⟨PySem.typeIs_bool _ _, PySem.F.args_object_init_2 _ _, object_init_meets PySem.F.called_bool.init.lookup PySem.F.called_bool.made (by decide) prog w A.in1 _ s₁ ⟨PySem.typeIs_bool _ _, rfl, hq⟩⟩
theorem lc_boolO {tb : Addr → Option GSp} (hT : STab X k "__bool__" tb) (hr : Rm (k + 2) X.A) : CallR X (.type "bool") (LC X.K (cBoolO tb)) := by
  intro pins s σ H xs us Q I rx ⟨η, S, ds, R, gr, r, q, ko⟩
  obtain ⟨d, v, rfl, rfl, r1, q⟩ := one_of q r
  obtain ⟨a, C, dx, ws, sp, rfl, hv, ht, q⟩ := own_un gr r1 q
  obtain ⟨f, hs, hf, F⟩ := hT C sp ht
  obtain ⟨ox, od, J, _⟩ := inst_at I hv
  obtain ⟨m, hF⟩ := I.fr
  obtain ⟨u, rfl, hu⟩ := Vals.one rx
  cases (show u = Value.ref a from hu)
  refine call_bool_own hF I.ok.mod.kin J hs hf (wpAny_mono (run_gA (us := [.ref a]) (vs := [.ref a]) F hr.in1.in1 I.env0.in1.in1 noG I (.cons rfl .nil) gr r q (ko_isBl ko)) (fun z s' ⟨v', H', I', rv, b, e, q'⟩ => ?_) fun _ _ z => z)
  subst e
  cases (show z = Value.bool b from rv)
  exact ⟨.bl b, H', I', rfl, q'⟩
theorem lc_strO {tb : Addr → Option GSp} (hT : STab X k "__str__" tb) (hr : Rm (k + 2) X.A) : CallR X (.type "str") (LC X.K (cStrO tb)) := by
  intro pins s σ H xs us Q I rx ⟨η, S, ds, R, gr, r, q, ko⟩
  obtain ⟨d, v, rfl, rfl, r1, q⟩ := one_of q r
  obtain ⟨a, C, dx, ws, sp, rfl, hv, ht, q⟩ := own_un gr r1 q
  obtain ⟨f, hs, hf, F⟩ := hT C sp ht
  obtain ⟨ox, od, J, _⟩ := inst_at I hv
  obtain ⟨u, rfl, hu⟩ := Vals.one rx
  cases (show u = Value.ref a from hu)
  refine PySem.W.kso_call hr.in1.in1.units0 I.kIn J hs hf (wpAny_mono (run_gA (us := [.ref a]) (vs := [.ref a]) F hr.in1.in1 I.env0.in1.in1 noG I (.cons rfl .nil) gr r q (ko_isStr ko)) (fun z s' ⟨v', H', I', rv, b, e, q'⟩ => ?_) fun _ _ z => z)
  subst e
  obtain ⟨t, rfl⟩ := rv
  exact ⟨.str b, H', I', ⟨t, rfl⟩, q'⟩
theorem lc_lenO {tb : Addr → Option GSp} (hT : STab X k "__len__" tb) (hr : Rm (k + 1) X.A) : CallR X (.builtin "len") (LC X.K (cLenO tb)) := by
  intro pins s σ H xs us Q I rx ⟨η, S, ds, R, gr, r, q, ko⟩
  obtain ⟨d, v, rfl, rfl, r1, q⟩ := one_of q r
  obtain ⟨a, C, dx, ws, sp, rfl, hv, ht, q⟩ := own_un gr r1 q
  obtain ⟨f, hs, hf, F⟩ := hT C sp ht
  obtain ⟨ox, od, J, _⟩ := inst_at I hv
  obtain ⟨m, hF⟩ := I.fr
  obtain ⟨u, rfl, hu⟩ := Vals.one rx
  cases (show u = Value.ref a from hu)
  refine PySem.W.len_K hF I.ok.mod.kin J hs hf (wpAny_mono (run_gA (us := [.ref a]) (vs := [.ref a]) F hr.in1 I.env0.in1 noG I (.cons rfl .nil) gr r q (ko_isLen ko)) (fun z s' ⟨v', H', I', rv, n, e, b, q'⟩ => ?_) fun _ _ z => z)
  subst e
  obtain ⟨t, rfl⟩ := rv
  exact ⟨b, .int n, H', I'.tok _, ⟨_, rfl⟩, q'⟩
theorem lo_inO {tb : Addr → Option GSp} (hT : STab X k "__contains__" tb) (hr : Rm k X.A) : OpR X (compareOp .In) (LO2 X.K (oInO tb false)) := by
  intro pins s σ H x y v u Q I rx ry ⟨η, S, d, e, R, gr, r1, r2, q, ko⟩
  cases r2 with
  | @obj kb b e2 =>
    simp only [oInO] at q
    split at q
    · rename_i C fs hk
      split at q
      · rename_i sp ht
        obtain ⟨dx, us, hv, _⟩ := gr.obj e2 hk
        obtain ⟨f, hs, hf, F⟩ := hT C sp ht
        obtain ⟨ox, od, J, _⟩ := inst_at I hv
        obtain ⟨m, hF⟩ := I.fr
        cases (show u = Value.ref b from ry)
        refine PySem.W.in_K hF I.ok.mod.kin J hs hf (wpAny_mono (run_gA (us := [.ref b, v]) (vs := [.ref b, x]) F hr I.env0 noG I (.cons rfl (.cons rx .nil)) gr (.cons (.obj e2) (.cons r1 .nil)) q (ko_bl (neg := false) ko)) (fun z s' ⟨v', H', I', rv, c, e, q'⟩ => ?_) fun _ _ z => z)
        subst e
        cases (show z = Value.bool c from rv)
        exact wpAny_truthy_bool ⟨.bl c, H', I', rfl, q'⟩
      · exact q.elim
    · exact q.elim
  | _ => exact q.elim
theorem lo_notInO {tb : Addr → Option GSp} (hT : STab X k "__contains__" tb) (hr : Rm k X.A) : OpR X (compareOp .NotIn) (LO2 X.K (oInO tb true)) := by
  intro pins s σ H x y v u Q I rx ry ⟨η, S, d, e, R, gr, r1, r2, q, ko⟩
  cases r2 with
  | @obj kb b e2 =>
    simp only [oInO] at q
    split at q
    · rename_i C fs hk
      split at q
      · rename_i sp ht
        obtain ⟨dx, us, hv, _⟩ := gr.obj e2 hk
        obtain ⟨f, hs, hf, F⟩ := hT C sp ht
        obtain ⟨ox, od, J, _⟩ := inst_at I hv
        obtain ⟨m, hF⟩ := I.fr
        cases (show u = Value.ref b from ry)
        refine PySem.W.notIn_K hF I.ok.mod.kin J hs hf (wpAny_mono (run_gA (us := [.ref b, v]) (vs := [.ref b, x]) F hr I.env0 noG I (.cons rfl (.cons rx .nil)) gr (.cons (.obj e2) (.cons r1 .nil)) q (ko_bl (neg := true) ko)) (fun z s' ⟨v', H', I', rv, c, e, q'⟩ => ?_) fun _ _ z => z)
        subst e
        cases (show z = Value.bool c from rv)
        exact wpAny_truthy_bool ⟨.bl (!c), H', I', rfl, q'⟩
      · exact q.elim
    · exact q.elim
  | _ => exact q.elim
end
end Gh

/-! Gt: what the top has left, told by one look: functions at addresses, facts as Bools. -/
namespace Gh
open PySem PySem.Spec PyProof.Rows L2

/-- the top's objects, level by level, nothing compared -/
def levG (g : Addr → Option Obj) : Nat → List Addr → List Addr
  | 0, as => as
  | n + 1, as => as ++ levG g n (as.flatMap fun a => match g a with
    | some o => He.refsD o
    | none => [])
/-- the objects that the module's names reach; the names themselves first -/
def topK (g : Addr → Option Obj) (n : Nat) : PySem.W.Frag := He.frG g (levG g n [mainGlobals])
/-- a def: where it stands, and its row's parts -/
structure Df where
  at_ : PySem.W.Frag → Addr
  nm : Str
  ql : Str
  ar : Arguments
  bd : List Stmt
  sc : Scope
  kw : List (Str × He.Dv)
abbrev DfW : Type := Option (Str × Str × Arguments × FuncBody × Scope × Addr × List (Str × Addr) × Addr)
def seeF (K : PySem.W.Frag) (a : Addr) : DfW :=
  match K.lookup a with
  | some o => (match o.data with
    | .func fd => some ⟨fd.name, fd.qualname, fd.params, fd.body, fd.scope, fd.globals, fd.closure, fd.builtins⟩
    | _ => none)
  | none => none
def Df.due (d : Df) : DfW := some ⟨d.nm, d.ql, d.ar, .stmts d.bd, d.sc, mainGlobals, [], builtinsNs⟩
def Df.kws (K : PySem.W.Frag) (d : Df) : List (Str × V) := d.kw.map fun q => ⟨q.1, q.2.v K⟩
def Df.fits (K : PySem.W.Frag) (d : Df) : Bool :=
  PySem.W.keepIn K (.ref (d.at_ K)) && (match K.lookup (d.at_ K) with
    | some o => (match o.data with
      | .func fd => PySem.W.codeIn K fd.code d.ql && (He.dflB K fd.defaults [] && He.kwdB K fd.kwdefaults (d.kws K))
      | _ => false)
    | none => false)
theorem Df.tell {K : PySem.W.Frag} {d : Df} (e : seeF K (d.at_ K) = d.due) (c : d.fits K = true) : ∃ fd, FunD K d.nm d.ql d.ar d.bd d.sc [] (d.kws K) (d.at_ K) fd := by
  unfold Df.fits at c
  rw [Bool.and_eq_true] at c
  obtain ⟨kp, c⟩ := c
  unfold seeF at e
  cases q : K.lookup (d.at_ K) with
  | none => rw [q] at c; cases c
  | some o =>
    obtain ⟨oc, od, dt, sl⟩ := o
    rw [q] at c e
    cases dt with
    | func fd =>
      have c' : (PySem.W.codeIn K fd.code d.ql && (He.dflB K fd.defaults [] && He.kwdB K fd.kwdefaults (d.kws K))) = true := c
      simp only [Bool.and_eq_true] at c'
      obtain ⟨f1, f2, f3, f4, f5, f6, f7, f8, f9, f10, f11, f12, f13, f14, f15⟩ := fd
      have e' : (some (f1, f2, f3, f4, f5, f6, f7, f15) : DfW) = some (d.nm, d.ql, d.ar, .stmts d.bd, d.sc, mainGlobals, [], builtinsNs) := e
      simp only [Option.some.injEq, Prod.mk.injEq] at e'
      obtain ⟨h1, h2, h3, h4, h5, h6, h7, h8⟩ := e'
      subst h1 h2 h3 h4 h5 h6 h7 h8
      exact ⟨_, ⟨_, _, _, _, _, _, _, _, _, _, rfl, q, c'.1, He.dflB_ok c'.2.1, He.kwdB_ok c'.2.2⟩, kp⟩
    | _ => cases c
/-- what is looked at -/
abbrev SeenT : Type := Bool × Bool × List DfW
def see (fa : List (PySem.W.Frag → Bool)) (fn : List Df) (K : PySem.W.Frag) : SeenT := ⟨fa.all fun f => f K, fn.all fun d => d.fits K, fn.map fun d => seeF K (d.at_ K)⟩
def dueS (fn : List Df) : SeenT := ⟨true, true, fn.map Df.due⟩
/-- what the top has left: the facts fa, the defs fn -/
def Left (fa : List (PySem.W.Frag → Bool)) (fn : List Df) (K : PySem.W.Frag) : Prop := see fa fn K = dueS fn
def hookG (n : Nat) (fa : List (PySem.W.Frag → Bool)) (fn : List Df) : PySem.W.Hook where
  α := SeenT
  obs := fun s => see fa fn (topK s.heap.get? n)
  val := fun _ => dueS fn
  says := fun _ h => ∃ K : PySem.W.Frag, K.In h ∧ Left fa fn K
  of := fun _ _ e => ⟨_, He.frG_in, e⟩
  keeps := fun _ _ _ ⟨K, i, c⟩ k => ⟨K, i.keeps k, c⟩
def obG (n : Nat) (fa : List (PySem.W.Frag → Bool)) (fn : List Df) (s : PySem.W.SharedT) : SeenT := see fa fn (topK (HandSHeadRun.getT s) n)
theorem obG_eq {n : Nat} {fa : List (PySem.W.Frag → Bool)} {fn : List Df} (s : PySem.W.SharedT) : obG n fa fn s = (hookG n fa fn).obs s.abs := by
  have e : HandSHeadRun.getT s = s.abs.heap.get? := funext (HandSHeadRun.getT_eq s)
  unfold obG
  rw [e]
  rfl
section
variable {fa : List (PySem.W.Frag → Bool)} {fn : List Df} {K : PySem.W.Frag}
theorem Left.fact (c : Left fa fn K) (i : Nat) {f : PySem.W.Frag → Bool} (h : fa[i]? = some f := by rfl) : f K = true := by
  have c1 : (fa.all fun f => f K) = true := congrArg (fun z : SeenT => z.1) c
  exact List.all_eq_true.mp c1 f (List.mem_of_getElem? h)
theorem Left.def_ (c : Left fa fn K) (i : Nat) {d : Df} (h : fn[i]? = some d := by rfl) : ∃ fd, FunD K d.nm d.ql d.ar d.bd d.sc [] (d.kws K) (d.at_ K) fd := by
  have c2 : (fn.all fun d => d.fits K) = true := congrArg (fun z : SeenT => z.2.1) c
  have c3 : (fn.map fun d => seeF K (d.at_ K)) = fn.map Df.due := congrArg (fun z : SeenT => z.2.2) c
  have e : (fn.map fun d => seeF K (d.at_ K))[i]? = (fn.map Df.due)[i]? := by rw [c3]
  rw [List.getElem?_map, List.getElem?_map, h] at e
  exact Df.tell (Option.some.inj e) (List.all_eq_true.mp c2 d (List.mem_of_getElem? h))
end

/-! ### the facts -/
def eqV (a b : Option (Option Value)) : Bool := decide (a = b)
/-- the module's name x is an object (a def, a class) that is kept -/
def fGlo (x : Str) (K : PySem.W.Frag) : Bool := eqV (PySem.W.nsIn K mainGlobals x) (some (some (.ref (He.ga K x)))) && PySem.W.keepIn K (.ref (He.ga K x))
def fFree (x : Str) (K : PySem.W.Frag) : Bool := eqV (PySem.W.nsIn K mainGlobals x) (some none)
def allO (f : Value → Option D) : List Value → Option (List D)
  | [] => some []
  | v :: vs => match f v with
    | some d => (match allO f vs with
      | some ds => some (d :: ds)
      | none => none)
    | none => none
/-- the pure value of a module's name -/
def absD (K : PySem.W.Frag) : Nat → Value → Option D
  | 0, _ => none
  | n + 1, v => match v with
    | .none => some .non
    | .bool b => some (.bl b)
    | .int i _ => some (.int i)
    | .str x _ => some (.str x)
    | .ref a => (match K.lookup a with
      | some o => (match o.cls, o.data with
        | .type "tuple", .seq its _ => if its.size ≤ sizeLine then (allO (absD K n) its.toList).map .tup else none
        | _, _ => none)
      | none => none)
    | _ => none
mutual
def eqDD : D → D → Bool
  | .non, .non => true
  | .bl a, .bl b => a == b
  | .int a, .int b => a == b
  | .str a, .str b => a == b
  | .tup a, .tup b => eqDDs a b
  | _, _ => false
def eqDDs : List D → List D → Bool
  | [], [] => true
  | a :: as, b :: bs => eqDD a b && eqDDs as bs
  | _, _ => false
end
def fVal (x : Str) (d : D) (K : PySem.W.Frag) : Bool := match PySem.W.nsIn K mainGlobals x with
  | some (some u) => (match absD K 6 u with
    | some e => eqDD d e
    | none => false)
  | _ => false
def fOwn (x : Str) (K : PySem.W.Frag) : Bool :=
  PySem.W.plainGet K (He.ga K x) Str.empty && (PySem.W.hasDictIn K (He.ga K x) && (PySem.W.plainOver K (He.ga K x) && (eqV (PySem.W.findIn K (.ref (He.ga K x)) "__setattr__") (some (some (.builtin "object.__setattr__"))) &&
  (eqV (PySem.W.findIn K (.ref (He.ga K x)) "__class__") (some (some (.builtin "object.__class__"))) && (eqV (PySem.W.specialIn K (.builtin "object.__class__") "__get__") (some (some (.builtin "getset_descriptor.__get__"))) &&
  (decide (PySem.W.takesIn K (.builtin "object.__class__") = some true) && decide (PySem.W.mroIn K (He.ga K x) (.type "object") = some true)))))))
def fNoat (x f : Str) (K : PySem.W.Frag) : Bool := eqV (PySem.W.findIn K (.ref (He.ga K x)) f) (some none)
def fMeth (x m : Str) (K : PySem.W.Frag) : Bool := eqV (PySem.W.findIn K (.ref (He.ga K x)) m) (some (some (.ref (He.ma K (He.ga K x) m)))) && (PySem.W.isFn K (.ref (He.ma K (He.ga K x) m)) && PySem.W.keepIn K (.ref (He.ma K (He.ga K x) m)))
def fMake (x : Str) (K : PySem.W.Frag) : Bool := PySem.W.makesIn K (He.ga K x) && fMeth x "__init__" K
/-- isinstance(x of the class C, u) -/
def fKit (x : Str) (u : PySem.W.Frag → Value) (b : Bool) (K : PySem.W.Frag) : Bool := decide (PySem.W.kitOne K (.ref (He.ga K x)) (u K) = some b)
def fKitT (n : String) (x : Str) (K : PySem.W.Frag) : Bool := decide (PySem.W.kitOne K (.type n) (.ref (He.ga K x)) = some false)
def fNotFirst (x : Str) (u : PySem.W.Frag → Value) (K : PySem.W.Frag) : Bool := PySem.W.notFirst K (He.ga K x) (u K)
def fFirst (x : Str) (K : PySem.W.Frag) : Bool := PySem.W.selfFirst K (He.ga K x)
def fNe (x : Str) (K : PySem.W.Frag) : Bool := eqV (PySem.W.findIn K (.ref (He.ga K x)) "__ne__") (some (some (.builtin "object.__ne__")))
/-- a property: its getter -/
def getr (K : PySem.W.Frag) (x f : Str) : Addr := match PySem.W.recIn K (He.ma K (He.ga K x) f) "property" with
  | some (.ref g :: _) => g
  | _ => 0
def fProp (x f : Str) (K : PySem.W.Frag) : Bool :=
  eqV (PySem.W.findIn K (.ref (He.ga K x)) f) (some (some (.ref (He.ma K (He.ga K x) f)))) && (eqV (PySem.W.specialIn K (.ref (He.ma K (He.ga K x) f)) "__get__") (some (some (.builtin "property.__get__"))) &&
  (decide (PySem.W.takesIn K (.ref (He.ma K (He.ga K x) f)) = some true) && (match PySem.W.recIn K (He.ma K (He.ga K x) f) "property" with
    | some (.ref _ :: _) => true
    | _ => false)))
section
variable {K : PySem.W.Frag} {h : Heap} {mg : Str → Option Value}
theorem eqV_ok {a b : Option (Option Value)} (e : eqV a b = true) : a = b := of_decide_eq_true e
theorem glo_ok (X : K.In h) (G : h.Ns mainGlobals mg) {x : Str} (c : fGlo x K = true) : mg x = some (.ref (He.ga K x)) ∧ PySem.W.keepIn K (.ref (He.ga K x)) = true := by
  unfold fGlo at c
  rw [Bool.and_eq_true] at c
  exact ⟨PySem.W.mg_of X G (eqV_ok c.1), c.2⟩
theorem free_ok (X : K.In h) (G : h.Ns mainGlobals mg) {x : Str} (c : fFree x K = true) : mg x = none := PySem.W.mg_none_of X G (eqV_ok c)
mutual
theorem eqDD_ok : ∀ {a b : D}, eqDD a b = true → a = b
  | .non, .non, _ => rfl
  | .bl a, .bl b, e => by simp [eqDD] at e; rw [e]
  | .int a, .int b, e => by simp [eqDD] at e; rw [e]
  | .str a, .str b, e => by simp [eqDD] at e; rw [e]
  | .tup a, .tup b, e => by simp only [eqDD] at e; rw [eqDDs_ok e]
theorem eqDDs_ok : ∀ {a b : List D}, eqDDs a b = true → a = b
  | [], [], _ => rfl
  | a :: as, b :: bs, e => by simp only [eqDDs, Bool.and_eq_true] at e; rw [eqDD_ok e.1, eqDDs_ok e.2]
end
theorem absD_ok : ∀ (n : Nat) (v : Value) (d : D), absD K n v = some d → KD K d v
  | 0, v, d, e => by simp [absD] at e
  | n + 1, v, d, e => by
    cases v with
    | none => simp [absD] at e; subst e; exact ⟨.non, rfl, fun _ _ => .non⟩
    | bool b => simp [absD] at e; subst e; exact ⟨.bl b, rfl, fun _ _ => .bl b⟩
    | int i t => simp [absD] at e; subst e; exact ⟨.int i, ⟨t, rfl⟩, fun _ _ => .int i⟩
    | str i t => simp [absD] at e; subst e; exact ⟨.str i, ⟨t, rfl⟩, fun _ _ => .str i⟩
    | ref a =>
      simp only [absD] at e
      split at e
      · rename_i o ho
        split at e
        · rename_i its m hc hd
          split at e
          · rename_i hz
            simp only [Option.map_eq_some_iff] at e
            obtain ⟨ds, e1, rfl⟩ := e
            have key : ∀ (vs : List Value) (ds : List D), allO (absD K n) vs = some ds → ∃ us, Vals us vs ∧ ∀ η H, VRs K η H ds us := by
              intro vs
              induction vs with
              | nil => intro ds e; simp [allO] at e; subst e; exact ⟨[], .nil, fun _ _ => .nil⟩
              | cons v vs ih =>
                intro ds e
                simp only [allO] at e
                split at e
                · rename_i d1 h1
                  split at e
                  · rename_i ds1 h2
                    cases e
                    obtain ⟨u, r, q⟩ := absD_ok n v d1 h1
                    obtain ⟨us, r2, q2⟩ := ih ds1 h2
                    exact ⟨u :: us, .cons r r2, fun η H => .cons (q η H) (q2 η H)⟩
                  · cases e
                · cases e
            obtain ⟨us, r, q⟩ := key _ _ e1
            exact ⟨.ref a, rfl, fun η H => .tup (.inr ⟨o, its, m, ho, hc, hd, hz, r⟩) (q η H)⟩
          · cases e
        · cases e
      · cases e
    | _ => simp [absD] at e
theorem val_ok (X : K.In h) (G : h.Ns mainGlobals mg) {x : Str} {d : D} (c : fVal x d K = true) : ∃ u, mg x = some u ∧ KD K d u := by
  unfold fVal at c
  split at c
  · rename_i u hu
    split at c
    · rename_i e he
      exact ⟨u, PySem.W.mg_of X G hu, by rw [eqDD_ok c]; exact absD_ok 6 u e he⟩
    · cases c
  · cases c
theorem own_ok {x : Str} (c : fOwn x K = true) : OwnC K (He.ga K x) := by
  simp only [fOwn, Bool.and_eq_true] at c
  obtain ⟨h1, h2, h3, h4, h5, h6, h7, h8⟩ := c
  exact ⟨⟨h1, h2, h3, eqV_ok h4⟩, eqV_ok h5, eqV_ok h6, of_decide_eq_true h7, of_decide_eq_true h8⟩
theorem noat_ok {x f : Str} (c : fNoat x f K = true) : NoAttr K (He.ga K x) f := eqV_ok c
theorem meth_ok {x m : Str} (c : fMeth x m K = true) : Meth K (He.ga K x) m (He.ma K (He.ga K x) m) := by
  simp only [fMeth, Bool.and_eq_true] at c
  exact ⟨eqV_ok c.1, c.2.1, c.2.2⟩
theorem make_ok {x : Str} (c : fMake x K = true) (g : fGlo x K = true) : Mk K (He.ga K x) (He.ma K (He.ga K x) "__init__") := by
  simp only [fMake, Bool.and_eq_true] at c
  unfold fGlo at g
  rw [Bool.and_eq_true] at g
  obtain ⟨h1, h2⟩ := c
  have m := meth_ok h2
  exact ⟨h1, m.at_, m.fn, g.2⟩
theorem kit_ok {x : Str} {u : PySem.W.Frag → Value} {b : Bool} (c : fKit x u b K = true) : PySem.W.kitOne K (.ref (He.ga K x)) (u K) = some b := of_decide_eq_true c
theorem kitT_ok {x : Str} {n : String} (c : fKitT n x K = true) : PySem.W.kitOne K (.type n) (.ref (He.ga K x)) = some false := of_decide_eq_true c
theorem prop_ok {x f : Str} (c : fProp x f K = true) : PropOf K (He.ga K x) f (He.ma K (He.ga K x) f) (getr K x f) := by
  simp only [fProp, Bool.and_eq_true] at c
  obtain ⟨h1, h2, h3, h4⟩ := c
  refine ⟨eqV_ok h1, eqV_ok h2, of_decide_eq_true h3, ?_⟩
  unfold getr
  split at h4
  · rename_i g r e
    rw [e]
    exact ⟨r, rfl⟩
  · cases h4
end
end Gh

/-! Gu: more lifts: texts, classes, comprehensions to a name, is, join, repr. -/
namespace Gh
open PySem PySem.Spec PyProof.Rows L2
variable [TabsC]

section
variable {X : Cx} {B : Bs} {pos p : Pos} {a b e tg it : Expr} {ta tb te : GE}
theorem ge_strL {x y : Str} {j : Nat} (h : x = y) : GPE X B (.Constant (.str x) j pos) (gC (.str y)) := h ▸ ge_str
theorem ge_cls {x : Str} {C : Addr} (hm : X.mg x = some (.ref C)) (hg : Gl X x := by rfl) (hd : (x == ("__debug__" : Str)) = false := by decide) : GPE X B (.Name x pos) (gC (.ref C)) := ge_glob hm ⟨.ref C, rfl, fun _ _ => .ref C⟩ hg hd
theorem gs_doc {x : Str} {j : Nat} {pos' : Pos} : GPS X B (.Expr (.Constant (.str x) j pos) pos') gsNx := PS.weak ps_doc fun D τ H ⟨η, S, σ, G, sr, gr, q, k⟩ => k.nx σ S η H τ q .refl sr gr
theorem gs_setLc (i : Nat) {y : Str} {py spos : Pos} {elt : Expr} {ifs : List Expr} {scope : Scope} (own : List (Str × Nat)) {gi : GI} {pt : Pat} {c : GT} {u : GE} (hN : X.N.Nodup) (hi : GPI X B tg e gi) (ok : BlkOk X.N X.env.scope scope own)
    (hg : ∀ (s : Shared) (H : Hp) (C : Addr) (cl : List (Str × Addr)) (fp : List Addr), PG (X.blk s H scope (compEnvC scope cl C X.env) fp) tg (patV X.K pt)) (ht : ∀ (s : Shared) (H : Hp) (C : Addr) (cl : List (Str × Addr)) (fp : List Addr), GPTs (X.blk s H scope (compEnvC scope cl C X.env) fp) B ifs c)
    (hu : ∀ (s : Shared) (H : Hp) (C : Addr) (cl : List (Str × Addr)) (fp : List Addr), GPE (X.blk s H scope (compEnvC scope cl C X.env) fp) B elt u) (hy : X.N[i]? = some y := by rfl) (hyl : X.env.scope.names.lookup y = some .local := by rfl)
    (hsw : swapsWith (.ListComp elt [⟨tg, e, ifs, 0⟩] scope pos) (some (.Name y py)) spos.line X.env = pure true := by exact sw_true rfl rfl rfl (by decide +kernel)) (hp : patIn (own.map (·.2)) pt = true := by rfl) (hc : X.calm = true := by rfl) (hs : ∀ x, foldedSetIterable e X.env x = pure x := by intro _; rfl) :
    GPS X B (.Assign [.Name y py] (.ListComp elt [⟨tg, e, ifs, 0⟩] scope pos) spos) (gsAsg (gLc gi pt c u (own.map (·.2))) (ggP (.nm i))) :=
  PS.weak (ps_setLc (tt := LT X.K B c) (te := LE X.K B u) hc hN hy hyl hsw hi ok hg ht hu hs) fun D' τ H ⟨η, S, σ, G, sr, gr, q, k⟩ => by
    exact lc_weak hp τ H _ ⟨η, S, σ, _, sr, gr, q, fun d S1 η1 H1 v q1 g1 gr1 r1 => k.nx _ S1 η1 H1 _ q1 g1 ((sr.grow g1).set i r1) gr1⟩
theorem lo_is : OpR X (compareOp .Is) (LO2 X.K oIs) := by
  intro pins s σ H x y v u Q I rx ry ⟨η, S, d, e, R, gr, r1, r2, q, k⟩
  cases r2 with
  | non =>
    refine op_isN pins s σ H _ _ v u Q I rx ry ⟨rfl, ?_⟩
    have hb : ∀ b, R (.bl b) S → (decide (x = .non)) = b → Q (.bl (decide (x = .non))) H := fun b q e => by rw [e]; exact k _ S η H _ q .refl gr (.bl _)
    cases r1 <;> first | exact hb true q rfl | exact hb false q rfl
  | bl c => cases r1 with
    | bl b =>
      refine op_isBl pins s σ H _ _ v u Q I rx ry ⟨b, c, rfl, rfl, ?_⟩
      have e : decide (b = c) = (b == c) := by cases b <;> cases c <;> rfl
      rw [e]
      exact k _ S η H _ q .refl gr (.bl _)
    | _ => exact q.elim
  | _ => cases r1 <;> exact q.elim
theorem pi_add : PIp X .Add (LO2 X.K oAddI) := by
  intro pins s σ H x y v u Q I rx ry ⟨η, S, d, e, R, gr, r1, r2, q, k⟩
  cases r1 with
  | int i => cases r2 with
    | int j => exact ip_add pins s σ H _ _ v u Q I rx ry ⟨i, j, rfl, rfl, k _ S η H _ q .refl gr (.int _)⟩
    | _ => exact q.elim
  | _ => exact q.elim
theorem strs_of {K : PySem.W.Frag} {η : List Addr} {H : Hp} : ∀ {ys : List Str} {vs : List V}, VRs K η H (ys.map .str) vs → vs = ys.map V.str
  | [], _, .nil => rfl
  | y :: ys, _, .cons (.str _) r => by rw [strs_of r]; rfl
theorem items_ok {K : PySem.W.Frag} {η : List Addr} {S : SS} {H : Hp} {d : D} {v : V} {ds : List D} (gr : GR K η S H) (r : VR K η H d v) (h : itemsD S d = some ds) : ∃ a vs, v = .ref a ∧ (SqL K H a vs ∨ SqT K H a vs) ∧ VRs K η H ds vs := by
  cases r with
  | tup h1 h2 => cases h; exact ⟨_, _, rfl, .inr h1, h2⟩
  | rol h1 h2 => cases h; exact ⟨_, _, rfl, .inl h1.1, h2⟩
  | obj e1 =>
    simp only [itemsD] at h
    split at h
    · rename_i ds' hk
      cases h
      obtain ⟨vs, hv, hr⟩ := gr.obj e1 hk
      exact ⟨_, vs, rfl, .inl (.of hv), hr⟩
    · cases h
  | _ => cases h
theorem ge_join {apos : Pos} (ho : GPE X B a ta) (he : GPE X B e te) (hs : starEach [e] X.env = [(false, eval e X.env)] := by rfl) (hbase : attributeBase a "join" X.env (eval a X.env) = eval a X.env := by rfl) (hline : (apos.endLine == pos.line) = true := by rfl) :
    GPE X B (.Call (.Attribute a "join" apos) [e] [] pos) (gJoin ta te) :=
  PE.weak (pe_join ho he hs hbase hline) fun τ H Q ⟨η, S, σ, R, sr, gr, q, k⟩ =>
    ⟨η, S, σ, _, sr, gr, q, fun d S1 η1 H1 v q1 g1 gr1 r1 => by
      obtain ⟨⟨z, rfl⟩, q1⟩ := q1
      cases r1
      refine ⟨⟨z, rfl⟩, η1, S1, σ, _, sr.grow g1, gr1, q1, fun y S2 η2 H2 w q2 g2 gr2 r2 => ?_⟩
      obtain ⟨ys, h1, h2, q2⟩ := q2
      obtain ⟨p, vs, rfl, hp, hr⟩ := items_ok gr2 r2 h1
      have e := strs_of hr
      subst e
      exact ⟨z, p, ys, rfl, rfl, hp, h2, by rw [TL.join_eq]; exact k _ S2 η2 H2 _ q2 (g1.trans g2) gr2 (.str _)⟩⟩
theorem lc_repr1 : CallR X (.builtin "repr") (LC X.K cRepr1) := by
  intro pins s σ H xs us Q I rx ⟨η, S, ds, R, gr, r, q, k⟩
  obtain ⟨d, v, rfl, rfl, r1, q⟩ := one_of q r
  obtain ⟨u, rfl, hu⟩ := Vals.one rx
  cases r1 with
  | bl b =>
    cases (show u = Value.bool b from hu)
    refine PySem.P.repr_of_bool ⟨.str _, H, I.tok _, ⟨_, rfl⟩, ?_⟩
    cases b
    · exact k _ S η H _ q .refl gr (.str _)
    · exact k _ S η H _ q .refl gr (.str _)
  | int i => exact SkE.call_repr_int pins s σ H _ _ Q I rx ⟨i, rfl, q.1, k _ S η H _ q.2 .refl gr (.str _)⟩
  | non =>
    cases (show u = Value.none from hu)
    exact PySem.P.repr_of_none ⟨.str _, H, I.tok _, ⟨_, rfl⟩, k _ S η H _ q .refl gr (.str _)⟩
  | _ => exact q.elim
theorem lc_repr (hg : X.A.guards = some []) (hu : X.A.units + 64 < cLine) : CallR X (.builtin "repr") (LC X.K cRepr) := by
  intro pins s σ H xs us Q I rx ⟨η, S, ds, R, gr, r, q, k⟩
  obtain ⟨d, v, rfl, rfl, r1, q⟩ := one_of q r
  obtain ⟨u, rfl, hu1⟩ := Vals.one rx
  obtain ⟨p, hp, hs, hd, hdep, hlen, q⟩ := q
  have fin : ∀ s' : Shared, Inv X pins σ H s' → ∀ t, EP X pins σ Q (.str p.shown t) s' := fun s' J t => ⟨.str p.shown, H, J, ⟨_, rfl⟩, k _ S η H _ q .refl gr (.str _)⟩
  have dp := dp_ok gr 8 d p v hp r1
  obtain ⟨as, rd⟩ := Dp.reads I p v u dp hu1
  cases rd with
  | none => exact PySem.P.repr_of_none (fin _ (I.tok _) _)
  | bool b =>
    have e : PyData.shown (.bool b) = (if b then "True" else "False" : Str) := by cases b <;> rfl
    rw [e] at fin
    exact PySem.P.repr_of_bool (fin _ (I.tok _) _)
  | int i t => exact PySem.P.repr_of_int (of_decide_eq_true hs) (fin _ (I.tok _) _)
  | str x t => exact PySem.P.repr_of_str (fin _ (I.tok _) _) (by have z : (reprText x).length ≤ 16777216 := hlen; rw [sizeLine_eq]; exact z)
  | list a1 a2 a3 a4 => exact repr_of_reads' (Reads.list a1 a2 a3 a4) hs (fun e => by rw [hd] at e; cases e) hg (by omega) (fun _ _ e => e) (fun h' u tk kk => fin _ (I.kept kk) _) (by rw [sizeLine_eq]; exact hlen)
  | tuple a1 a2 a3 a4 => exact repr_of_reads' (Reads.tuple a1 a2 a3 a4) hs (fun e => by rw [hd] at e; cases e) hg (by omega) (fun _ _ e => e) (fun h' u tk kk => fin _ (I.kept kk) _) (by rw [sizeLine_eq]; exact hlen)
  | dict a1 a2 a3 a4 a5 => cases hd
theorem isiO_ok {K : PySem.W.Frag} {isC : Addr → Addr → Option Bool} {T : Addr} (h1 : ∀ n ∈ (["NoneType", "int", "bool", "tuple", "str", "list", "dict"] : List String), PySem.W.kitOne K (.type n) (.ref T) = some false)
    (h2 : ∀ C b, isC C T = some b → OwnC K C ∧ PySem.W.kitOne K (.ref C) (.ref T) = some b) : IsiT K (.ref T) (isiO isC T) := by
  refine ⟨fun n b h => ?_, fun C b h => h2 C b h⟩
  simp only [isiO] at h
  split at h
  · rename_i hn
    cases h
    exact h1 n hn
  · cases h
end
end Gh

/-! Gv: the end of a law's walk: the script's list in, True out. -/
namespace Gh
open PySem PySem.Spec PyProof.Rows L2
variable [TabsC]
theorem vrs_ints {K : PySem.W.Frag} {η : List Addr} {H : Hp} : ∀ ns : List Int, VRs K η H (ns.map D.int) (ns.map V.int)
  | [] => .nil
  | n :: ns => .cons (.int n) (vrs_ints ns)
theorem rol_of {K : PySem.W.Frag} {H : Hp} {a : Addr} {xs : List V} (o : Only H) (s : SqL K H a xs) : RoL K H a xs := by
  refine ⟨s, fun H' f => ?_⟩
  rcases s with (s | ⟨ob, s⟩) | s
  · rcases o a with z | ⟨ob, ys, z⟩
    · rw [s] at z; cases z
    · rw [s] at z; cases z
  · exact .inl (.inr ⟨ob, f _ _ _ s⟩)
  · exact .inr s
/-- the law's promise over ghosts gives the law's end -/
theorem law_end {law : PySem.W.OpenLaw} {most lvl : Nat} {view : Program} {lo : List Str} {XA : (Str → Option Value) → Heap → Prop} {YA : World → Heap → Prop} {rec_ : DefRec} {par : Str} (tz : ∀ K, TabsC.tt K = []) (em : law.most = some most) (le : most ≤ sizeLine) (nod : rec_.params.defaults = []) (room : Rm lvl callerA)
    (W : ∀ (wo : World) (names : Str → Option Value) (fl : Addr) (hp : Heap), YA wo hp → hp.Ns mainGlobals names → names rec_.name = some (.ref fl) → ∃ (K : PySem.W.Frag) (fd : FuncData) (sp : GSp), K.In hp ∧
      (∀ (st : Shared) (u : Value), BindsTo st fd ⟨[u], []⟩ [(par, u)]) ∧ (∀ ns : List Int, ns.length ≤ most → sp [.rol (ns.map .int)] [] (fun d _ => d = .bl true) fun _ _ _ => False) ∧
      ∀ base : Heap, K.In base → base.Ns mainGlobals names → GOk law.prog wo K names base lvl fl fd [par] (LSp K sp)) :
    PySem.W.WalkO view lo XA YA law.row.toRowW rec_ [] (fun f vs => PySem.call f vs) := by
  refine Att.attach_call em nod fun wo st0 st names mb fl ob pm cd dc scr us ns TT YY ho hd hcd hmg hobj hin hlen hgen => ?_
  obtain ⟨K, fd, sp, kin, bnd, good, ok⟩ := W wo names fl _ YY TT.T.g hmg
  refine law_run kin TT.T.g TT.T.b TT.T.builtins TT.T.nolimit hgen hobj hin (Nat.le_trans hlen le) room ok bnd fun H o s => ?_
  refine ⟨[], [], [.rol (ns.map .int)], _, _, ⟨rfl, List.nodup_nil, fun k a u e => by simp at e, fun p hp => by rw [tz] at hp; exact nomatch hp⟩, .cons (.rol (rol_of o s) (vrs_ints ns)) .nil, good ns hlen, fun d S' η' H' v q _ _ r => ?_, fun _ _ _ _ _ _ z => z.elim⟩
  subst q
  cases r
  rfl
end Gh

/-! Gw: plain lemmas about the ghost readings. -/
namespace Gh
open PySem
theorem oEq_int {i j : Int} {S : SS} {Q : GQ} : oEq (.int i) (.int j) S Q = Q (.bl (decide (i = j))) S := by
  apply propext
  have e : (i == j) = decide (i = j) := by by_cases h : i = j <;> simp [h]
  constructor
  · rintro (⟨p, p', h1, h2, _, _, q⟩ | ⟨a, b, h, _⟩)
    · cases h1; cases h2
      rw [← e]; exact q
    · cases h
  · intro q
    exact .inl ⟨.int i, .int j, rfl, rfl, rfl, rfl, by rw [← e] at q; exact q⟩
theorem oNe_int {i j : Int} {S : SS} {Q : GQ} : oNe (.int i) (.int j) S Q = Q (.bl (!decide (i = j))) S := by
  apply propext
  have e : (i == j) = decide (i = j) := by by_cases h : i = j <;> simp [h]
  constructor
  · rintro (⟨p, p', h1, h2, _, _, q⟩ | ⟨a, b, h, _⟩)
    · cases h1; cases h2
      rw [← e]; exact q
    · cases h
  · intro q
    exact .inl ⟨.int i, .int j, rfl, rfl, rfl, rfl, by rw [← e] at q; exact q⟩
theorem strOk_lt {x : Str} (h : ∀ a ∈ x.cps.toList, a < 0x110000) : PyData.strOk x = true := by
  unfold PyData.strOk
  rw [← Array.all_toList]
  exact List.all_eq_true.mpr fun a ha => decide_eq_true (h a ha)
theorem shaped_str {x : Str} (h : PyData.strOk x = true) : SeqAt.shaped (.str x) = true := by
  have e : SeqAt.shaped (.str x) = (PyData.strOk x && true) := rfl
  rw [e, h]; rfl
theorem oEq_strs {x y : Str} {S : SS} {Q : GQ} : oEq (.str x) (.str y) S Q = Q (.bl (x == y)) S := by
  apply propext
  constructor
  · rintro (⟨p, p', h1, h2, _, _, q⟩ | ⟨a, b, h1, h2, q⟩)
    · cases h1; cases h2
      exact q
    · cases h1; cases h2; exact q
  · intro q
    exact .inr ⟨x, y, rfl, rfl, q⟩
theorem oNe_strs {x y : Str} {S : SS} {Q : GQ} : oNe (.str x) (.str y) S Q = Q (.bl (!(x == y))) S := by
  apply propext
  constructor
  · rintro (⟨p, p', h1, h2, _, _, q⟩ | ⟨a, b, h1, h2, q⟩)
    · cases h1; cases h2
      exact q
    · cases h1; cases h2; exact q
  · intro q
    exact .inr ⟨x, y, rfl, rfl, q⟩
theorem oEq_str {x y : Str} {S : SS} {Q : GQ} (hx : PyData.strOk x = true) (hy : PyData.strOk y = true) : oEq (.str x) (.str y) S Q = Q (.bl (x == y)) S := oEq_strs
/-- two things that are the same data -/
theorem oEq_same {x y : D} {p : PyData} {S : SS} {Q : GQ} (h1 : toP S 8 x = some p) (h2 : toP S 8 y = some p) (hs : SeqAt.shaped p = true) (q : Q (.bl true) S) : oEq x y S Q :=
  .inl ⟨p, p, h1, h2, hs, hs, by rw [SeqAt.eqv_refl p (SeqAt.canLay_of_shaped hs)]; exact q⟩
theorem oNe_same {x y : D} {p : PyData} {S : SS} {Q : GQ} (h1 : toP S 8 x = some p) (h2 : toP S 8 y = some p) (hs : SeqAt.shaped p = true) (q : Q (.bl false) S) : oNe x y S Q :=
  .inl ⟨p, p, h1, h2, hs, hs, by rw [SeqAt.eqv_refl p (SeqAt.canLay_of_shaped hs)]; exact q⟩
/-- a loop, by what is true at each of its turns -/
theorem forL_inv {ok : SS → Prop} {g : GG} {t : GS} {ds : List D} {E : GEnds} {σ : Sl} {S : SS} (I : Nat → Sl → SS → Prop) (h0 : I 0 σ S)
    (hs : ∀ i d σ S (N : Sl → SS → Prop), ds[i]? = some d → I i σ S → (∀ σ' S', I (i + 1) σ' S' → N σ' S') → ok S ∧ g d σ S fun σ1 S1 => t { E with nx := N, ct := N, bk := E.nx } σ1 S1)
    (he : ∀ σ S, I ds.length σ S → ok S ∧ E.nx σ S) : forL ok g t ds E σ S := by
  have key : ∀ (r pre : List D) (σ : Sl) (S : SS), ds = pre ++ r → I pre.length σ S → forL ok g t r E σ S := by
    intro r
    induction r with
    | nil =>
      intro pre σ S e hI
      rw [List.append_nil] at e
      subst e
      exact he σ S hI
    | cons d r ih =>
      intro pre σ S e hI
      refine hs pre.length d σ S _ (by rw [e]; simp) hI fun σ' S' hI' => ih (pre ++ [d]) σ' S' (by rw [e]; simp) (by simpa using hI')
  exact key ds [] σ S rfl h0
/-- a comprehension of values that are computed without a change of the store -/
theorem lcL_pure {ok : SS → Prop} {p : Pat} {e : GE} {vs : List Nat} {σ : Sl} {Q : GQ} {S : SS} (f : D → D) (hok : ∀ L, ok (S ++ L)) :
    ∀ (ds acc : List D), acc.length + ds.length ≤ 16777216 → (∀ d ∈ ds, ∃ σ1, runP p d (wipeG σ vs) = some σ1 ∧ ∀ (S' : SS) (R : GQ), R (f d) S' → e σ1 S' R) →
      Q (.obj S.length) (S ++ [.lst (acc ++ ds.map f)]) → lcL ok S.length p gtYes e vs σ Q ds acc (S ++ [.lst acc])
  | [], acc, _, _, q => ⟨hok _, by simp, by simpa using q⟩
  | d :: ds, acc, hl, h, q => by
    refine ⟨hok _, by simp, by simp at hl; omega, ?_⟩
    obtain ⟨σ1, e1, h1⟩ := h d List.mem_cons_self
    rw [e1]
    show e σ1 (S ++ [.lst acc]) _
    refine h1 _ _ ⟨by simp, ?_⟩
    have e2 : (S ++ [GO.lst acc]).set S.length (.lst (acc ++ [f d])) = S ++ [.lst (acc ++ [f d])] := by
      rw [List.set_append_right _ _ (Nat.le_refl _)]; simp
    rw [e2]
    exact lcL_pure f hok ds (acc ++ [f d]) (by simp at hl ⊢; omega) (fun d' hd' => h d' (List.mem_cons_of_mem _ hd')) (by simpa using q)
/-- the store grows: lookups -/
theorem st_old {S L : SS} {k : Nat} {o : GO} (h : S[k]? = some o) : (S ++ L)[k]? = some o := by
  rw [List.getElem?_append_left (List.getElem?_eq_some_iff.mp h).1]; exact h
theorem st_new {S L : SS} {i : Nat} : (S ++ L)[S.length + i]? = L[i]? := by
  rw [List.getElem?_append_right (Nat.le_add_right _ _), Nat.add_sub_cancel_left]
theorem st_new0 {S L : SS} : (S ++ L)[S.length]? = L[0]? := st_new (i := 0)
theorem st_lt {S : SS} {k : Nat} {o : GO} (h : S[k]? = some o) : k < S.length := (List.getElem?_eq_some_iff.mp h).1
theorem st_set_new {S L : SS} {i : Nat} {o : GO} : (S ++ L).set (S.length + i) o = S ++ L.set i o := by
  rw [List.set_append_right _ _ (Nat.le_add_right _ _), Nat.add_sub_cancel_left]
theorem st_set_old {S L : SS} {k : Nat} {o : GO} (h : k < S.length) : (S ++ L).set k o = S.set k o ++ L := List.set_append_left _ _ h
theorem low_lt {n k : Nat} (h : k < n) : dLow n (.obj k) = true := by simpa [dLow] using h
theorem ofStr_ok (s : String) : PyData.strOk (Str.ofString s) = true := by
  refine strOk_lt fun a ha => ?_
  rw [Str.ofString_eq_toList] at ha
  have ha : a ∈ s.toList.map Char.toNat := by simpa using ha
  simp only [List.mem_map] at ha
  obtain ⟨c, _, rfl⟩ := ha
  have h := c.valid
  have e : c.toNat = c.val.toNat := rfl
  rw [e]
  rcases h with h | h
  · have : c.val.toNat < 0xd800 := h
    omega
  · exact h.2
theorem strOk_app {x y : Str} (hx : PyData.strOk x = true) (hy : PyData.strOk y = true) : PyData.strOk (x ++ y) = true := by
  unfold PyData.strOk at hx hy ⊢
  show (x.cps ++ y.cps).all _ = true
  rw [Array.all_append, hx, hy]; rfl
theorem strOk_join {x : Str} (hx : PyData.strOk x = true) : ∀ {ys : List Str}, (∀ y ∈ ys, PyData.strOk y = true) → PyData.strOk (Str.join x ys) = true
  | [], _ => by simp [Str.join, Str.empty, PyData.strOk]
  | [y], h => h y List.mem_cons_self
  | y :: z :: r, h => strOk_app (strOk_app (h y List.mem_cons_self) hx) (strOk_join hx fun w hw => h w (List.mem_cons_of_mem _ hw))
theorem stS_new {S L : SS} {k i : Nat} {o : GO} : (S.set k o ++ L)[S.length + i]? = L[i]? := by
  have e : S.length = (S.set k o).length := by simp
  rw [e]; exact st_new
theorem stS_new0 {S L : SS} {k : Nat} {o : GO} : (S.set k o ++ L)[S.length]? = L[0]? := stS_new (i := 0)
theorem stS_k {S L : SS} {k : Nat} {o : GO} (h : k < S.length) : (S.set k o ++ L)[k]? = some o := by
  rw [List.getElem?_append_left (by simpa using h)]; exact List.getElem?_set_self h
theorem stS_kk {S : SS} {k : Nat} {o : GO} (h : k < S.length) : (S.set k o)[k]? = some o := List.getElem?_set_self h
theorem stS_set {S L : SS} {k : Nat} {o o' : GO} (h : k < S.length) : (S.set k o ++ L).set k o' = S.set k o' ++ L := by
  rw [List.set_append_left _ _ (by simpa using h), List.set_set]
theorem set_same {S : SS} {k : Nat} {o : GO} (h : S[k]? = some o) : S.set k o = S := by
  apply List.ext_getElem?
  intro i
  by_cases e : k = i
  · subst e; rw [List.getElem?_set_self (st_lt h), h]
  · rw [List.getElem?_set_ne e]
theorem cut_set2 {S T L L' : SS} {Q : GQ} {d : D} {k : Nat} {o : GO} (e : T = S.set k o ++ L) (ho : oLow S.length o = true) (hd : dLow S.length d = true) (h : Q d (S.set k o)) : gCut S Q d (T ++ L') := by
  rw [e, List.append_assoc]
  exact cut_set ho hd h
/-! data -/
theorem lay_all {ps : List PyData} (h : ∀ p ∈ ps, PyData.canLay0 p = true) : PyData.canLayAll0 ps = true := by
  induction ps with
  | nil => rfl
  | cons p ps ih =>
    have e : PyData.canLayAll0 (p :: ps) = (PyData.canLay0 p && PyData.canLayAll0 ps) := rfl
    rw [e, h p List.mem_cons_self, ih fun q hq => h q (List.mem_cons_of_mem _ hq)]; rfl
theorem depth_all {ps : List PyData} {n : Nat} (h : ∀ p ∈ ps, PyData.depth p ≤ n) : PyData.depthAll ps ≤ n := by
  induction ps with
  | nil => exact Nat.zero_le _
  | cons p ps ih =>
    have e : PyData.depthAll (p :: ps) = max (PyData.depth p) (PyData.depthAll ps) := rfl
    rw [e]
    exact Nat.max_le.mpr ⟨h p List.mem_cons_self, ih fun q hq => h q (List.mem_cons_of_mem _ hq)⟩
theorem shaped_list {ps : List PyData} (h : ∀ p ∈ ps, PyData.canLay0 p = true ∧ PyData.depth p ≤ 60) : SeqAt.shaped (.list ps) = true := by
  have e : SeqAt.shaped (.list ps) = (PyData.canLayAll0 ps && decide (PyData.depthAll ps + 1 ≤ 64)) := rfl
  rw [e, lay_all fun p hp => (h p hp).1]
  have := depth_all fun p hp => (h p hp).2
  simp; omega
theorem shaped_tup {ps : List PyData} (h : ∀ p ∈ ps, PyData.canLay0 p = true ∧ PyData.depth p ≤ 60) : SeqAt.shaped (.tuple ps) = true := shaped_list (ps := ps) h
theorem seqP_map {α : Type} {F : D → Option PyData} {f : α → D} {g : α → PyData} (h : ∀ a, F (f a) = some (g a)) : ∀ as : List α, seqP F (as.map f) = some (as.map g)
  | [] => rfl
  | a :: as => by
    show seqP F (f a :: as.map f) = _
    unfold seqP
    rw [h a, seqP_map h as]
    rfl
theorem oNe_rolNil {ns : List Int} {k : Nat} {S : SS} {Q : GQ} (h : S[k]? = some (.lst [])) (q : Q (.bl (!ns.isEmpty)) S) : oNe (.rol (ns.map .int)) (.obj k) S Q := by
  refine .inl ⟨.list (ns.map .int), .list [], ?_, ?_, shaped_list ?_, rfl, ?_⟩
  · show ((seqP (toP S 7) (ns.map .int)).map PyData.list) = _
    rw [seqP_map (g := PyData.int) (fun a => rfl)]; rfl
  · show (match S[k]? with
      | some (.lst ds) => (seqP (toP S 7) ds).map PyData.list
      | _ => none) = _
    rw [h]; rfl
  · intro p hp
    obtain ⟨i, _, rfl⟩ := List.mem_map.mp hp
    exact ⟨rfl, Nat.zero_le _⟩
  · have e : (!PyData.eqv (.list (ns.map .int)) (.list [])) = !ns.isEmpty := by cases ns <;> rfl
    rw [e]; exact q
theorem ite_p {p : Prop} [Decidable p] {a b : Prop} (h : p) (ha : a) : if p then a else b := by rw [if_pos h]; exact ha
theorem two_cases {v : Int} (h0 : 0 ≤ v) (h1 : v < 2) : v = 0 ∨ v = 1 := by omega
theorem four_cases {v : Int} (h0 : 0 ≤ v) (h1 : v < 4) : v = 0 ∨ v = 1 ∨ v = 2 ∨ v = 3 := by omega
theorem toP_lst {S : SS} {k n : Nat} {ds : List D} (h : S[k]? = some (.lst ds)) : toP S (n + 1) (.obj k) = (seqP (toP S n) ds).map .list := by
  simp only [toP, h]
theorem seqP_cons {F : D → Option PyData} {d : D} {ds : List D} {p : PyData} {ps : List PyData} (h : F d = some p) (t : seqP F ds = some ps) : seqP F (d :: ds) = some (p :: ps) := by
  simp only [seqP, h, t]
theorem st_set_new0 {S L : SS} {o : GO} : (S ++ L).set S.length o = S ++ L.set 0 o := st_set_new (i := 0)
theorem st_get_new {S L : SS} {i : Nat} : (S ++ L)[S.length + i]? = L[i]? := st_new
theorem st_get_new0 {S L : SS} : (S ++ L)[S.length]? = L[0]? := st_new0
theorem oNe_lsts {S L : SS} {Q : GQ} {i j : Nat} {ds : List D} {ps : List PyData} (hi : L[i]? = some (.lst ds)) (hj : L[j]? = some (.lst ds)) (hs : seqP (toP (S ++ L) 7) ds = some ps) (sh : SeqAt.shaped (.list ps) = true) (q : Q (.bl false) (S ++ L)) :
    oNe (.obj (S.length + i)) (.obj (S.length + j)) (S ++ L) Q :=
  oNe_same (p := .list ps) (by rw [toP_lst (by rw [st_new]; exact hi), hs]; rfl) (by rw [toP_lst (by rw [st_new]; exact hj), hs]; rfl) sh q
theorem oEq_lsts {S L : SS} {Q : GQ} {i j : Nat} {ds : List D} {ps : List PyData} (hi : L[i]? = some (.lst ds)) (hj : L[j]? = some (.lst ds)) (hs : seqP (toP (S ++ L) 7) ds = some ps) (sh : SeqAt.shaped (.list ps) = true) (q : Q (.bl true) (S ++ L)) :
    oEq (.obj (S.length + i)) (.obj (S.length + j)) (S ++ L) Q :=
  oEq_same (p := .list ps) (by rw [toP_lst (by rw [st_new]; exact hi), hs]; rfl) (by rw [toP_lst (by rw [st_new]; exact hj), hs]; rfl) sh q
def tyO : Option GO → Option (String ⊕ Addr)
  | some (.lst _) => some (.inl "list")
  | some (.dK _) => some (.inl "dict")
  | some (.dT _) => some (.inl "dict")
  | some (.ins C _) => some (.inr C)
  | _ => none
theorem tyD_obj {S : SS} {k : Nat} : tyD S (.obj k) = tyO S[k]? := by
  show (match S[k]? with
    | some (.lst _) => some (.inl "list")
    | some (.dK _) => some (.inl "dict")
    | some (.dT _) => some (.inl "dict")
    | some (.ins C _) => some (.inr C)
    | _ => none) = tyO S[k]?
  cases S[k]? with
  | none => rfl
  | some o => cases o <;> rfl
theorem tyD_non {S : SS} : tyD S .non = some (.inl "NoneType") := rfl
theorem tyD_bl {S : SS} {b : Bool} : tyD S (.bl b) = some (.inl "bool") := rfl
theorem tyD_int {S : SS} {i : Int} : tyD S (.int i) = some (.inl "int") := rfl
theorem tyD_str {S : SS} {x : Str} : tyD S (.str x) = some (.inl "str") := rfl
theorem tyD_tup {S : SS} {ds : List D} : tyD S (.tup ds) = some (.inl "tuple") := rfl
theorem tyD_rol {S : SS} {ds : List D} : tyD S (.rol ds) = some (.inl "list") := rfl
theorem okK_self {c : CA} {C : Addr} : okK c C (.inr C) = true := by simp [okK]
theorem okK_n1 {c : CA} {C : Addr} : okK c C (.inl "NoneType") = true := by simp [okK]
theorem okK_n2 {c : CA} {C : Addr} : okK c C (.inl "int") = true := by simp [okK]
theorem okK_n3 {c : CA} {C : Addr} : okK c C (.inl "bool") = true := by simp [okK]
theorem okK_n4 {c : CA} {C : Addr} : okK c C (.inl "tuple") = true := by simp [okK]
theorem okK_n5 {c : CA} {C : Addr} : okK c C (.inl "str") = true := by simp [okK]
theorem okK_n6 {c : CA} {C : Addr} : okK c C (.inl "list") = true := by simp [okK]
theorem okK_n7 {c : CA} {C : Addr} : okK c C (.inl "dict") = true := by simp [okK]
theorem tstr_len {i : Int} (h : i.natAbs.log2 < 1920) : (Str.ofString (toString i)).length ≤ 2000 := by
  have e := int_text_length_le (k := 1920) (by decide) h
  rw [ofString_length]
  omega
theorem rngG_get {lo : Int} {n i : Nat} {d : D} (h : (rng lo n)[i]? = some d) : d = .int (lo + i) ∧ i < n := by
  unfold rng at h
  rw [List.getElem?_map, Option.map_eq_some_iff] at h
  obtain ⟨j, hj, rfl⟩ := h
  obtain ⟨h1, h2⟩ := List.getElem?_eq_some_iff.mp hj
  simp at h1 h2
  subst h2
  exact ⟨rfl, h1⟩
theorem rngG_length {lo : Int} {n : Nat} : (rng lo n).length = n := by simp [rng]
end Gh

/-! Gx: exceptions that are caught and kept. -/
namespace Gh
open PySem PySem.Spec PyProof.Rows L2
variable [TabsC]

theorem fly_keeps {B : Heap} {l : List Env} {e : Addr} {Z : Obj → Prop} {h h' : Heap} (f : HandSPX.FlyingZ B l e Z h) (k : ∀ b o, h.get? b = some o → h'.get? b = some o) : HandSPX.FlyingZ B l e Z h' := by
  obtain ⟨f1, f2, f3, oe, vs, T, oT, ts, a1, a2, a3, a4, a5, a6, a7, a8, a9⟩ := f
  exact ⟨fun b o q => k b o (f1 b o q), f2, Heap.FunFrames.of_keeps (fun b o q _ => ⟨o, k b o q, rfl⟩) f3, oe, vs, T, oT, ts, k _ _ a1, a2, a3, a4, a5, a6, k _ _ a7, a8, a9⟩
section
variable {X : Cx} {pins : List (Addr × Obj)} {σ : L2.St} {H : Hp} {s : Shared}
theorem exK_at {a : Addr} {cls : Value} {d : Option Addr} (I : Inv X pins σ H s) (h : H a = some (exK cls d a)) : ∃ oe vs, s.heap.get? a = some oe ∧ Zc cls d oe ∧ oe.data = .fields vs := by
  have x : ObjOk X.prog X.w H s.heap a (.ext fun h => ∃ oe vs, h.get? a = some oe ∧ Zc cls d oe ∧ oe.data = .fields vs) := I.hok a _ h
  exact x.1
/-- something untracked becomes tracked, by what is true of it -/
theorem inv_reg {a : Addr} {φ : Heap → Prop} (I : Inv X pins σ H s) (na : H a = none) (n0 : X.s_0.heap.get? a = none) (nL : a ≠ X.env.locals) (nC : ∀ x c, X.env.cells.lookup x = some c → c ≠ a) (nP : ∀ p ∈ X.pn ++ pins, p.1 ≠ a) (new : ObjOk X.prog X.w (upd H a (.ext φ)) s.heap a (.ext φ)) :
    Inv X pins σ (upd H a (.ext φ)) s := by
  have ne : ∀ {b : Addr} {u : HO}, H b = some u → b ≠ a := fun {b u} q => ne_of_none q na
  refine ⟨I.ok, I.os, I.bare, ⟨I.base.keep, I.base.slot, fun b o e n hx => ?_, I.base.there, fun b xs e => ?_, fun b o u e => ?_, fun b ps e => ?_⟩, I.loc, I.cell, by rw [upd_ne (Ne.symm nL)]; exact I.free, fun x c e => by rw [upd_ne (nC x c e)]; exact I.freeC x c e, fun p hp => ?_, fun b u e => ?_, I.len⟩
  · have hb : b ≠ a := fun z => by rw [z, n0] at e; cases e
    rw [upd_ne hb]; exact I.base.free b o e n hx
  · have q := I.base.tups b xs e
    rw [upd_ne (ne q)]; exact q
  · have q := I.base.frzs b o u e
    rw [upd_ne (ne q)]; exact q
  · obtain ⟨m, q⟩ := I.base.tbls b ps e
    exact ⟨m, by rw [upd_ne (ne q)]; exact q⟩
  · obtain ⟨h1, h2, h3⟩ := I.pin p hp
    exact ⟨h1, by rw [upd_ne (nP p hp)]; exact h2, h3⟩
  · by_cases hb : b = a
    · subst hb
      rw [upd_same] at e
      cases e
      exact new
    · rw [upd_ne hb] at e
      exact (I.hok b u e).stay (fun c v _ q => q) (fun c q => by rw [upd_ne (ne q)]; exact q) fun c xs q => by rw [upd_ne (ne q)]; exact q
end
section
variable {X : Cx} {n y x1 x2 x3 : Str} {c1 c2 c3 : Value} {i j : Nat} {body : List Stmt} {p1 p2 p3 tp np yp pos pos' sp : Pos} {kt : Nat} {tb : WX → TS}
/-- try: body, except (x1, x2, x3) as n: y = n; all that the body raises is of these -/
theorem ps_tryT (hs : X.stack = X.env :: X.outer) (hf : X.env.frame = some X.env.locals) (hN : X.N.Nodup) (hi : X.N[i]? = some n) (hj : X.N[j]? = some y) (hln : X.env.kindOf n = some .local) (hly : X.env.kindOf y = some .local) (hnd : (n == ("__debug__" : Str)) = false) (hnc : (n == ("__classdict__" : Str)) = false) (hex : X.ex = [])
    (h1 : Gl X x1 ∧ (x1 == ("__debug__" : Str)) = false ∧ X.mg x1 = some c1) (h2 : Gl X x2 ∧ (x2 == ("__debug__" : Str)) = false ∧ X.mg x2 = some c2) (h3 : Gl X x3 ∧ (x3 == ("__debug__" : Str)) = false ∧ X.mg x3 = some c3)
    (hb : ∀ (W : WX) (pn : List (Addr × Obj)) (xe : Value → Shared → Prop), Takes (X.tr pn xe) W → PassesOwn (model X.prog X.w) X.A X.env xe → PSs (X.tr pn xe) body (tb W))
    (hsw : swapsWith (.Name n np) (some (.Name y yp)) sp.line X.env = pure false := by rfl) :
    PS X (.Try body [.ExceptHandler (some (.Tuple [.Name x1 p1, .Name x2 p2, .Name x3 p3] kt tp)) (some n) [.Assign [.Name y yp] (.Name n np) sp] pos'] [] [] pos)
      (fun D σ H => tb (fun cls d σ' H' => PySem.W.exmAny X.K cls [c1, c2, c3] = some true ∧ ∀ a, H' a = none → D.nx (((σ'.set i (some (.ref a))).set j (some (.ref a))).set i none) (upd H' a (exK cls d a))) D σ H) := by
  refine ⟨fun pins s σ H D I h => ?_⟩
  have ok := I.ok
  have hfr : X.A.frames = some (X.env :: X.outer) := by rw [ok.frames, hs]
  refine wpAny_Try_except ?_
  refine wpAny_mono ((hb _ (X.pn ++ pins) (fun e st => wpAny (model X.prog X.w) X.A (noteFrame e X.env) (fun _ st2 => wpAny (model X.prog X.w) X.A (setFlight e none) (fun _ st3 =>
    wpAny (model X.prog X.w) X.A (handleBy e X.env [.ExceptHandler (some (.Tuple [.Name x1 p1, .Name x2 p2, .Name x3 p3] kt tp)) (some n) [.Assign [.Name y yp] (.Name n np) sp] pos']) (SP X pins D) X.xe st3) X.xe st2) X.xe st)
      (fun u st xx => ?_) PassesOwn.looking).run [] s σ H D (I.toTry _) h) (fun fw st z => ?_) fun _ _ z => z
  · obtain ⟨a, B, sI, pinsJ, τ, H', cls, d, rfl, J', nb, up, sky, na, os, ag, hexm, hnx⟩ := xx
    have J : Inv X pins τ H' sI := J'.ofTry ok
    have sky' : Sky B (X.env :: X.outer) a (Zc cls d) X.env.locals st.heap := by rw [← hs]; exact sky
    show wpAny (model X.prog X.w) X.A (noteFrame (.ref a) X.env) _ _ _
    refine Sky.land Zc.steady hfr hf sky' fun g3 fly3 up3 => ?_
    have landed : ∀ {g : Heap}, HandSPX.FlyingZ B (X.env :: X.outer) a (Zc cls d) g → st.heap.UpToSlots g → Inv X pins τ H' { st with heap := g } := fun fl u => J.landed nb fl.1 (up.trans u) os ag
    have suited : ∀ {g : Heap} (fl : HandSPX.FlyingZ B (X.env :: X.outer) a (Zc cls d) g) (u : st.heap.UpToSlots g), ∃ oe vs, g.get? a = some oe ∧ Zc cls d oe ∧ oe.data = .fields vs ∧ a ≠ X.env.locals ∧ Inv (X.suite a ((a, oe) :: (X.pn ++ pins))) [] τ H' { st with heap := g } := by
      intro g fl u
      obtain ⟨oe, vs, he, hz, hd⟩ := fl.there
      have nfr : a ∉ frs (X.env :: X.outer) := fun hm => by
        obtain ⟨_, o', e', hn⟩ := fl.2.2.1.mem hm
        rw [he] at e'; cases e'
        exact hn _ hd
      have nL : a ≠ X.env.locals := fun z => nfr (List.mem_filterMap.mpr ⟨X.env, List.mem_cons_self, by rw [hf, z]⟩)
      have nF : a ∉ X.fs := fun hm => by
        obtain ⟨e, he, q⟩ := List.mem_filterMap.mp hm
        exact nfr (List.mem_filterMap.mpr ⟨e, List.mem_cons_of_mem _ he, q⟩)
      exact ⟨oe, vs, he, hz, hd, nL, (landed fl u).suite he hd na nL nF⟩
    obtain ⟨oe3, vs3, he3, hz3, hd3, nL, S3⟩ := suited fly3 up3
    refine wpAny_handleBy_cons (codeAny_handlers_test ?_) (by intro q; cases q)
    let t3 : Obj := { cls := .type "tuple", data := .seq [c1, c2, c3].toArray }
    have kp : ∀ b o, g3.get? b = some o → (g3.push t3).get? b = some o := fun b o q => Heap.get?_push_of_some _ q
    have fly4 := fly_keeps fly3 kp
    have up4 : st.heap.UpToSlots (g3.push t3) := up3.trans (Heap.UpToSlots.of_keeps kp)
    have LT : PySem.W.Looks (model X.prog X.w) (g3.push t3) (typeOf (.ref a)) cls := fun A Q E z k q => wpAny_typeOf_ref (k _ _ (kp _ _ he3)) (by rw [hz3.1]; exact q)
    have LM := PySem.W.exm_tup3 (M := model X.prog X.w) (tp := g3.objs.size) (landed fly4 up4).kIn LT (Heap.get?_push_size _ rfl) hexm
    refine wpAny_Tuple_spliced (A := X.A.mark (some (.ref a))) ?_
    refine Calls.spliced_cons (ld_glob (X := X.suite a ((a, oe3) :: (X.pn ++ pins))) S3 h1.1 h1.2.2 ?_ h1.2.1)
    refine Calls.spliced_cons (ld_glob (X := X.suite a ((a, oe3) :: (X.pn ++ pins))) S3 h2.1 h2.2.2 ?_ h2.2.1)
    refine Calls.spliced_cons (ld_glob (X := X.suite a ((a, oe3) :: (X.pn ++ pins))) S3 h3.1 h3.2.2 ?_ h3.2.1)
    refine Calls.spliced_nil ⟨by rw [sizeLine_eq]; simp, ?_⟩
    refine LM.here ?_
    refine codeAny_handlers_suite_as ?_
    refine HandSPX.lands_againZ fly4 fun g5 fly5 up5 => ?_
    obtain ⟨oe, vs, he, hz, hd, _, S5⟩ := suited fly5 (up4.trans up5)
    refine store_ok (X := X.suite a ((a, oe) :: (X.pn ++ pins))) (v := .ref a) S5 hN hi (.inl hln) rfl (fun s6 S6 => ?_) (.inr hln)
    have hset : PSs (X.suite a ((a, oe) :: (X.pn ++ pins))) [.Assign [.Name y yp] (.Name n np) sp] (tAsg (tVar i) (gName j)) := pss_one (ps_set hN hj (.inl hly) (pe_var hi (.inl hln) hnd hnc) hsw (.inr hly))
    have li : i < τ.length := by rw [J.len]; exact (List.getElem?_eq_some_iff.mp hi).1
    refine wpAny_mono (hset.run [] s6 (τ.set i (some (.ref a))) H' { nx := fun σ7 H7 => σ7 = (τ.set i (some (.ref a))).set j (some (.ref a)) ∧ H7 = H', rt := fun _ _ => False } S6 ⟨.ref a, by rw [List.getElem?_set_self li], rfl, rfl⟩) (fun f7 s7 z7 => ?_) (fun _ _ z => False.elim z)
    have frA : a ∉ frs X.stack := fun hm => by
      rw [hs] at hm
      obtain ⟨_, o', e', hn⟩ := fly5.2.2.1.mem hm
      rw [he] at e'; cases e'
      exact hn _ hd
    have nI : sI.heap.get? a = none := by
      cases q : sI.heap.get? a with
      | none => rfl
      | some o => have z := nb a o q frA; rw [fly5.2.1] at z; cases z
    have n0 : X.s_0.heap.get? a = none := by
      cases q : X.s_0.heap.get? a with
      | none => rfl
      | some o =>
        obtain ⟨o', q'⟩ := J.base.there a o q (by rw [hex]; exact fun z => nomatch z)
        rw [nI] at q'; cases q'
    have nC : ∀ x c, X.env.cells.lookup x = some c → c ≠ a := fun x c e z => by
      obtain ⟨v, o, q, _⟩ := J.cell x c e
      rw [z, nI] at q; cases q
    have nP : ∀ p ∈ X.pn ++ pins, p.1 ≠ a := fun p hp z => by
      have q := (J.pin p hp).1
      rw [z, nI] at q; cases q
    cases f7 with
    | next =>
      obtain ⟨σ7, H7, S7, rfl, rfl⟩ := z7
      have at7 : s7.heap.get? a = some oe := (S7.pin (a, oe) (List.mem_append_left _ List.mem_cons_self)).1
      have J8 := inv_reg (φ := fun h => ∃ oe vs, h.get? a = some oe ∧ Zc cls d oe ∧ oe.data = .fields vs) (S7.unsuite ok) na n0 nL nC nP (exK_ok at7 hz hd)
      exact gone_ok J8 hN hi hln fun s9 J9 => ⟨_, _, J9, hnx a na⟩
    | brk => obtain ⟨_, _, _, q⟩ := z7; exact q.elim
    | cont => obtain ⟨_, _, _, q⟩ := z7; exact q.elim
    | ret u => obtain ⟨_, _, _, _, _, q⟩ := z7; exact q.elim
  · cases fw with
    | next => obtain ⟨τ, H', J, q⟩ := z; exact wpAny_execs_nil ⟨τ, H', J.ofTry ok, q⟩
    | brk => obtain ⟨τ, H', J, q⟩ := z; exact ⟨τ, H', J.ofTry ok, q⟩
    | cont => obtain ⟨τ, H', J, q⟩ := z; exact ⟨τ, H', J.ofTry ok, q⟩
    | ret u => obtain ⟨v, τ, H', J, r, q⟩ := z; exact ⟨v, τ, H', J.ofTry ok, r, q⟩
end

/-! ### raise -/
def oexB (K : PySem.W.Frag) (C : Addr) : Bool := match K.lookup C with
  | some ⟨.type "type", _, .cls cd, sl⟩ => (match cd.mro, sl with
    | .ref C' :: bm, ⟨[_, _, _, _, some (.builtin n), _]⟩ => C' == C && (n == "ValueError.__new__" && (cd.hasDict && (!cd.hasDel && PySem.HandSPX.refsVE bm)))
    | _, _ => false)
  | _ => false
theorem oexB_ok {K : PySem.W.Frag} {C : Addr} (h : oexB K C = true) : ∃ nm q N bs bm sn sub ab col dd k0 k1 k2 k3 k5, K.lookup C = some (excClassObj nm q C N bs bm true sn sub ab col dd k0 k1 k2 k3 k5 "ValueError.__new__") ∧ PySem.HandSPX.refsVE bm = true := by
  unfold oexB at h
  split at h
  · rename_i dd cd sl e
    split at h
    · rename_i C' bm k0 k1 k2 k3 n k5 e1
      obtain ⟨nm, bs, mro, ns, q, hd, sn, sub, ab, col, del⟩ := cd
      simp only [Bool.and_eq_true, beq_iff_eq, Bool.not_eq_true'] at h
      obtain ⟨rfl, rfl, h1, h2, h3⟩ := h
      dsimp only at e1 h1 h2
      subst e1 h1 h2
      exact ⟨nm, q, ns, bs, bm, sn, sub, ab, col, dd, k0, k1, k2, k3, k5, e, h3⟩
    · cases h
  · cases h
section
variable {X : Cx} {B : Bs} {E : Sl → GX} {C : Addr} {x m : Str} {p p2 pos pos' : Pos} {jj : Nat} {e : Expr} {te : GE}
/-- what is said of a class that is raised with a text alone -/
structure Ex0 (K : PySem.W.Frag) (C : Addr) : Prop where
  ex : PySem.W.excIn K C He.veBase "ValueError.__new__" = true
  kp : PySem.W.keepIn K (.ref C) = true
  sb : PySem.W.subIn K (.ref C) (.type "BaseException") = some true
  ty : PySem.W.typeIn K (.ref C) = some (.type "type")
theorem gs_raise0 (h : Ex0 X.K C) (tk : Tk X B E) (hm : X.mg x = some (.ref C)) (hg : Gl X x := by rfl) (hd : (x == ("__debug__" : Str)) = false := by decide) (hc : X.calm = true := by rfl) : GPS X B (.Raise (some (.Call (.Name x p) [.Constant (.str m) jj p2] [] pos)) none pos') (gsRaise0 E C) :=
  PS.weak (ps_raise hc tk (pmk_own PySem.F.excBase_ValueError h.ex hm h.kp (raises_own h.sb h.ty) hg hd)) fun D τ H ⟨η, S, σ, G, sr, gr, q, k⟩ => ⟨C, [], η, S, σ, rfl, sr, gr, .inl ⟨rfl, rfl⟩, q⟩
/-- .. with a field, by its own __init__ -/
def spE (K : PySem.W.Frag) (f : Str) : Sp := fun vs H Q _ => ∃ (a C : Addr) (v : V), vs = [.ref a, v] ∧ OexC K C ∧ PySem.W.findIn K (.ref C) f = some none ∧ H a = some (exo a C none) ∧ ∀ dx, H dx = none → dx ≠ a → Q .non (upd (upd H dx (exd dx [(f, v)])) a (exo a C (some dx)))
structure Ex1 (P : Program) (w : World) (K : PySem.W.Frag) (mg : Str → Option Value) (base : Heap) (C : Addr) (f : Str) : Prop where
  ox : OexC K C
  no : PySem.W.findIn K (.ref C) f = some none
  ini : ∃ fI fd, PySem.W.findIn K (.ref C) "__init__" = some (some (.ref fI)) ∧ PySem.W.typeIn K (.ref fI) = some (.type "function") ∧ FnOk P w K mg base L2.CX0 1 fI fd ["self", f] (spE K f) ∧ Binds K fd ["self", f] []
theorem del_upd3 {H : Hp} {a d : Addr} {o o' u : HO} (na : H a = none) (nd : H d = none) (h : d ≠ a) (o0 : HO) : upd (L2.del (upd (upd (upd H a o0) d o) a o') a) d u = upd H d u := by
  funext b
  by_cases h1 : b = d
  · subst h1; rw [upd_same, upd_same]
  · rw [upd_ne h1, upd_ne h1]
    by_cases h2 : b = a
    · subst h2; rw [L2.del_same, na]
    · rw [L2.del_ne h2, upd_ne h2, upd_ne h1, upd_ne h2]
theorem gs_raise1 {k : Nat} {f : Str} (h : Ex1 X.prog X.w X.K X.mg X.base C f) (hr : Rm (k + 2) X.A) (tk : Tk X B E) (hm : X.mg x = some (.ref C)) (he : GPE X B e te) (hg : Gl X x := by rfl) (hd : (x == ("__debug__" : Str)) = false := by decide) (hc : X.calm = true := by rfl)
    (hst : starEach [e] X.env = (false, eval e X.env) :: starEach [] X.env := by rfl) : GPS X B (.Raise (some (.Call (.Name x p) [e] [] pos)) none pos') (gsRaise1 E C f te) := by
  obtain ⟨fI, fd, iC, tI, F, bd⟩ := h.ini
  refine PS.weak (ps_raise hc tk (pmk_oex h.ox iC tI F (hr.rm.mono (by omega)) bd .nil pass0 hg hm (pa_cons he pa_nil hst) hd hst rfl)) fun D τ H ⟨η, S, σ, G, sr, gr, q, k⟩ => ?_
  refine ⟨η, S, σ, _, sr, gr, q, fun d S1 η1 H1 v q1 g1 gr1 r1 => ⟨by simp, fun a na => ⟨a, C, v, rfl, h.ox, h.no, upd_same, fun dx ndx hda => ⟨rfl, dx, [(f, v)], upd_same, ?_, ?_, ?_⟩⟩⟩⟩
  · rw [upd_ne hda, upd_same]
  · rw [upd_ne hda] at ndx; exact ndx
  · have nd : H1 dx = none := by rw [upd_ne hda] at ndx; exact ndx
    rw [del_upd3 na nd hda]
    have g2 : Grow η1 H1 η1 (upd H1 dx (.xd [(f, v)])) := grow_new nd
    exact ⟨C, [(f, d)], η1, S1, σ, rfl, (sr.grow g1).grow g2, gr1.new nd, .inr ⟨dx, [(f, v)], rfl, upd_same, .cons ⟨rfl, r1.grow g2⟩ .nil⟩, q1⟩
end

/-! ### try, lifted -/
section
variable {X : Cx} {B : Bs} {n y x1 x2 x3 : Str} {A1 A2 A3 : Addr} {body : List Stmt} {p1 p2 p3 tp np yp pos pos' sp : Pos} {kt : Nat} {t : (Sl → GX) → GS} {ok : Addr → Prop}
theorem exc_push {K : PySem.W.Frag} {η : List Addr} {S : SS} {H : Hp} {a C : Addr} {d : Option Addr} {fs : List (Str × D)} (gr : GR K η S H) (na : H a = none) (p : PayR K η H fs d) : GR K (η ++ [a]) (S ++ [.exc C fs]) (upd H a (exK (.ref C) d a)) := by
  have g : Grow η H (η ++ [a]) (upd H a (exK (.ref C) d a)) := grow_push na
  refine gr.push na ⟨d, upd_same, ?_⟩
  rcases p with p | ⟨dd, us, e, h1, h2⟩
  · exact .inl p
  · exact .inr ⟨dd, us, e, g.xds _ _ h1, Paired.grow h2 fun _ _ r => ⟨r.1, r.2.grow g⟩⟩
theorem gs_tryT (i j : Nat) (hN : X.N.Nodup) (hb : ∀ (B' : Bs) (E : Sl → GX) (pn : List (Addr × Obj)) (xe : Value → Shared → Prop), Grow B.1 B.2 B'.1 B'.2 → Tk (X.tr pn xe) B' E → PassesOwn (model X.prog X.w) X.A X.env xe → GPSs (X.tr pn xe) B' body (t E))
    (hok : ∀ C, ok C → PySem.W.exmAny X.K (.ref C) [.ref A1, .ref A2, .ref A3] = some true) (h1 : X.mg x1 = some (.ref A1)) (h2 : X.mg x2 = some (.ref A2)) (h3 : X.mg x3 = some (.ref A3)) (hs : X.stack = X.env :: X.outer := by rfl) (hf : X.env.frame = some X.env.locals := by rfl) (hex : X.ex = [] := by rfl) (hi : X.N[i]? = some n := by rfl) (hj : X.N[j]? = some y := by rfl)
    (hln : X.env.kindOf n = some .local := by rfl) (hly : X.env.kindOf y = some .local := by rfl) (g1 : Gl X x1 := by rfl) (g2 : Gl X x2 := by rfl) (g3 : Gl X x3 := by rfl) (d1 : (x1 == ("__debug__" : Str)) = false := by decide) (d2 : (x2 == ("__debug__" : Str)) = false := by decide) (d3 : (x3 == ("__debug__" : Str)) = false := by decide)
    (hnd : (n == ("__debug__" : Str)) = false := by decide) (hnc : (n == ("__classdict__" : Str)) = false := by decide) (hsw : swapsWith (.Name n np) (some (.Name y yp)) sp.line X.env = pure false := by rfl) :
    GPS X B (.Try body [.ExceptHandler (some (.Tuple [.Name x1 p1, .Name x2 p2, .Name x3 p3] kt tp)) (some n) [.Assign [.Name y yp] (.Name n np) sp] pos'] [] [] pos) (gsTryT ok i j t) :=
  PS.weak (ps_tryT (tb := fun W D τ H => ∃ B' E, Grow B.1 B.2 B'.1 B'.2 ∧ (∀ cls d τ' H', LX X.K B' E cls d τ' H' → W cls d τ' H') ∧ LS X.K B' (t E) D τ H) hs hf hN hi hj hln hly hnd hnc hex ⟨g1, d1, h1⟩ ⟨g2, d2, h2⟩ ⟨g3, d3, h3⟩
    (fun W pn xe tk po => ⟨fun pins s τ H D I ⟨B', E, up, w, q⟩ => (hb B' E pn xe up (Takes.imp tk fun cls d τ' H' z => w cls d τ' H' z) po).run pins s τ H D I q⟩) hsw) fun D τ H ⟨η, S, σ, G, sr, gr, q, k⟩ => by
    refine ⟨(η, H), _, sr.up, ?_, η, S, σ, G, ⟨.refl, sr.sr⟩, gr, q, ⟨fun σ' S' η' H' τ' q' g' sr' gr' => k.nx σ' S' η' H' τ' q' g' ⟨sr.up.trans g', sr'.sr⟩ gr', k.rt, fun σ' S' η' H' τ' q' g' sr' gr' => k.bk σ' S' η' H' τ' q' g' ⟨sr.up.trans g', sr'.sr⟩ gr', fun σ' S' η' H' τ' q' g' sr' gr' => k.ct σ' S' η' H' τ' q' g' ⟨sr.up.trans g', sr'.sr⟩ gr'⟩⟩
    rintro cls d τ' H' ⟨C, fs, η', S', σ', rfl, sg, gr', pay, okC, qn⟩
    refine ⟨hok C okC, fun a na => ?_⟩
    have gp : Grow η' H' (η' ++ [a]) (upd H' a (exK (.ref C) d a)) := grow_push na
    have ra : VR X.K (η' ++ [a]) (upd H' a (exK (.ref C) d a)) (.obj S'.length) (.ref a) := .obj (by rw [← gr'.len]; simp)
    have s1 := sg.sr.grow gp
    exact k.nx _ _ (η' ++ [a]) _ _ qn (sg.up.trans gp) ⟨(sr.up.trans sg.up).trans gp, ((s1.set i ra).set j ra).wipe i⟩ (exc_push gr' na pay)
end

/-! ### a kept exception: its fields, its class -/
structure ExI (K : PySem.W.Frag) (C : Addr) : Prop where
  ga : PySem.W.findIn K (.ref C) "__getattribute__" = some (some (.builtin "BaseException.__getattribute__"))
  gg : PySem.W.findIn K (.ref C) "__getattr__" = some none
  sb : PySem.W.subIn K (.ref C) (.type "BaseException") = some true
  hd : PySem.W.hasDictIn K C = true
  ca : PySem.W.findIn K (.ref C) "__class__" = some (some (.builtin "object.__class__"))
  cn : PySem.W.specialIn K (.builtin "object.__class__") "__get__" = some (some (.builtin "getset_descriptor.__get__"))
  ct : PySem.W.takesIn K (.builtin "object.__class__") = some true
  cm : PySem.W.mroIn K C (.type "object") = some true
section
variable {X : Cx} {B : Bs} {C : Addr} {o : Expr} {te : GE} {pos : Pos} {pins : List (Addr × Obj)} {σ : L2.St} {H : Hp} {s : Shared}
theorem exc_inst {η : List Addr} {a : Addr} {fs : List (Str × D)} (I : Inv X pins σ H s) (r : ORel X.K η H a (.exc C fs)) : ∃ oe od, PySem.W.InstAt s.heap a oe C od ∧
    ∀ f d, fs.lookup f = some d → ∃ ob v u, od = some ob ∧ PySem.W.lookIn f ob = some (some u) ∧ RelV v u ∧ VR X.K η H d v := by
  obtain ⟨dd, h1, pay⟩ := r
  obtain ⟨oe, vs, he, hz, hd⟩ := exK_at I h1
  have nc : PySem.W.notCls oe = true := by unfold PySem.W.notCls; rw [hd] <;> rfl
  rcases pay with ⟨rfl, rfl⟩ | ⟨da, us, rfl, h2, hf⟩
  · exact ⟨oe, none, ⟨he, hz.1, nc, by rw [hz.2]; trivial⟩, fun f d z => nomatch z⟩
  · have hx : ObjOk X.prog X.w H s.heap da (.xd us) := I.hok da _ h2
    obtain ⟨mA, hns, hr⟩ := hx
    obtain ⟨od, ho, hl⟩ := lookIn_ns hns
    refine ⟨oe, some od, ⟨he, hz.1, nc, by rw [hz.2]; exact ho⟩, fun f d z => ?_⟩
    obtain ⟨v, l, rv⟩ := fr_some hf z
    obtain ⟨u, hu, ru⟩ := RelO.some_of (v := v) (o := mA f) (by rw [← l]; exact hr f)
    exact ⟨od, v, u, rfl, by rw [hl, hu], ru, rv⟩
theorem ge_fldE {ok : Addr → Prop} {f : Str} (hC : ∀ C, ok C → ExI X.K C ∧ PySem.W.findIn X.K (.ref C) f = some none) (he : GPE X B o te) (hb : attributeBase o f X.env (eval o X.env) = eval o X.env := by rfl) : GPE X B (.Attribute o f pos) (gFldE ok f te) := by
  refine ⟨fun pins s τ H Q I ⟨η, S, σ, R, sr, gr, q, ko⟩ => ?_⟩
  refine attr_of hb (thn (he.run pins s τ H (fun x H1 => ∃ (η : List Addr) (S : SS) (k : Nat) (C : Addr) (fs : List (Str × D)) (d : D) (a : Addr), x = .ref a ∧ GR X.K η S H1 ∧ η[k]? = some a ∧ S[k]? = some (GO.exc C fs) ∧ ok C ∧ List.lookup f fs = some d ∧ R d S ∧ Ko X.K η H1 R Q) I
    ⟨η, S, σ, _, sr, gr, q, fun d S1 η1 H1 v q1 g1 gr1 r1 => ?_⟩) fun u s1 ⟨x, H1, I1, rx, η1, S1, j, C, fs, d, a, ex, gr1, e1, hk, okc, hl, q1, ko1⟩ => ?_)
  · cases r1 with
    | obj e1 =>
      simp only at q1
      split at q1
      · rename_i C fs hk
        obtain ⟨okc, q1⟩ := q1
        split at q1
        · rename_i d hd
          exact ⟨η1, S1, _, C, fs, d, _, rfl, gr1, e1, hk, okc, hd, q1, ko.grow g1⟩
        · exact q1.elim
      · exact q1.elim
    | _ => exact q1.elim
  · subst ex
    obtain rfl : u = Value.ref a := rx
    obtain ⟨T, no⟩ := hC C okc
    obtain ⟨oe, od, J, lk⟩ := exc_inst I1 (gr1.obj e1 hk)
    obtain ⟨ob, v, u, rfl, hlk, ru, rv⟩ := lk f d hl
    exact HandSPX.exc_get I1.kIn J T.ga T.gg T.sb (PySem.W.findObj_own T.hd no rfl hlk) (handed_of ru) ⟨v, H1, I1.tok _, ru, ko1 d S1 η1 H1 v q1 .refl gr1 rv⟩
theorem lc_isiE {t : D} {u : Value} {c : V} {f : Addr → Option Bool} (hu : ClsV c u) (ht : ∀ η H v, VR X.K η H t v → v = c) (hv : ∀ w, RelV c w → w = u) (h : ∀ C b, f C = some b → ExI X.K C ∧ PySem.W.kitOne X.K (.ref C) u = some b) : CallR X (.builtin "isinstance") (LC X.K (cIsiE t f)) := by
  intro pins s σ H xs us Q I rx ⟨η, S, ds, R, gr, r, q, k⟩
  obtain ⟨d, e, v, w, rfl, rfl, r1, r2, q⟩ := two_of q r
  obtain ⟨rfl, q2⟩ := q
  obtain rfl := ht _ _ _ r2
  cases r1 with
  | obj e1 =>
    simp only at q2
    split at q2
    · rename_i C fs hk
      split at q2
      · rename_i b hb
        obtain ⟨T, kit⟩ := h C b hb
        obtain ⟨oe, od, J, _⟩ := exc_inst I (gr.obj e1 hk)
        cases rx with
        | cons ra rr =>
          cases rr with
          | cons rc rr =>
            cases rr
            cases ra
            obtain rfl := hv _ rc
            have hcl : (PySem.W.clsIn X.K C).isSome = true := by
              obtain ⟨cd, hc, _⟩ := PySem.W.any_some T.hd
              exact Option.isSome_iff_exists.mpr ⟨cd, hc⟩
            exact PySem.W.kia_one (PySem.W.kitx_exc hcl T.ga T.gg T.sb T.ca T.cn T.ct T.cm) I.kIn J kit (fun z => nomatch z) fun tk => ⟨.bl b, H, I.kept (t' := tk) fun _ _ z => z, rfl, k _ S η H _ q2 .refl gr (.bl _)⟩
      · exact q2.elim
    · exact q2.elim
  | _ => exact q2.elim
end
end Gh

/-! Gy: dicts, methods of lists and texts, in. -/
namespace Gh
open PySem PySem.Spec PyProof.Rows L2
variable [TabsC]

section
variable {K : PySem.W.Frag} {η : List Addr} {H : Hp} {κ : Type} [DecidableEq κ]
theorem pair_get {kvs : List (κ × D)} {us : List (κ × V)} (h : Paired (fun (p : κ × D) (q : κ × V) => p.1 = q.1 ∧ VR K η H p.2 q.2) kvs us) (k : κ) : (∀ d, getK kvs k = some d → ∃ v, valV us k = some v ∧ VR K η H d v) ∧ (getK kvs k = none → valV us k = none) := by
  induction h with
  | nil => exact ⟨fun d e => (by simp [getK] at e), fun _ => rfl⟩
  | cons h r ih =>
    rename_i p q kvs us
    obtain ⟨a, d⟩ := p
    obtain ⟨b, v⟩ := q
    obtain ⟨rfl, rv⟩ := h
    by_cases e : a = k
    · refine ⟨fun d' e' => ⟨v, by simp [valV, List.find?_cons, e], ?_⟩, fun e' => ?_⟩
      · have : d' = d := by simpa [getK, List.find?_cons, e] using e'.symm
        rw [this]; exact rv
      · simp [getK, List.find?_cons, e] at e'
    · have e1 : getK ((a, d) :: kvs) k = getK kvs k := by simp [getK, List.find?_cons, e]
      have e2 : valV ((a, v) :: us) k = valV us k := by simp [valV, List.find?_cons, e]
      rw [e1, e2]; exact ih
theorem pair_any {kvs : List (κ × D)} {us : List (κ × V)} (h : Paired (fun (p : κ × D) (q : κ × V) => p.1 = q.1 ∧ VR K η H p.2 q.2) kvs us) (k : κ) : (kvs.any fun p => decide (p.1 = k)) = us.any fun p => decide (p.1 = k) := by
  induction h with
  | nil => rfl
  | cons h r ih => rw [List.any_cons, List.any_cons, h.1, ih]
theorem pair_put {kvs : List (κ × D)} {us : List (κ × V)} (h : Paired (fun (p : κ × D) (q : κ × V) => p.1 = q.1 ∧ VR K η H p.2 q.2) kvs us) (k : κ) {d : D} {v : V} (r : VR K η H d v) : Paired (fun (p : κ × D) (q : κ × V) => p.1 = q.1 ∧ VR K η H p.2 q.2) (putKD kvs k d) (putK us k v) := by
  unfold putKD putK
  rw [pair_any h k]
  split
  · rename_i hc
    clear hc
    induction h with
    | nil => exact .nil
    | cons h1 _ ih =>
      refine .cons ?_ ih
      show (if _ then _ else _ : κ × D).1 = (if _ then _ else _ : κ × V).1 ∧ VR K η H (if _ then _ else _ : κ × D).2 (if _ then _ else _ : κ × V).2
      rw [h1.1]
      split
      · exact ⟨rfl, r⟩
      · exact h1
  · rename_i hc
    clear hc
    induction h with
    | nil => exact .cons ⟨rfl, r⟩ .nil
    | cons h1 _ ih => exact .cons h1 ih
theorem key_of {d : D} {q : GKey} {v : V} (e : toKey d = some q) (r : VR K η H d v) : v = kV q := by
  cases r <;> cases e <;> rfl
theorem keyL_of : ∀ {ds : List D} {qs : List GKey} {vs : List V}, toKeyL ds = some qs → VRs K η H ds vs → vs = qs.map kV
  | [], _, _, e, .nil => by cases e; rfl
  | d :: ds, qs, _, e, .cons r rs => by
    simp only [toKeyL] at e
    split at e
    · rename_i k h1
      split at e
      · rename_i ks h2
        cases e
        rw [key_of h1 r, keyL_of h2 rs]; rfl
      · cases e
    · cases e
end
/-- a tuple that is a key stands in the abstract heap -/
def tupAt (H : Hp) (v : V) (ks : List GKey) : Prop := ∃ b, v = .ref b ∧ H b = some (.tup (ks.map kV))
section
variable {X : Cx} {B : Bs} {pos : Pos} {a b e : Expr} {ta tb te : GE} {es : List Expr} {tes : GA} {η : List Addr} {S : SS} {H : Hp}
/-- what is asked of a dict: int or text keys -/
theorem look_k {x y : D} {u v : V} {P : Option D → Prop} (gr : GR X.K η S H) (rx : VR X.K η H x u) (ry : VR X.K η H y v) (q : oDLook x y S P) (nt : ∀ ds, y ≠ .tup ds) :
    ∃ a kvs us k, u = .ref a ∧ H a = some (.dK us) ∧ v = kV k ∧ P (getK kvs k) ∧ Paired (fun (p : GKey × D) (q : Key × V) => p.1 = q.1 ∧ VR X.K η H p.2 q.2) kvs us := by
  cases rx with
  | obj e1 =>
    simp only [oDLook] at q
    split at q
    · rename_i kvs hk
      obtain ⟨us, h1, h2⟩ := gr.obj e1 hk
      split at q
      · rename_i k hy
        exact ⟨_, kvs, us, k, rfl, h1, key_of hy ry, q, h2⟩
      · exact q.elim
    · split at q
      · rename_i k hy
        cases y <;> first | (exact absurd rfl (nt _)) | cases hy
      · exact q.elim
    · exact q.elim
  | _ => exact q.elim
/-- int and text keys alone -/
def noTupKey (o : GO2) : GO2 := fun x y S Q => (∀ ds, y ≠ .tup ds) ∧ o x y S Q
theorem ge_dget (hu : X.A.units + 1 < cLine) (ha : GPE X B a ta) (hb : GPE X B b tb) (hs : NoSl b := by intro _ _; rfl) : GPE X B (.Subscript a b pos) (gBin (noTupKey oDGet) ta tb) :=
  PE.weak (pe_dget hu ha hb hs) fun τ H Q ⟨η, S, σ, R, sr, gr, q, k⟩ =>
    ⟨η, S, σ, _, sr, gr, q, fun d S1 η1 H1 v q1 g1 gr1 r1 => ⟨η1, S1, σ, _, sr.grow g1, gr1, q1, fun e S2 η2 H2 w q2 g2 gr2 r2 => by
      obtain ⟨ad, kvs, us, kk, rfl, h1, rfl, h2, h3⟩ := look_k gr2 (r1.grow g2) r2 q2.2 q2.1
      split at h2
      · rename_i d' hd
        obtain ⟨v', hv, rv⟩ := (pair_get h3 kk).1 _ hd
        exact ⟨ad, v', rfl, by rw [← hv]; exact DGet.k h1, k _ S2 η2 H2 v' h2 (g1.trans g2) gr2 rv⟩
      · exact h2.elim⟩⟩
theorem bool_get {κ : Type} [DecidableEq κ] {K : PySem.W.Frag} {η : List Addr} {H : Hp} {kvs : List (κ × D)} {us : List (κ × V)} (h : Paired (fun (p : κ × D) (q : κ × V) => p.1 = q.1 ∧ VR K η H p.2 q.2) kvs us) (k : κ) : (valV us k).isSome = (getK kvs k).isSome := by
  cases e : getK kvs k with
  | none => rw [(pair_get h k).2 e]; rfl
  | some d => obtain ⟨v, hv, _⟩ := (pair_get h k).1 d e; rw [hv]; rfl
/-- k in d -/
def noTupIn (neg : Bool) : GO2 := fun y x S Q => (∀ ds, y ≠ .tup ds) ∧ oDIn neg y x S Q
theorem ge_din (hu : X.A.units + 1 < cLine) (hb : GPE X B b tb) (ha : GPE X B a ta) (hm : behindInMarks .In a = false) : GPE X B (.Compare b [.In] [a] pos) (gBin (noTupIn false) tb ta) :=
  PE.weak (pe_cmp (pc_din hu hb ha) hm) fun τ H Q ⟨η, S, σ, R, sr, gr, q, k⟩ =>
    ⟨η, S, σ, _, sr, gr, q, fun d S1 η1 H1 v q1 g1 gr1 r1 => ⟨η1, S1, σ, _, sr.grow g1, gr1, q1, fun e S2 η2 H2 w q2 g2 gr2 r2 => by
      obtain ⟨ad, kvs, us, kk, rfl, h1, rfl, h2, h3⟩ := look_k gr2 r2 (r1.grow g2) q2.2 q2.1
      exact ⟨ad, _, rfl, DGet.k h1, by rw [bool_get h3 kk]; exact k _ S2 η2 H2 _ h2 (g1.trans g2) gr2 (.bl _)⟩⟩⟩
theorem ge_dnin (hu : X.A.units + 1 < cLine) (hb : GPE X B b tb) (ha : GPE X B a ta) (hm : behindInMarks .NotIn a = false) : GPE X B (.Compare b [.NotIn] [a] pos) (gBin (noTupIn true) tb ta) :=
  PE.weak (pe_cmp (pc_dnotin hu hb ha) hm) fun τ H Q ⟨η, S, σ, R, sr, gr, q, k⟩ =>
    ⟨η, S, σ, _, sr, gr, q, fun d S1 η1 H1 v q1 g1 gr1 r1 => ⟨η1, S1, σ, _, sr.grow g1, gr1, q1, fun e S2 η2 H2 w q2 g2 gr2 r2 => by
      obtain ⟨ad, kvs, us, kk, rfl, h1, rfl, h2, h3⟩ := look_k gr2 r2 (r1.grow g2) q2.2 q2.1
      exact ⟨ad, _, rfl, DGet.k h1, by rw [bool_get h3 kk]; exact k _ S2 η2 H2 _ h2 (g1.trans g2) gr2 (.bl _)⟩⟩⟩
/-- d[k] = v -/
def noTupSet : D → D → D → SS → (SS → Prop) → Prop := fun o i v S Q => (∀ ds, i ≠ .tup ds) ∧ oDSet o i v S Q
theorem ls_dict (hu : X.A.units + 1 < cLine) : PSet X (LSet X.K noTupSet) := by
  intro pins s σ H o i v ov iv u Q I ro ri rv ⟨η, S, a, b, c, R, gr, ra, rb, rc, ⟨nt, q⟩, k⟩
  cases ra with
  | obj e1 =>
    simp only [oDSet] at q
    split at q
    · rename_i kvs hk
      obtain ⟨us, h1, h2⟩ := gr.obj e1 hk
      split at q
      · rename_i kk hb
        obtain rfl := key_of hb rb
        have g := gr.growSet (o := .dK (putK us kk v)) e1 ⟨(fun _ z => nomatch h1.symm.trans z), (fun _ z => nomatch h1.symm.trans z)⟩
        refine set_dict hu pins s σ H _ _ v ov iv u Q I ro ri rv ⟨_, _, rfl, DPut.k h1 (by rw [← Paired.length h2]; exact q.1), ?_⟩
        exact k _ η _ q.2 g (gr.set e1 ⟨(fun _ z => nomatch h1.symm.trans z), (fun _ z => nomatch h1.symm.trans z)⟩ (u := .dK (putKD kvs kk c)) ⟨_, upd_same, Paired.grow (pair_put h2 kk rc) fun _ _ z => ⟨z.1, z.2.grow g⟩⟩)
      · exact q.elim
    · split at q
      · rename_i kk hb
        cases b <;> first | (exact absurd rfl (nt _)) | cases hb
      · exact q.elim
    · exact q.elim
  | _ => exact q.elim
theorem ge_dict0 : GPE X B (.Dict [] [] pos) (gDict0 false) :=
  PE.weak pe_dnewK fun τ H Q ⟨η, S, σ, R, sr, gr, q, k⟩ => fun p hp => by
    have g : Grow η H (η ++ [p]) (upd H p (.dK [])) := grow_push hp
    exact k _ _ (η ++ [p]) _ (.ref p) q g (gr.push (u := .dK []) hp ⟨[], upd_same, .nil⟩) (.obj (by rw [← gr.len]; simp))

/-! ### methods -/
def LMt (K : PySem.W.Frag) (r : D → List D → SS → GQ → Prop) : V → List V → Hp → VK → Prop := fun x xs H Q => ∃ η S d ds R, GR K η S H ∧ VR K η H d x ∧ VRs K η H ds xs ∧ r d ds S R ∧ Ko K η H R Q
theorem tyM_of {d : D} {v : V} {T : String} (gr : GR X.K η S H) (r : VR X.K η H d v) (h0 : isTupD d = false) (h : tyD S d = some (.inl T)) (hT : T = "str" ∨ T = "list" ∨ T = "dict") : tyV X.K T v H := by
  cases r with
  | str x => cases h; rfl
  | rol h1 h2 => cases h; exact .inl ⟨rfl, _, h1.1⟩
  | obj e =>
    simp only [tyD] at h
    split at h
    · rename_i ds hk
      cases h
      obtain ⟨vs, hv, _⟩ := gr.obj e hk
      exact .inl ⟨rfl, _, .of hv⟩
    · rename_i kvs hk
      cases h
      obtain ⟨vs, hv, _⟩ := gr.obj e hk
      exact .inr (.inr (.inl ⟨rfl, .inl ⟨_, hv⟩⟩))
    · rename_i kvs hk
      cases h
      obtain ⟨vs, hv, _⟩ := gr.obj e hk
      exact .inr (.inr (.inl ⟨rfl, .inr ⟨_, hv⟩⟩))
    · cases h
    · cases h
  | int i => cases h; rfl
  | tup _ _ => cases h0
  | non => rcases hT with rfl | rfl | rfl <;> simp [tyD] at h
  | bl b => rcases hT with rfl | rfl | rfl <;> simp [tyD] at h
  | ref a => cases h
  | ty n => cases h
theorem ge_bm {T id : String} {name : Str} {apos cpos : Pos} {r : D → List D → SS → GQ → Prop} (pa : PlainAttrs T) (slot : Slot T name id) (hty : typeOf (.builtin id) = pure (.type "method_descriptor")) (hm : MtR X id (LMt X.K r)) (ho : GPE X B a ta) (ha : GPA X B (e :: es) tes) (hT : T = "str" ∨ T = "list" ∨ T = "dict")
    (hbase : attributeBase a name X.env (eval a X.env) = eval a X.env := by rfl)
    (hfew : ((backTo cpos (starEach (e :: es) X.env)).all (fun x => !x.1) && (backToKw cpos (keywordEach [] X.env)).all (fun x => x.1.isSome) && decide ((e :: es).length + ([] : List Keyword).length + (if ([] : List Keyword).isEmpty then 0 else 1) < 30)) = true := by rfl)
    (hline : (apos.endLine == cpos.line) = true := by rfl) (hs : starEach (e :: es) X.env = (false, eval e X.env) :: starEach es X.env := by rfl) (hplain : (backTo cpos (starEach es X.env)).any (·.1) = false := by rfl) :
    GPE X B (.Call (.Attribute a name apos) (e :: es) [] cpos) (gBM T r ta tes) :=
  PE.weak (pe_bm pa slot hty hm ho ha hbase hfew hline hs hplain) fun τ H Q ⟨η, S, σ, R, sr, gr, q, k⟩ =>
    ⟨η, S, σ, _, sr, gr, q, fun d S1 η1 H1 v q1 g1 gr1 r1 => ⟨tyM_of gr1 r1 q1.1.1 q1.1.2 hT, η1, S1, σ, _, sr.grow g1, gr1, q1.2, fun ds S2 η2 H2 vs q2 g2 gr2 r2 => ⟨η2, S2, d, ds, R, gr2, r1.grow g2, r2, q2, k.grow (g1.trans g2)⟩⟩⟩
theorem ge_bm0 {T id : String} {name : Str} {apos cpos : Pos} {r : D → List D → SS → GQ → Prop} (pa : PlainAttrs T) (slot : Slot T name id) (hty : typeOf (.builtin id) = pure (.type "method_descriptor")) (hm : MtR X id (LMt X.K r)) (ho : GPE X B a ta) (hT : T = "str" ∨ T = "list" ∨ T = "dict")
    (hbase : attributeBase a name X.env (eval a X.env) = eval a X.env := by rfl) (hline : (apos.endLine == cpos.line) = true := by rfl) : GPE X B (.Call (.Attribute a name apos) [] [] cpos) (gBM T r ta gNil) :=
  PE.weak (pe_bm0 pa slot hty hm ho hbase hline) fun τ H Q ⟨η, S, σ, R, sr, gr, q, k⟩ =>
    ⟨η, S, σ, _, sr, gr, q, fun d S1 η1 H1 v q1 g1 gr1 r1 => ⟨tyM_of gr1 r1 q1.1.1 q1.1.2 hT, η1, S1, d, [], R, gr1, r1, .nil, q1.2, k.grow g1⟩⟩
theorem lm_append : MtR X "list.append" (LMt X.K mAppend) := by
  intro pins s σ H x xs v us Q I rx rxs ⟨η, S, d, ds, R, gr, r, rs, q, k⟩
  cases r with
  | obj e1 =>
    cases rs with
    | nil => exact q.elim
    | @cons d1 _ w1 _ r1 rr =>
      cases rr with
      | cons _ _ => exact q.elim
      | nil =>
        simp only [mAppend] at q
        split at q
        · rename_i es hk
          obtain ⟨vs, hv, hr⟩ := gr.obj e1 hk
          have g := gr.growSet (o := .lst (vs ++ [w1])) e1 ⟨(fun _ z => nomatch hv.symm.trans z), (fun _ z => nomatch hv.symm.trans z)⟩
          exact mt_append pins s σ H _ _ v us Q I rx rxs ⟨_, vs, _, rfl, rfl, hv, by rw [← hr.length]; exact q.1, k _ _ η _ _ q.2 g (gr.set e1 ⟨(fun _ z => nomatch hv.symm.trans z), (fun _ z => nomatch hv.symm.trans z)⟩ ⟨_, upd_same, (hr.append (.cons r1 .nil)).grow g⟩) .non⟩
        · exact q.elim
  | _ => exact q.elim
theorem vrs_dropLast {K : PySem.W.Frag} {η : List Addr} {H : Hp} : ∀ {ds : List D} {vs : List V}, VRs K η H ds vs → VRs K η H ds.dropLast vs.dropLast
  | _, _, .nil => .nil
  | _, _, .cons _ .nil => .nil
  | _, _, .cons h (.cons h2 r) => .cons h (vrs_dropLast (.cons h2 r))
theorem vrs_erase {K : PySem.W.Frag} {η : List Addr} {H : Hp} : ∀ {ds : List D} {vs : List V} (i : Nat), VRs K η H ds vs → VRs K η H (ds.eraseIdx i) (vs.eraseIdx i)
  | _, _, _, .nil => .nil
  | _, _, 0, .cons _ r => r
  | _, _, i + 1, .cons h r => .cons h (vrs_erase i r)
theorem lm_pop : MtR X "list.pop" (LMt X.K mPop) := by
  intro pins s σ H x xs v us Q I rx rxs ⟨η, S, d, ds, R, gr, r, rs, q, k⟩
  cases r with
  | obj e1 =>
    cases rs with
    | cons _ _ => exact q.elim
    | nil =>
      simp only [mPop] at q
      split at q
      · rename_i es hk
        obtain ⟨vs, hv, hr⟩ := gr.obj e1 hk
        split at q
        · rename_i d hd
          obtain ⟨w, hw, rw'⟩ := hr.get hd
          have g := gr.growSet (o := .lst vs.dropLast) e1 ⟨(fun _ z => nomatch hv.symm.trans z), (fun _ z => nomatch hv.symm.trans z)⟩
          exact mt_pop pins s σ H _ _ v us Q I rx rxs ⟨_, vs, w, rfl, rfl, hv, by rw [← hr.length]; exact hw, k _ _ η _ _ q g (gr.set e1 ⟨(fun _ z => nomatch hv.symm.trans z), (fun _ z => nomatch hv.symm.trans z)⟩ ⟨_, upd_same, (vrs_dropLast hr).grow g⟩) (rw'.grow g)⟩
        · exact q.elim
      · exact q.elim
  | _ => exact q.elim
theorem lm_popAt : MtR X "list.pop" (LMt X.K mPopAt) := by
  intro pins s σ H x xs v us Q I rx rxs ⟨η, S, d, ds, R, gr, r, rs, q, k⟩
  cases r with
  | obj e1 =>
    cases rs with
    | nil => exact q.elim
    | cons r1 rr =>
      cases rr with
      | cons _ _ => cases r1 <;> exact q.elim
      | nil =>
        cases r1 with
        | int i =>
          simp only [mPopAt] at q
          split at q
          · rename_i es hk
            obtain ⟨vs, hv, hr⟩ := gr.obj e1 hk
            obtain ⟨⟨i0, i1⟩, q⟩ := q
            split at q
            · rename_i d hd
              obtain ⟨w, hw, rw'⟩ := hr.get hd
              have g := gr.growSet (o := .lst (vs.eraseIdx i.toNat)) e1 ⟨(fun _ z => nomatch hv.symm.trans z), (fun _ z => nomatch hv.symm.trans z)⟩
              have hl := (List.getElem?_eq_some_iff.mp hw).1
              exact mt_popAt pins s σ H _ _ v us Q I rx rxs ⟨_, vs, i, i.toNat, w, rfl, rfl, hv, by omega, by omega, by
                have hn : ¬ i < 0 := by omega
                have hc : (decide (0 ≤ i) && decide (i < (vs.length : Int))) = true := by
                  rw [decide_eq_true i0, decide_eq_true (show i < (vs.length : Int) by omega)]; rfl
                simp only [seqIndex?, if_neg hn, hc, if_true], hw, k _ _ η _ _ q g (gr.set e1 ⟨(fun _ z => nomatch hv.symm.trans z), (fun _ z => nomatch hv.symm.trans z)⟩ ⟨_, upd_same, (vrs_erase _ hr).grow g⟩) (rw'.grow g)⟩
            · exact q.elim
          · exact q.elim
        | _ => exact q.elim
  | _ => exact q.elim
end
end Gh

/-! Gz: *args, sums, repetition, more of in. -/
namespace Gh
open PySem PySem.Spec PyProof.Rows L2
variable [TabsC]

section
variable {P : Program} {w : World} {K : PySem.W.Frag} {mg : Str → Option Value} {base : Heap} {x qual : Str} {params : Arguments} {body : List Stmt} {scope : Scope} {kws : List (Str × V)} {f : Addr} {fd : FuncData} {dvs : List V}
/-- def f(a, .., *v): the promise bears the written ones and the tuple of the rest -/
theorem def_star {N ps : List Str} {pv : Str} {k : Nat} {sp : Sp} (F : FunD K x qual params body scope dvs kws f fd) (Sc : FnScope N (ps ++ [pv]) scope)
    (bd : ∀ us rest : List Value, us.length = ps.length → bindArgs fd ⟨us ++ rest, []⟩ = (newTuple rest >>= fun t => pure (ps.zip us ++ [(pv, t)])))
    (go : ∀ (cv : Value) (A : Around) (ou : List Env) (st : Shared) (H : Hp) (vs : List V) (Q : VK) (E : XK), Rm k (A.deeper (envOfC qual scope st.heap.objs.size f cv)) → sp vs H Q E →
      ∃ t, PSs (cxOf (L2.CX P w) P w K mg base N qual scope f cv A ou st H E) body t ∧ t { nx := fun _ H' => Q .non H', rt := Q } (L2.start N vs) H) :
    GR0 P w K mg base (k + 1) f (fun vs H Q E => ∃ ws rest, vs = ws ++ rest ∧ ws.length = ps.length ∧ rest.length ≤ sizeLine ∧ ∀ p, H p = none → sp (ws ++ [V.ref p]) (upd H p (.tup rest)) Q E) := by
  obtain ⟨oc, od, dV, kV, doc, pm, an, cv, ct, osl, rfl, look, code, _, _⟩ := F.ex
  rintro A ou st H us vs Q E room e0 rv ⟨ws, rest, rfl, hl, hz, hsp⟩
  obtain ⟨u1, u2, rfl, r1, r2⟩ := StX.vals_split rv
  have kin : K.In st.heap := e0.mod.kin.keeps fun b o z => (e0.bs b o z).1
  have hn : H st.heap.objs.size = none := e0.hok.fresh (Nat.le_refl _)
  have l1 : u1.length = ps.length := by rw [← r1.length]; exact hl
  have l2 : u2.length ≤ sizeLine := by rw [← r2.length]; exact hz
  refine codeAny_call_function room.rm.depth (kin _ _ look) rfl Sc.co Sc.gen rfl (PySem.W.codeRec_of kin code) ?_
  rw [bd u1 u2 l1]
  refine wpAny_bind (wpAny_newTuple (wpAny_pure ?_) l2)
  let ob : Obj := { cls := .type "tuple", data := .seq u2.toArray }
  have new : ObjOk P w (upd H st.heap.objs.size (.tup rest)) (st.heap.push ob) st.heap.objs.size (.tup rest) := ⟨hz, u2, r2, ⟨_, Heap.get?_push_size _ rfl, rfl, _, rfl⟩⟩
  have e2 := StX.env0_laid e0 new
  have un := StX.un_laid (fs := frs ou) (s := st) (o := ob) (u := .tup rest) hn
  have rv2 : Vals (ws ++ [V.ref st.heap.objs.size]) (u1 ++ [Value.ref st.heap.objs.size]) := r1.append (.cons rfl .nil)
  have lv : (ws ++ [V.ref st.heap.objs.size]).length = (ps ++ [pv]).length := by rw [List.length_append, List.length_append, hl]; rfl
  have zp : ps.zip u1 ++ [(pv, Value.ref st.heap.objs.size)] = (ps ++ [pv]).zip (u1 ++ [Value.ref st.heap.objs.size]) := by rw [List.zip_append l1.symm]; rfl
  rw [zp]
  have kinds : ∀ y ∈ (ps ++ [pv]).zip (u1 ++ [Value.ref st.heap.objs.size]), scope.names.lookup y.1 = some .local ∨ (scope.names.lookup y.1 = some .cell ∧ ((cellsFrom ((st.heap.push ob).objs.size + 1) scope.names []).lookup y.1).isSome = true) := by
    rintro ⟨n, u⟩ hy
    exact (Sc.par n (List.of_mem_zip hy).1).imp id fun q => ⟨q, PySem.W.cellsFrom_some _ _ _ (.inl q)⟩
  refine wpAny_newFunctionEnv_cells (s := { st with heap := st.heap.push ob }) Sc.kind kinds fun env he st1 inC => ?_
  subst he
  refine ⟨(e2.mod.nolimit.keeps fun b o z => (e2.bs b o z).1).keeps inC.toInCall.keep, codeAny_func ?_⟩
  obtain ⟨t, ht, q0⟩ := go cv A ou { st with heap := st.heap.push ob } _ _ Q E (room.deeper _) (hsp _ hn)
  have I0 : Inv (cxOf (L2.CX P w) P w K mg base N qual scope f cv A ou { st with heap := st.heap.push ob } (upd H st.heap.objs.size (.tup rest)) E) [] (L2.start N (ws ++ [V.ref st.heap.objs.size])) (upd H st.heap.objs.size (.tup rest)) st1 := inv_start Sc room.rm.hd e2 lv rv2 inC
  have up : ∀ e s', L2.CX P w ou (upd H st.heap.objs.size (.tup rest)) { st with heap := st.heap.push ob } E e s' → L2.CX P w ou H st E e s' := fun e s' => StX.cxUp ou st H _ _ E e s' un (fun b o q => Heap.get?_push_of_some _ q) rfl
  refine wpAny_mono (ht.run [] st1 _ _ _ I0 q0) (fun fl st2 z => ?_) fun e st2 z => wpAny_mono z (fun _ s3 y => up e s3 y) fun e' s3 y => up e' s3 y
  cases fl with
  | ret u => obtain ⟨v, τ, H2, J, ru, q⟩ := z; exact ⟨v, H2, J.os, J.bare, un.trans J.base, J.hok, ru, q⟩
  | next => obtain ⟨τ, H2, J, q⟩ := z; exact ⟨V.non, H2, J.os, J.bare, un.trans J.base, J.hok, (rfl : RelV V.non Value.none), q⟩
  | brk => obtain ⟨_, _, _, q⟩ := z; exact q.elim
  | cont => obtain ⟨_, _, _, q⟩ := z; exact q.elim
/-- THE RULE for such a def: n written ones, the rest -/
theorem fn_star {N ps : List Str} {pv : Str} {k n : Nat} {sp : GSp} (F : FunD K x qual params body scope dvs kws f fd) (Sc : FnScope N (ps ++ [pv]) scope) (b : (Sl → GX) → GS) (hn : n = ps.length)
    (bd : ∀ us rest : List Value, us.length = ps.length → bindArgs fd ⟨us ++ rest, []⟩ = (newTuple rest >>= fun t => pure (ps.zip us ++ [(pv, t)])))
    (hb : ∀ (cdv : Value) (A : Around) (outer : List Env) (s : Shared) (H : Hp) (E : XK) (B : Bs) (G : Sl → GX), Rm k (A.deeper (envOfC qual scope s.heap.objs.size f cdv)) → Tk (cxOf (L2.CX P w) P w K mg base N qual scope f cdv A outer s H E) B G →
      GPSs (cxOf (L2.CX P w) P w K mg base N qual scope f cdv A outer s H E) B body (b G))
    (vc : ∀ ds S Q G, sp ds S Q G → b (fun _ => gCutX S G) ⟨fun _ S' => gCut S Q .non S', gCut S Q, fun _ _ => False, fun _ _ => False⟩ (startG N ds) S) :
    GFn P w K mg base (k + 1) f (fun ds S Q G => n ≤ ds.length ∧ ds.length ≤ 16777216 ∧ sp (ds.take n ++ [.tup (ds.drop n)]) S Q G) := by
  refine GR0.imp (def_star (sp := LSp K sp) F Sc bd fun cdv A outer s H vs Q E hr ⟨η, S, ds, R, G, gr, rs, h, ko, kx⟩ => ?_) fun vs H Q E ⟨η, S, ds, R, G, gr, rs, ⟨l1, l2, h⟩, ko, kx⟩ => ?_
  · have tk : Tk (cxOf (L2.CX P w) P w K mg base N qual scope f cdv A outer s H E) (η, H) (fun _ => gCutX S G) := by
      refine Takes.imp (takes_of rfl rfl rfl rfl) ?_
      rintro c dd τ H' ⟨C, fs, η', S', σ, rfl, sg, gr', pay, h'⟩
      rcases h' with h' | ⟨m, cm, lm, h'⟩
      · exact kx C fs S' η' H' dd h' sg.up gr' pay
      · obtain ⟨g1, g2⟩ := cut_gr gr sg.up gr' cm
        exact kx C fs _ _ H' dd h' g2 g1 (pay_low pay lm)
    refine ⟨_, hb cdv A outer s H E (η, H) (fun _ => gCutX S G) hr tk, η, S, startG N ds, _, ⟨.refl, sr_start rs N⟩, gr, vc ds S R G h, ?_⟩
    have kcut : Ko K η H (gCut S R) Q := by
      intro d S' η' H' v q g gr' r
      rcases q with q | ⟨m, cm, lm, q⟩
      · exact ko d S' η' H' v q g gr' r
      · obtain ⟨g1, g2⟩ := cut_gr gr g gr' cm
        exact ko d _ _ H' v q g2 g1 (low_vr r lm)
    exact ⟨fun σ' S' η' H' τ' q g sr gr' => kcut .non S' η' H' .non q g gr' .non, kcut, fun _ _ _ _ _ q => q.elim, fun _ _ _ _ _ q => q.elim⟩
  · have lv := rs.length
    refine ⟨vs.take n, vs.drop n, (List.take_append_drop n vs).symm, by rw [List.length_take]; omega, by rw [List.length_drop, sizeLine_eq]; omega, fun p hp => ?_⟩
    have g : Grow η H η (upd H p (.tup (vs.drop n))) := grow_new hp
    have r1 : VRs K η H (ds.take n) (vs.take n) := by have := vrs_cut 0 n rs; simpa using this
    have r2 : VRs K η H (ds.drop n) (vs.drop n) := by
      have := vrs_cut n ds.length rs
      rw [List.take_of_length_le (by simp), List.take_of_length_le (by rw [List.length_drop]; omega)] at this
      exact this
    exact ⟨η, S, _, R, G, gr.new hp, (r1.grow g).append (.cons (.tup (.inl (.inl upd_same)) (r2.grow g)) .nil), h, ko.grow g, fun C fs S' η' H' dd z g' => kx C fs S' η' H' dd z (g.trans g')⟩
end
end Gh

/-! Ha: texts: methods, in, index, repetition, unpacking of lists. -/
namespace Gh
open PySem PySem.Spec PyProof.Rows L2
variable [TabsC]

/-! ### readings -/
def mTxt0 (f : Str → Bool) : D → List D → SS → GQ → Prop := fun x ds S Q => match x, ds with
  | .str a, [] => Q (.bl (f a)) S
  | _, _ => False
def mStarts : D → List D → SS → GQ → Prop := fun x ds S Q => match x, ds with
  | .str a, [.str b] => Q (.bl (Txt.startswith a b)) S
  | _, _ => False
def mSplit : D → List D → SS → GQ → Prop := fun x ds S Q => match x, ds with
  | .str a, [.str b] => (b.length == 0) = false ∧ a.length + 2 ≤ 16777216 ∧ Q (.obj S.length) (S ++ [.lst ((Txt.split a b).map .str)])
  | _, _ => False
def gRepl (t : GE) (y z : Str) : GE := fun σ S Q => t σ S fun x S1 => match x with
  | .str a => a.length + (a.length + 1) * z.length ≤ 16777216 ∧ Q (.str (Txt.replace a y z)) S1
  | _ => False
/-- (a, b, ..) = a list -/
def ggUnl (n : Nat) (u : GGs) : GG := fun d σ S Q => ∃ ds, itemsD S d = some ds ∧ isTupD d = false ∧ ds.length = n ∧ u ds σ S Q
section
variable {X : Cx} {B : Bs} {pos : Pos} {a b e : Expr} {ta tb te : GE}
theorem lm_txt0 {id : String} {f : Str → Bool} (h : MtR X id (fun x xs H Q => ∃ a, x = .str a ∧ xs = [] ∧ True ∧ Q (.bl (f a)) H)) : MtR X id (LMt X.K (mTxt0 f)) := by
  intro pins s σ H x xs v us Q I rx rxs ⟨η, S, d, ds, R, gr, r, rs, q, k⟩
  cases r with
  | str z =>
    cases rs with
    | nil => exact h pins s σ H _ _ v us Q I rx rxs ⟨z, rfl, rfl, trivial, k _ S η H _ q .refl gr (.bl _)⟩
    | cons _ _ => exact q.elim
  | _ => cases rs <;> exact q.elim
theorem lm_starts : MtR X "str.startswith" (LMt X.K mStarts) := by
  intro pins s σ H x xs v us Q I rx rxs ⟨η, S, d, ds, R, gr, r, rs, q, k⟩
  cases r with
  | str z =>
    cases rs with
    | nil => exact q.elim
    | cons r1 rr =>
      cases r1 with
      | str y => cases rr with
        | nil => exact mt_startswith pins s σ H _ _ v us Q I rx rxs ⟨z, y, rfl, rfl, k _ S η H _ q .refl gr (.bl _)⟩
        | cons _ _ => exact q.elim
      | _ => exact q.elim
  | _ => exact q.elim
theorem vrs_strs {K : PySem.W.Frag} {η : List Addr} {H : Hp} : ∀ ys : List Str, VRs K η H (ys.map .str) (ys.map V.str)
  | [] => .nil
  | y :: ys => .cons (.str y) (vrs_strs ys)
theorem lm_split : MtR X "str.split" (LMt X.K mSplit) := by
  intro pins s σ H x xs v us Q I rx rxs ⟨η, S, d, ds, R, gr, r, rs, q, k⟩
  cases r with
  | str z =>
    cases rs with
    | nil => exact q.elim
    | cons r1 rr =>
      cases r1 with
      | str y => cases rr with
        | nil =>
          refine mt_split pins s σ H _ _ v us Q I rx rxs ⟨z, y, rfl, rfl, q.1, by rw [sizeLine_eq]; exact q.2.1, fun p hp => ?_⟩
          have g2 : Grow η H (η ++ [p]) (upd H p (.lst ((Txt.split z y).map V.str))) := grow_push hp
          exact k _ _ (η ++ [p]) _ (.ref p) q.2.2 g2 (gr.push (u := .lst ((Txt.split z y).map .str)) hp ⟨_, upd_same, vrs_strs _⟩) (.obj (by rw [← gr.len]; simp))
        | cons _ _ => exact q.elim
      | _ => exact q.elim
  | _ => exact q.elim
theorem lm_index (hu : X.A.units + 65 < cLine) : MtR X "list.index" (LMt X.K mIndex) := by
  intro pins s σ H x xs v us Q I rx rxs ⟨η, S, d, ds, R, gr, r, rs, q, k⟩
  cases rs with
  | nil => exact q.elim
  | cons r1 rr =>
    cases rr with
    | cons _ _ => exact q.elim
    | nil =>
      obtain ⟨p, ps, j, z, h1, h2, s1, s2, hz, hzj, hno, q⟩ := q
      have dl := dp_ok gr 8 _ _ _ h2 r
      have hx : ∃ l, x = V.ref l := by cases dl; exact ⟨_, rfl⟩
      obtain ⟨l, rfl⟩ := hx
      exact mt_indexD hu pins s σ H _ _ v us Q I rx rxs ⟨l, _, p, ps, j, z, rfl, rfl, dl, dp_ok gr 8 _ _ _ h1 r1, s2, s1, hz, hzj, hno, k _ S η H _ q .refl gr (.int _)⟩
theorem lo_inD (hu : X.A.units + 65 < cLine) : OpR X (compareOp .In) (LO2 X.K (oInD false)) := by
  intro pins s σ H x y v u Q I rx ry ⟨η, S, d, e, R, gr, r1, r2, q, k⟩
  obtain ⟨p, ps, h1, h2, s1, s2, q⟩ := q
  exact op_inD hu pins s σ H _ _ v u Q I rx ry ⟨p, ps, dp_ok gr 8 _ _ _ h1 r1, dp_ok gr 8 _ _ _ h2 r2, s1, s2, k _ S η H _ q .refl gr (.bl _)⟩
theorem lo_notInD (hu : X.A.units + 65 < cLine) : OpR X (compareOp .NotIn) (LO2 X.K (oInD true)) := by
  intro pins s σ H x y v u Q I rx ry ⟨η, S, d, e, R, gr, r1, r2, q, k⟩
  obtain ⟨p, ps, h1, h2, s1, s2, q⟩ := q
  exact op_notInD hu pins s σ H _ _ v u Q I rx ry ⟨p, ps, dp_ok gr 8 _ _ _ h1 r1, dp_ok gr 8 _ _ _ h2 r2, s1, s2, k _ S η H _ q .refl gr (.bl _)⟩
theorem oInS_of {neg : Bool} {d e : D} {S : SS} {R : GQ} (q : oInS neg d e S R) : ∃ c z, d = .str ⟨#[c]⟩ ∧ e = .str z ∧ R (.bl (if neg then !decide (c ∈ z.cps.toList) else decide (c ∈ z.cps.toList))) S := by
  unfold oInS at q
  split at q
  · exact ⟨_, _, rfl, rfl, q⟩
  · exact q.elim
theorem lo_inS : OpR X (compareOp .In) (LO2 X.K (oInS false)) := by
  intro pins s σ H x y v u Q I rx ry ⟨η, S, d, e, R, gr, r1, r2, q, k⟩
  obtain ⟨c, z, rfl, rfl, q⟩ := oInS_of q
  cases r1
  cases r2
  exact op_in_sign pins s σ H _ _ v u Q I rx ry ⟨c, z, rfl, rfl, k _ S η H _ q .refl gr (.bl _)⟩
theorem lo_notInS : OpR X (compareOp .NotIn) (LO2 X.K (oInS true)) := by
  intro pins s σ H x y v u Q I rx ry ⟨η, S, d, e, R, gr, r1, r2, q, k⟩
  obtain ⟨c, z, rfl, rfl, q⟩ := oInS_of q
  cases r1
  cases r2
  exact op_notIn_sign pins s σ H _ _ v u Q I rx ry ⟨c, z, rfl, rfl, k _ S η H _ q .refl gr (.bl _)⟩
theorem vrs_rep {K : PySem.W.Frag} {η : List Addr} {H : Hp} {ds : List D} {vs : List V} (h : VRs K η H ds vs) : ∀ n : Nat, VRs K η H (List.replicate n ds).flatten (List.replicate n vs).flatten
  | 0 => .nil
  | n + 1 => by rw [List.replicate_succ, List.replicate_succ]; exact h.append (vrs_rep h n)
theorem lo_rep : OpR X (binaryOp .Mult) (LO2 X.K oRep) := by
  intro pins s σ H x y v u Q I rx ry ⟨η, S, d, e, R, gr, r1, r2, q, k⟩
  cases r1 with
  | obj e1 => cases r2 with
    | int n =>
      simp only [oRep] at q
      split at q
      · rename_i es hk
        obtain ⟨vs, hv, hr⟩ := gr.obj e1 hk
        obtain ⟨⟨n0, n1⟩, hz, q⟩ := q
        refine op_rep pins s σ H _ _ v u Q I rx ry ⟨_, n, vs, rfl, rfl, hv, by omega, by omega, by rw [← hr.length, sizeLine_eq]; exact hz, fun p hp => ?_⟩
        have g2 : Grow η H (η ++ [p]) (upd H p (.lst (List.replicate n.toNat vs).flatten)) := grow_push hp
        exact k _ _ (η ++ [p]) _ (.ref p) q g2 (gr.push (u := .lst (List.replicate n.toNat es).flatten) hp ⟨_, upd_same, (vrs_rep hr _).grow g2⟩) (.obj (by rw [← gr.len]; simp))
      · exact q.elim
    | _ => exact q.elim
  | _ => exact q.elim
theorem gg_unl {es : List Expr} {k : Nat} {u : GGs} {n : Nat} (h : GPGs X B es u) (hc : X.calm = true := by rfl) (hn : (assignEach es X.env).length = n := by rfl)
    (hst : (assignEach es X.env).findIdx? (·.1) = none := by rfl) : GPG X B (.Tuple es k pos) (ggUnl n u) :=
  PG.weak (pg_unl hc h hn hst) fun v τ H Q ⟨η, S, σ, d, R, sr, gr, r, q, k⟩ => by
    obtain ⟨ds, h1, h2, h3, q⟩ := q
    obtain ⟨a, vs, rfl, hp, hr⟩ := items_ok gr r h1
    rcases hp with hp | hp
    · exact ⟨_, vs, rfl, hp, by rw [← hr.length]; exact h3, η, S, σ, _, R, sr, gr, hr, q, k⟩
    · cases r with
      | tup _ _ => cases h2
      | rol g1 g2 => 
        cases h1
        exact ⟨_, _, rfl, g1.1, by rw [← g2.length]; exact h3, η, S, σ, _, R, sr, gr, g2, q, k⟩
      | obj e1 =>
        simp only [itemsD] at h1
        split at h1
        · rename_i ds' hk
          cases h1
          obtain ⟨us, hv, hr'⟩ := gr.obj e1 hk
          exact ⟨_, us, rfl, .of hv, by rw [← hr'.length]; exact h3, η, S, σ, _, R, sr, gr, hr', q, k⟩
        · cases h1
      | ref _ => cases h1
/-! ### replace: a token is out -/
def GPET (X : Cx) (B : Bs) (e : Expr) (t : GE) : Prop := PET X e (LE X.K B t)
def GPAT (X : Cx) (B : Bs) (es : List Expr) (t : GA) : Prop := PAT X es (LA X.K B t)
theorem PET.weak {X : Cx} {e : Expr} {t u : TE} (h : PET X e t) (w : ∀ τ H Q, u τ H Q → t τ H Q) : PET X e u := fun p s τ H Q h0 I q => h p s τ H Q h0 I (w τ H Q q)
theorem PAT.weak {X : Cx} {e : List Expr} {t u : TA} (h : PAT X e t) (w : ∀ τ H Q, u τ H Q → t τ H Q) : PAT X e u := fun ps p s τ H Q h0 I q => h ps p s τ H Q h0 I (w τ H Q q)
theorem gat_nil : GPAT X B [] gNil := PAT.weak pat_nil fun τ H Q ⟨η, S, σ, R, sr, gr, q, k⟩ => k [] S η H [] q .refl gr .nil
theorem gat_cons {es : List Expr} {tes : GA} (ha : GPET X B a ta) (hr : GPAT X B es tes) (hs : starEach (a :: es) X.env = (false, eval a X.env) :: starEach es X.env := by rfl) : GPAT X B (a :: es) (gCons ta tes) :=
  PAT.weak (pat_cons ha hr hs) fun τ H Q ⟨η, S, σ, R, sr, gr, q, k⟩ =>
    ⟨η, S, σ, _, sr, gr, q, fun d S1 η1 H1 v q1 g1 gr1 r1 => ⟨η1, S1, σ, _, sr.grow g1, gr1, q1, fun ds S2 η2 H2 vs q2 g2 gr2 r2 => k (d :: ds) S2 η2 H2 (v :: vs) q2 (g1.trans g2) gr2 (.cons (r1.grow g2) r2)⟩⟩
theorem get_of (h : GPE X B e te) : GPET X B e te := CwR.PET.of h
theorem get_repl {o : Expr} {to : GE} {y z : Str} {j k : Nat} {c0 c1 apos pos : Pos} (ho : GPE X B o to) (hyz : (y == z) = false := by decide)
    (hst : starEach [.Constant (.str y) j c0, .Constant (.str z) k c1] X.env = [(false, eval (.Constant (.str y) j c0) X.env), (false, eval (.Constant (.str z) k c1) X.env)] := by rfl)
    (hbase : attributeBase o "replace" X.env (eval o X.env) = eval o X.env := by rfl) (hline : (apos.endLine == pos.line) = true := by rfl) :
    GPET X B (.Call (.Attribute o "replace" apos) [.Constant (.str y) j c0, .Constant (.str z) k c1] [] pos) (gRepl to y z) :=
  PET.weak (CwR.pet_replC ho hyz hst hbase hline) fun τ H Q ⟨η, S, σ, R, sr, gr, q, k⟩ =>
    ⟨η, S, σ, _, sr, gr, q, fun d S1 η1 H1 v q1 g1 gr1 r1 => by
      cases r1 with
      | str x => exact ⟨x, rfl, q1.1, k _ S1 η1 H1 _ q1.2 g1 gr1 (.str _)⟩
      | _ => exact q1.elim⟩
/-- behind a sum that begins with a written text a token is out -/
theorem pa_tok {es : List Expr} {u : TA} {x : Str} {j : Nat} {cp bp : Pos} {op : Operator} {f : Expr} {r : R2} {t : TE} (ho : OpR X (binaryOp op) r) (hb : PE X f t) (hr : PAT X es u)
    (hs : starEach (.BinOp (.Constant (.str x) j cp) op f bp :: es) X.env = (false, eval (.BinOp (.Constant (.str x) j cp) op f bp) X.env) :: starEach es X.env := by rfl) :
    PA X (.BinOp (.Constant (.str x) j cp) op f bp :: es) (tCons (tOp r (tC (.str x)) t) u) := by
  refine ⟨fun pos pins s σ H Q I h => ?_⟩
  rw [hs]
  show wpAny _ _ (spliced ((false, eval _ X.env) :: backTo pos (starEach es X.env))) _ _ s
  refine Calls.spliced_cons ?_
  refine wpAny_BinOp (Calls.Constant_str ?_)
  have I1 : Inv X pins σ H { s with toks := s.toks + 1 } := I.tok _
  refine wpAny_mono (PySem.wpAny_toks (hb.run pins _ σ H _ I1 h)) (fun w s1 q => ?_) fun _ _ z => z.2
  obtain ⟨hk, y, H1, I1, r1, q1⟩ := q
  have hk' : s.toks + 1 ≤ s1.toks := hk
  refine wpAny_mono (PySem.wpAny_toks (ho pins s1 σ H1 (.str x) y _ w _ I1 ⟨_, rfl⟩ r1 q1)) (fun v s2 q => ?_) fun _ _ z => z.2
  obtain ⟨hk2, x2, H2, I2, r2, q2⟩ := q
  exact thn (hr pos pins s2 σ H2 _ (by omega) I2 q2) fun us s3 ⟨xs, H3, I3, r3, q3⟩ => ⟨x2 :: xs, H3, I3, .cons r2 r3, q3⟩
theorem ga_tok {es : List Expr} {tes : GA} {x y : Str} {j : Nat} {cp bp : Pos} {op : Operator} {f : Expr} {o : GO2} {tf : GE} (hx : x = y) (ho : OpR X (binaryOp op) (LO2 X.K o)) (hb : GPE X B f tf) (hr : GPAT X B es tes)
    (hs : starEach (.BinOp (.Constant (.str x) j cp) op f bp :: es) X.env = (false, eval (.BinOp (.Constant (.str x) j cp) op f bp) X.env) :: starEach es X.env := by rfl) :
    GPA X B (.BinOp (.Constant (.str x) j cp) op f bp :: es) (gCons (gBin o (gC (.str y)) tf) tes) := by
  subst hx
  exact PA.weak (pa_tok ho hb hr hs) fun τ H Q ⟨η, S, σ, R, sr, gr, q, k⟩ =>
    ⟨η, S, σ, _, sr, gr, q, fun w S1 η1 H1 v q1 g1 gr1 r1 => ⟨η1, S1, _, _, _, gr1, .str x, r1, q1, fun d S2 η2 H2 v2 q2 g2 gr2 r2 => ⟨η2, S2, σ, _, sr.grow (g1.trans g2), gr2, q2, fun ds S3 η3 H3 vs q3 g3 gr3 r3 => k (d :: ds) S3 η3 H3 (v2 :: vs) q3 ((g1.trans g2).trans g3) gr3 (.cons (r2.grow g3) r3)⟩⟩⟩
end
end Gh

/-! Hb: slices with a step, text * int. -/
namespace Gh
open PySem PySem.Spec PyProof.Rows L2
variable [TabsC]

def pickG {α : Type} (xs : List α) (lo hi : Option Int) (k : Int) : List α :=
  (sliceRange (sliceBounds lo hi (some k) xs.length).1 (sliceBounds lo hi (some k) xs.length).2.1 (sliceBounds lo hi (some k) xs.length).2.2).filterMap fun i => xs[i]?
theorem pickG_map {α β : Type} (f : α → β) (xs : List α) (lo hi : Option Int) (k : Int) : pickG (xs.map f) lo hi k = (pickG xs lo hi k).map f := by
  unfold pickG
  rw [List.length_map, List.map_filterMap]
  congr 1
  funext i
  rw [List.getElem?_map]
theorem pickG_slice (its : List Value) (lo hi : Option Int) (k : Int) : slicePick its.toArray lo hi (some k) = (pickG its lo hi k).toArray := by
  unfold slicePick pickG
  simp only [List.size_toArray, List.getElem?_toArray]
theorem pickG_length {α : Type} (xs : List α) (lo hi : Option Int) (k : Int) : (pickG xs lo hi k).length ≤ xs.length := by
  have h := slicePick_size_le (xs.map fun _ => Value.none).toArray lo hi (some k)
  rw [pickG_slice, pickG_map] at h
  simpa using h
theorem fm_map {α β : Type} {g : α → Option β} {h : α → β} : ∀ (l : List α), (∀ x ∈ l, g x = some (h x)) → l.filterMap g = l.map h
  | [], _ => rfl
  | a :: l, e => by
    rw [List.filterMap_cons, e a (List.mem_cons_self ..), List.map_cons, fm_map l fun x hx => e x (List.mem_cons_of_mem _ hx)]
theorem rev_range {α : Type} (xs : List α) : ((List.range xs.length).map fun j => xs.length - 1 - j).filterMap (fun i => xs[i]?) = xs.reverse := by
  cases xs with
  | nil => rfl
  | cons z r =>
    rw [List.filterMap_map, fm_map (h := fun j => ((z :: r).reverse[j]?).getD z) _ fun j hj => ?_]
    · apply List.ext_getElem?
      intro i
      by_cases hi : i < (z :: r).length
      · rw [List.getElem?_map, List.getElem?_range hi]
        have : i < (z :: r).reverse.length := by simpa using hi
        rw [List.getElem?_eq_getElem this]
        simp only [Option.map_some]
        rw [List.getElem?_eq_getElem this]
        rfl
      · rw [List.getElem?_eq_none (by simpa using hi), List.getElem?_eq_none (by simpa using hi)]
    · have hj := List.mem_range.mp hj
      have h2 : j < (z :: r).reverse.length := by simpa using hj
      simp only [Function.comp]
      rw [← List.getElem?_reverse hj, List.getElem?_eq_getElem h2]
      rfl
theorem pickG_rev {α : Type} (xs : List α) : pickG xs none none (-1) = xs.reverse := by
  rw [← rev_range]
  unfold pickG
  congr 1
  simp only [sliceBounds, Option.getD_some, sliceRange, show ¬ ((-1 : Int) > 0) from by decide, if_false]
  by_cases h : xs.length = 0
  · rw [h]; rfl
  · have h1 : ((xs.length : Int) - 1 > -1) := by omega
    simp only [h1, if_true]
    have h2 : (((xs.length : Int) - 1 - -1 - -1 - 1) / (- -1)).toNat = xs.length := by
      have : (xs.length : Int) - 1 - -1 - -1 - 1 = xs.length := by omega
      rw [this]; simp
    rw [h2]
    refine List.map_congr_left fun j hj => ?_
    have := List.mem_range.mp hj
    omega

/-- x[a:b:k] -/
def oSlK (k : Int) : D → Option Int → Option Int → SS → GQ → Prop := fun x a b S Q => k ≠ 0 ∧ k ≠ 1 ∧ match x with
  | .str z => z.length ≤ 16777216 ∧ Q (.str ⟨(pickG z.cps.toList a b k).toArray⟩) S
  | .obj l => (match S[l]? with
    | some (.lst ds) => Q (.obj S.length) (S ++ [.lst (pickG ds a b k)])
    | _ => False)
  | _ => False
def gSliceK (t : GE) (l u : GO') (st : GE) : GE := fun σ S Q => t σ S fun d S1 => l σ S1 fun a S2 => u σ S2 fun b S3 => st σ S3 fun k S4 => match k with
  | .int k => oSlK k d a b S4 Q
  | _ => False

section
variable {X : Cx} {B : Bs} {e st : Expr} {te ts : GE} {lo hi : Option Expr} {pos p2 : Pos}
/-- a slice with a step by values -/
def SlKR (X : Cx) (r : V → Option Int → Option Int → Option Int → Hp → VK → Prop) : Prop :=
  ∀ (pins : List (Addr × Obj)) (s : Shared) (σ : L2.St) (H : Hp) (x : V) (v vl vu vs : Value) (lo hi st : Option Int) (sl : Addr) (Q : VK), Inv X pins σ H s → RelV x v → s.heap.IsSliceOf sl vl vu vs → IsPart vl lo → IsPart vu hi → IsPart vs st → r x lo hi st H Q →
    ∃ T id, typeLookup (.type T) "__getitem__" = pure (some (.builtin id)) ∧ s.TypeIs v T ∧ wpAny (model X.prog X.w) X.A (getItem v (.ref sl)) (EP X pins σ Q) X.xe s
def tSlK (r : V → Option Int → Option Int → Option Int → Hp → VK → Prop) (te : TE) (tl th ts : TO) : TE := fun σ H Q => te σ H fun x H1 => tl σ H1 fun l H2 => th σ H2 fun u H3 => ts σ H3 fun k H4 => r x l u k H4 Q
theorem pe_sliceK {r : V → Option Int → Option Int → Option Int → Hp → VK → Prop} {te : TE} {tl th ts : TO} (hr : SlKR X r) (he : PE X e te) (hl : PO X lo tl) (hu : PO X hi th) (hs : PO X (some st) ts) : PE X (.Subscript e (.Slice lo hi (some st) p2) pos) (tSlK r te tl th ts) := by
  refine ⟨fun pins s σ H Q I h => ?_⟩
  refine Subscript_ (thn (he.run pins s σ H _ I h) fun v s1 ⟨x, H1, I1, r1, q1⟩ => ?_)
  refine wpAny_Slice (thn (hl.run pins s1 σ H1 _ I1 q1) fun vl s2 ⟨l, H2, I2, pl, q2⟩ => thn (hu.run pins s2 σ H2 _ I2 q2) fun vu s3 ⟨u, H3, I3, pu, q3⟩ => thn (hs.run pins s3 σ H3 _ I3 q3) fun vs s4 ⟨k, H4, I4, ps, q4⟩ => ?_)
  have I5 : Inv X pins σ H4 { s4 with heap := s4.heap.push { cls := .type "slice", data := .fields #[vl, vu, vs] } } := I4.kept (t' := s4.toks) fun b ob q => Heap.get?_push_of_some _ q
  obtain ⟨T, id, hT, ht, hg⟩ := hr pins { s4 with heap := s4.heap.push { cls := .type "slice", data := .fields #[vl, vu, vs] } } σ H4 x v vl vu vs l u k s4.heap.objs.size Q I5 r1 (Heap.IsSliceOf.new ..) pl pu ps q4
  show wpAny (model X.prog X.w) X.A (subscriptTail e (.Slice lo hi (some st) p2) v (.ref s4.heap.objs.size)) (EP X pins σ Q) X.xe { s4 with heap := s4.heap.push { cls := .type "slice", data := .fields #[vl, vu, vs] } }
  exact tail_any (ops := [v, .ref s4.heap.objs.size]) ht hT hg (by with_unfolding_all rfl)
def LSlK (K : PySem.W.Frag) : V → Option Int → Option Int → Option Int → Hp → VK → Prop := fun x a b c H Q => ∃ η S d k R, c = some k ∧ GR K η S H ∧ VR K η H d x ∧ oSlK k d a b S R ∧ Ko K η H R Q
theorem vals_pick {K : PySem.W.Frag} {xs : List V} {its : List Value} (r : Vals xs its) (lo hi : Option Int) (k : Int) : Vals (pickG xs lo hi k) (pickG its lo hi k) := by
  unfold pickG
  rw [r.length]
  generalize sliceRange _ _ _ = l
  induction l with
  | nil => exact .nil
  | cons i l ih =>
    rw [List.filterMap_cons, List.filterMap_cons]
    cases hx : xs[i]? with
    | none =>
      have : its[i]? = none := by
        rw [List.getElem?_eq_none_iff] at hx ⊢
        rw [← r.length]; exact hx
      rw [this]; exact ih
    | some x =>
      obtain ⟨u, hu, ru⟩ := r.get hx
      rw [hu]; exact .cons ru ih
theorem vrs_pick {K : PySem.W.Frag} {η : List Addr} {H : Hp} {ds : List D} {vs : List V} (r : VRs K η H ds vs) (lo hi : Option Int) (k : Int) : VRs K η H (pickG ds lo hi k) (pickG vs lo hi k) := by
  unfold pickG
  rw [r.length]
  generalize sliceRange _ _ _ = l
  induction l with
  | nil => exact .nil
  | cons i l ih =>
    rw [List.filterMap_cons, List.filterMap_cons]
    cases hx : ds[i]? with
    | none =>
      have : vs[i]? = none := by
        rw [List.getElem?_eq_none_iff] at hx ⊢
        rw [← r.length]; exact hx
      rw [this]; exact ih
    | some x =>
      obtain ⟨u, hu, ru⟩ := r.get hx
      rw [hu]; exact .cons ru ih
theorem lslK : SlKR X (LSlK X.K) := by
  intro pins s σ H x v vl vu vs lo hi st sl Q I rx hs pl pu ps ⟨η, S, d, k, R, hk, gr, r, ⟨k0, k1, q⟩, ko⟩
  subst hk
  cases r with
  | str z =>
    obtain ⟨t, rfl⟩ := rx
    obtain ⟨os, hos, hcs, hds⟩ := hs
    obtain ⟨l, rfl, rfl⟩ := IsPart.raw pl
    obtain ⟨u, rfl, rfl⟩ := IsPart.raw pu
    obtain ⟨c, rfl, hc⟩ := IsPart.raw ps
    refine ⟨"str", _, F.slot_str_getitem.lookup, typeIs_str _ _ _, ?_⟩
    refine wpAny_getItem_str_slice (l := l) (u := u) (st := c) ⟨os, hos, hcs, hds⟩ (by rw [hc]; simpa using k0) ?_
    have e : slicePicked z l u c = sliceRange (sliceBounds (l.map (·.1)) (u.map (·.1)) (some k) z.cps.toList.length).1 (sliceBounds (l.map (·.1)) (u.map (·.1)) (some k) z.cps.toList.length).2.1 (sliceBounds (l.map (·.1)) (u.map (·.1)) (some k) z.cps.toList.length).2.2 := by
      unfold slicePicked
      rw [hc]
      rfl
    unfold sliceMade
    rw [e, hc]
    rw [if_neg (by simp [k1])]
    refine ⟨?_, .str _, H, I.tok _, ⟨_, rfl⟩, ko _ S η H _ q.2 .refl gr ?_⟩
    · have := pickG_length z.cps.toList (l.map (·.1)) (u.map (·.1)) k
      unfold pickG at this
      show (List.filterMap _ _).toArray.size ≤ sizeLine
      rw [List.size_toArray, sizeLine_eq]
      simp only [Array.getElem?_toList] at this
      refine Nat.le_trans this ?_
      rw [Array.length_toList]
      exact q.1
    · unfold pickG
      simp only [Array.getElem?_toList]
      exact .str _
  | obj e1 =>
    simp only at q
    split at q
    · rename_i ds hk
      obtain ⟨us, hv, hr⟩ := gr.obj e1 hk
      cases rx
      obtain ⟨its, rv, ht, hz⟩ := I.list (.of hv)
      refine ⟨"list", _, slot_list_getitem.lookup, ht.isList.typeIs, ?_⟩
      refine wpAny_getItem_list_slice ht.isList hs pl pu ps (by simpa using k0) ?_ (by rw [List.size_toArray, ← rv.length]; exact hz)
      rw [pickG_slice]
      have hp := I.hok.fresh (Nat.le_refl s.heap.objs.size)
      refine ⟨.ref s.heap.objs.size, _, I.laid (t' := s.toks) (o := .lst (pickG us lo hi k)) (fun b ob q => Heap.get?_push_of_some _ q) (Nat.le_refl _) ?_, rfl, push_lst ko gr (vrs_pick hr lo hi k) q hp⟩
      exact ⟨Nat.le_trans (pickG_length us lo hi k) hz, _, 0, vals_pick (K := X.K) rv lo hi k, Heap.get?_push_size _ rfl⟩
    · exact q.elim
  | _ => exact q.elim
theorem ge_sliceK {tl tu : GO'} (he : GPE X B e te) (hl : GPO X B lo tl) (hu : GPO X B hi tu) (hs : GPE X B st ts) : GPE X B (.Subscript e (.Slice lo hi (some st) p2) pos) (gSliceK te tl tu ts) :=
  PE.weak (pe_sliceK lslK he hl hu (po_some hs)) fun τ H Q ⟨η, S, σ, R, sr, gr, q, k⟩ =>
    ⟨η, S, σ, _, sr, gr, q, fun d S1 η1 H1 v q1 g1 gr1 r1 => ⟨η1, S1, σ, _, sr.grow g1, gr1, q1, fun a S2 η2 H2 q2 g2 gr2 => ⟨η2, S2, σ, _, (sr.grow g1).grow g2, gr2, q2, fun b S3 η3 H3 q3 g3 gr3 =>
      ⟨η3, S3, σ, _, ((sr.grow g1).grow g2).grow g3, gr3, q3, fun c S4 η4 H4 w q4 g4 gr4 r4 => by
        cases r4 with
        | int i => exact ⟨i, rfl, η4, S4, d, i, R, rfl, gr4, ((r1.grow g2).grow g3).grow g4, q4, k.grow (((g1.trans g2).trans g3).trans g4)⟩
        | _ => exact q4.elim⟩⟩⟩⟩
/-- text * int -/
def oMulS : GO2 := fun x y S Q => match x, y with
  | .str z, .int n => 1 < n ∧ n ≤ 16777216 ∧ 0 < z.length ∧ z.length * n.toNat ≤ 16777216 ∧ Q (.str ⟨(List.replicate n.toNat z.cps.toList).flatten.toArray⟩) S
  | _, _ => False
theorem rep_flat (z : Array Nat) : ∀ (n : Nat) (acc : Array Nat), ((List.replicate n z).foldl (fun a b => a ++ b) acc) = acc ++ (List.replicate n z.toList).flatten.toArray
  | 0, acc => by simp
  | n + 1, acc => by
    rw [List.replicate_succ, List.foldl_cons, rep_flat z n, List.replicate_succ, List.flatten_cons]
    apply Array.ext'
    simp
theorem lo_mulS : OpR X (binaryOp .Mult) (LO2 X.K oMulS) := by
  intro pins s σ H x y v u Q I rx ry ⟨η, S, d, e, R, gr, r1, r2, q, k⟩
  cases r1 with
  | str z => cases r2 with
    | int n =>
      obtain ⟨n1, n2, z0, hz, q⟩ := q
      obtain ⟨t, rfl⟩ := rx
      obtain ⟨t2, rfl⟩ := ry
      have hc : (n == 1 || z.length == 0) = false := by
        rw [Bool.or_eq_false_iff]; exact ⟨by simp; omega, by simp; omega⟩
      refine PySem.SB.mul ⟨?_, fun _ _ => ?_, fun _ _ => ?_⟩ fun t' j => ⟨.str (Txt.mul z n), H, I.tok j, ⟨t', rfl⟩, ?_⟩
      · rw [Bool.or_eq_false_iff]; exact ⟨decide_eq_false (by omega), decide_eq_false (by omega)⟩
      · have : (z.length : Int) ≤ (2 ^ 63 - 1) / n := by
          refine (Int.le_ediv_iff_mul_le (by omega)).mpr ?_
          have h3 : ((z.length * n.toNat : Nat) : Int) ≤ 16777216 := by omega
          rw [Int.natCast_mul] at h3
          have h4 : ((n.toNat : Nat) : Int) = n := by omega
          rw [h4] at h3
          have h5 : (16777216 : Int) ≤ 2 ^ 63 - 1 := by omega
          exact Int.le_trans h3 h5
        omega
      · have e : decide (z.length * n.toNat > sizeLine) = false := by
          exact decide_eq_false (by first | (rw [sizeLine_eq]; omega) | (show ¬ _; simp only [sizeLine_eq]; omega))
        exact e
      · have e : Txt.mul z n = ⟨(List.replicate n.toNat z.cps.toList).flatten.toArray⟩ := by
          unfold Txt.mul
          rw [if_neg (by omega), if_neg (by rw [hc]; decide)]
          rw [rep_flat]
          simp
        rw [e]
        exact k _ S η H _ q .refl gr (.str _)
    | _ => exact q.elim
  | _ => exact q.elim
end
end Gh

/-! Hc: facts of exception classes, and their __init__. -/
namespace Gh
open PySem PySem.Spec PyProof.Rows L2
variable [TabsC]
theorem hu65 {k : Nat} {A : Around} (r : Rm k A) : A.units + 65 < cLine := by have := r.rm.un; omega
def isiEx (l : List (Addr × Bool)) : Addr → Option Bool := fun C => l.lookup C
theorem isiEx_cons {a C : Addr} {b d : Bool} {l : List (Addr × Bool)} (h : isiEx ((a, d) :: l) C = some b) : (C = a ∧ d = b) ∨ isiEx l C = some b := by
  simp only [isiEx, List.lookup] at h ⊢
  split at h
  · rename_i e; cases h; exact .inl ⟨eq_of_beq e, rfl⟩
  · exact .inr h
section
variable {X : Cx} {B : Bs}
theorem get_replL {o : Expr} {to : GE} {y z y' z' : Str} {j k : Nat} {c0 c1 apos pos : Pos} (e : y = y' ∧ z = z') (hyz : (y == z) = false) (ho : GPE X B o to)
    (hst : starEach [.Constant (.str y) j c0, .Constant (.str z) k c1] X.env = [(false, eval (.Constant (.str y) j c0) X.env), (false, eval (.Constant (.str z) k c1) X.env)] := by rfl)
    (hbase : attributeBase o "replace" X.env (eval o X.env) = eval o X.env := by rfl) (hline : (apos.endLine == pos.line) = true := by rfl) :
    GPET X B (.Call (.Attribute o "replace" apos) [.Constant (.str y) j c0, .Constant (.str z) k c1] [] pos) (gRepl to y' z') := by
  obtain ⟨rfl, rfl⟩ := e
  exact get_repl ho hyz hst hbase hline
end

section
variable {K : PySem.W.Frag}
def fEx0 (x : Str) (K : PySem.W.Frag) : Bool :=
  PySem.W.excIn K (He.ga K x) He.veBase "ValueError.__new__" && (PySem.W.keepIn K (.ref (He.ga K x)) && (decide (PySem.W.subIn K (.ref (He.ga K x)) (.type "BaseException") = some true) && decide (PySem.W.typeIn K (.ref (He.ga K x)) = some (.type "type"))))
theorem ex0_ok {x : Str} (c : fEx0 x K = true) : Ex0 K (He.ga K x) := by
  simp only [fEx0, Bool.and_eq_true] at c
  exact ⟨c.1, c.2.1, of_decide_eq_true c.2.2.1, of_decide_eq_true c.2.2.2⟩
def fExI (x : Str) (K : PySem.W.Frag) : Bool :=
  eqV (PySem.W.findIn K (.ref (He.ga K x)) "__getattribute__") (some (some (.builtin "BaseException.__getattribute__"))) && (eqV (PySem.W.findIn K (.ref (He.ga K x)) "__getattr__") (some none) &&
  (decide (PySem.W.subIn K (.ref (He.ga K x)) (.type "BaseException") = some true) && (PySem.W.hasDictIn K (He.ga K x) && (eqV (PySem.W.findIn K (.ref (He.ga K x)) "__class__") (some (some (.builtin "object.__class__"))) &&
  (eqV (PySem.W.specialIn K (.builtin "object.__class__") "__get__") (some (some (.builtin "getset_descriptor.__get__"))) && (decide (PySem.W.takesIn K (.builtin "object.__class__") = some true) && decide (PySem.W.mroIn K (He.ga K x) (.type "object") = some true)))))))
theorem exI_ok {x : Str} (c : fExI x K = true) : ExI K (He.ga K x) := by
  simp only [fExI, Bool.and_eq_true] at c
  obtain ⟨h1, h2, h3, h4, h5, h6, h7, h8⟩ := c
  exact ⟨eqV_ok h1, eqV_ok h2, of_decide_eq_true h3, h4, eqV_ok h5, eqV_ok h6, of_decide_eq_true h7, of_decide_eq_true h8⟩
def fOex (x : Str) (K : PySem.W.Frag) : Bool :=
  oexB K (He.ga K x) && (eqV (PySem.W.findIn K (.ref (He.ga K x)) "__setattr__") (some (some (.builtin "object.__setattr__"))) && (PySem.W.keepIn K (.ref (He.ga K x)) && (decide (PySem.W.subIn K (.ref (He.ga K x)) (.type "BaseException") = some true) && decide (PySem.W.typeIn K (.ref (He.ga K x)) = some (.type "type")))))
theorem oex_ok {x : Str} (c : fOex x K = true) : OexC K (He.ga K x) := by
  simp only [fOex, Bool.and_eq_true] at c
  obtain ⟨h1, h2, h3, h4, h5⟩ := c
  exact ⟨oexB_ok h1, eqV_ok h2, of_decide_eq_true h4, of_decide_eq_true h5, h3⟩
/-- what the three classes catch -/
def fExm (x a b d : Str) (K : PySem.W.Frag) : Bool := decide (PySem.W.exmAny K (.ref (He.ga K x)) [.ref (He.ga K a), .ref (He.ga K b), .ref (He.ga K d)] = some true)
theorem exm_ok {x a b d : Str} (c : fExm x a b d K = true) : PySem.W.exmAny K (.ref (He.ga K x)) [.ref (He.ga K a), .ref (He.ga K b), .ref (He.ga K d)] = some true := of_decide_eq_true c
def fFnT (x m : Str) (K : PySem.W.Frag) : Bool := eqV (PySem.W.findIn K (.ref (He.ga K x)) m) (some (some (.ref (He.ma K (He.ga K x) m)))) && decide (PySem.W.typeIn K (.ref (He.ma K (He.ga K x) m)) = some (.type "function"))
theorem fnT_ok {x m : Str} (c : fFnT x m K = true) : PySem.W.findIn K (.ref (He.ga K x)) m = some (some (.ref (He.ma K (He.ga K x) m))) ∧ PySem.W.typeIn K (.ref (He.ma K (He.ga K x) m)) = some (.type "function") := by
  simp only [fFnT, Bool.and_eq_true] at c
  exact ⟨eqV_ok c.1, of_decide_eq_true c.2⟩
end
section
variable {P : Program} {w : World} {K : PySem.W.Frag} {mg : Str → Option Value} {base : Heap} {x qual : Str} {params : Arguments} {body : List Stmt} {scope : Scope} {f : Addr} {fd : FuncData}
/-- def __init__(self, f): self.f = f -/
theorem ini_ok {fl : Str} {p1 p2 p3 pos : Pos} (F : FunD K x qual params [.Assign [.Attribute (.Name "self" p1) fl p2] (.Name fl p3) pos] scope [] [] f fd) (Sc : FnScope ["self", fl] ["self", fl] scope)
    (h0 : scope.names.lookup ("self" : Str) = some .local) (h1 : scope.names.lookup fl = some .local) (d0 : (fl == ("__debug__" : Str)) = false) (d1 : (fl == ("__classdict__" : Str)) = false) :
    FnOk P w K mg base L2.CX0 1 f fd ["self", fl] (spE K fl) :=
  F.ok Sc (fun vs H Q E ⟨a, C, v, e, _⟩ => by rw [e]; rfl) fun cdv A outer s H vs Q E hr ⟨a, C, v, e, ox, no, ha, q⟩ => by
    subst e
    refine ⟨_, pss_cons (ps_ost (pe_var (i := 0) rfl (.inl h0)) (pe_var (i := 1) rfl (.inl h1) d0 d1)) pss_nil, ?_⟩
    refine ⟨v, rfl, .ref a, rfl, a, C, rfl, ox, no, .inl ⟨ha, fun dx h1 h2 => q dx h1 h2⟩⟩
end
end Gh

/-! Hd: a def that is handed a lambda, calls it within a try, and tells what came out. -/
namespace Gh
open PySem PySem.Spec PyProof.Rows L2
variable [TabsC]

/-- the lambda's body, from what is wanted of exceptions -/
abbrev GDeed := GX → SS → GQ → Prop
/-- the call of what was handed over -/
def gAct (f : Addr) (dd : GDeed) (X : Sl → GX) : GE := fun σ S Q => σ[0]? = some (some (.ref f)) ∧ dd (X σ) S Q
/-- g(lambda: t), b: the reading of g's body -/
def gLam (N : List Str) (b : Addr → GDeed → GS) (t : (Sl → GX) → GE) : GE := fun σ S Q => ∀ f : Addr, b f (fun G S' Q' => t (fun _ => G) σ S' Q') ⟨fun _ S' => Q .non S', Q, fun _ _ => False, fun _ _ => False⟩ (startG N [.ref f]) S

section
variable {X : Cx} {pins : List (Addr × Obj)} {τ : L2.St} {H : Hp} {s : Shared}
/-- the context of the def that was handed the lambda -/
abbrev toldCx (X : Cx) (N : List Str) (x : Str) (sc : Scope) (g : Addr) (cv : Value) (s : Shared) (H : Hp) : Cx := cxOf C8.CX0 X.prog X.w X.K X.mg X.base N x sc g cv X.A X.stack s H C8.E0
/-- the handed lambda is called; what is wanted of exceptions may know the slots -/
theorem pe_deed {N : List Str} {x a : Str} {sc scope : Scope} {g f code' : Addr} {cv pm ctv : Value} {params : Arguments} {body : Expr} {k i : Nat} {pn : List (Addr × Obj)} {xe : Value → Shared → Prop} {W : WX} {tb : XK → TE} {p1 p2 : Pos}
    (I : Inv X pins τ H s) (L : LamX.LamS X.env.scope scope) (hf : s.heap.get? f = some (PySem.W.kla_obj "<lambda>" (X.env.qual ++ "<lambda>") params body scope (cloFrom X.env.cells scope.names []) pm code' ctv)) (hfn : H f = none) (hfr : f ∉ frs X.stack)
    (bind : bindArgs (PySem.W.kla_fn "<lambda>" (X.env.qual ++ "<lambda>") params body scope (cloFrom X.env.cells scope.names []) pm (.ref code') ctv) ⟨[], []⟩ = pure [])
    (tk : Takes ((toldCx X N x sc g cv s H).tr pn xe) W) (room : Room (k + 1) (X.A.deeper (envOfC x sc s.heap.objs.size g cv)))
    (hb : ∀ (E : XK) (A : Around) (ou : List Env) (s1 : Shared) (H1 : Hp), A.guards = X.A.guards → Room k (A.deeper (LamX.lamEnv X scope s1.heap.objs.size f code')) → PE (LamX.lamCx X A ou s1 H1 E scope f code') body (tb E))
    (hN : N[i]? = some a) (vis : Vis sc a) (hd : (a == ("__debug__" : Str)) = false) (hc : (a == ("__classdict__" : Str)) = false) :
    PE ((toldCx X N x sc g cv s H).tr pn xe) (.Call (.Name a p1) [] [] p2) (fun τ1 H1 Q => ∃ E : XK, (∀ cls d H', E cls d H' → W cls d τ1 H') ∧ τ1[i]? = some (some (.ref f)) ∧ H1 code' = some (LamX.CodeO code' (X.env.qual ++ "<lambda>")) ∧ tb E τ H1 Q) := by
  refine ⟨fun pins1 st1 τ1 H1 Q J ⟨E, hW, hs, hco, ht⟩ => ?_⟩
  refine wpAny_Call_Name_kw (thn ((pe_var (pos := p1) (i := i) hN vis hd hc).run pins1 st1 τ1 H1 (fun v H2 => v = .ref f ∧ H2 = H1) J ⟨.ref f, hs, rfl, rfl⟩) fun u st2 ⟨v, H2, J2, ru, ev, eH⟩ => ?_)
  subst ev eH
  obtain rfl : u = Value.ref f := ru
  have atf : st2.heap.get? f = some (PySem.W.kla_obj "<lambda>" (X.env.qual ++ "<lambda>") params body scope (cloFrom X.env.cells scope.names []) pm code' ctv) := J2.base.keep f _ hf hfn hfr fun z => nomatch (show f ∈ ([] : List Addr) from z)
  refine PySem.W.callWith_F0 ⟨_, _, _, _, atf⟩ ?_
  have unB : Un (frs X.stack) [] H H2 s.heap st2.heap := J2.base
  obtain ⟨⟨oc, ws, tt, c1, c2, c3⟩, _, _⟩ := J2.hok code' _ hco
  have run : codeAny (model X.prog X.w) (X.A.deeper (envOfC x sc s.heap.objs.size g cv)) (.call (.ref f) ⟨[], []⟩) (CR (L2.CX X.prog X.w) (envOfC x sc s.heap.objs.size g cv :: X.stack) X.prog X.w H2 st2 Q E) st2 := by
    refine PySem.W.kla_callFunE room.depth atf rfl L.co L.gen rfl ⟨code', oc, ws, tt, rfl, c1, c2, c3⟩ ?_
    rw [bind]
    refine wpAny_pure (wpAny_newFunctionEnv (fun y hy => (L.own y hy).2) (fun y hy => absurd hy (by simp)) (fun h3 ns3 sb3 => ⟨J2.nolimit.fresh _ sb3, ?_⟩) L.kind)
    have kept : ∀ b o, st2.heap.get? b = some o → h3.get? b = some o := fun b o e => sb3.extBut b o (Nat.ne_of_lt (Heap.lt_size e)) (Heap.get?_push_of_some _ e)
    have J3 := LamX.lam_start2 (f := f) (c' := code') (E := E) (tk := st2.toks + ([] : List (Str × Value)).length) I L J2.env0 room.hd unB ns3 kept
    show codeAny _ _ (.expr body (LamX.lamEnv X scope st2.heap.objs.size f code')) _ _
    refine PySem.W.kla_codeExpr (wpAny_mono ((hb E (X.A.deeper (envOfC x sc s.heap.objs.size g cv)) (envOfC x sc s.heap.objs.size g cv :: X.stack) st2 H2 rfl (room.deeper _)).run [] _ _ H2 Q J3 ht) (fun v st4 z => ?_) fun _ _ z => z)
    obtain ⟨w4, H4, J4, rv, q⟩ := z
    exact ⟨w4, H4, J4.os, J4.bare, J4.base, J4.hok, rv, q⟩
  refine wpAny_call (codeAny_mono run fun r st4 z => ?_)
  cases r with
  | error e => exact tk e st4 (XE.of_call J2 (fun cls d H' h => hW cls d H' h) z)
  | ok fl =>
    cases fl with
    | ret u => exact J2.after z
    | next => exact z.elim
    | brk => exact z.elim
    | cont => exact z.elim
end
/-- the body of the def that is handed a lambda: the parameter a is only called -/
def Handed (X : Cx) (k : Nat) (N : List Str) (x : Str) (sc : Scope) (g : Addr) (cv : Value) (bd : List Stmt) (a : Str) (b : Addr → GDeed → GS) : Prop :=
  ∀ (f : Addr) (s : Shared) (H : Hp) (B : Bs) (dd : GDeed), Rm k (X.A.deeper (envOfC x sc s.heap.objs.size g cv)) →
    (∀ (B' : Bs) (E : Sl → GX) (pn : List (Addr × Obj)) (xe : Value → Shared → Prop) (p1 p2 : Pos), Grow B.1 B.2 B'.1 B'.2 → Tk ((toldCx X N x sc g cv s H).tr pn xe) B' E → GPE ((toldCx X N x sc g cv s H).tr pn xe) B' (.Call (.Name a p1) [] [] p2) (gAct f dd E)) →
    GPSs (toldCx X N x sc g cv s H).nox B bd (b f dd)
section
variable {X : Cx} {B : Bs}
theorem gr_ext {K : PySem.W.Frag} {η : List Addr} {S : SS} {H H1 : Hp} (gr : GR K η S H) (e : LamX.ExtN H H1) (t : LamX.Tabs (TabsC.tt K) H1) : GR K η S H1 ∧ Grow η H η H1 := by
  have g : Grow η H η H1 := ⟨⟨[], by simp⟩, fun b xs q => e b _ q (fun ps z => nomatch z), fun b o u q => e b _ q (fun ps z => nomatch z), fun b us q => e b _ q (fun ps z => nomatch z), fun b q z => e b _ z LamX.codeO_ne⟩
  refine ⟨⟨gr.len, gr.nd, fun k a o e1 e2 => ?_, t⟩, g⟩
  have r := gr.at_ k a o e1 e2
  obtain ⟨u, hu, nt⟩ := r.noTab
  exact r.grow g ((e a u hu nt).trans hu.symm)
theorem ge_lam {x a : Str} {g c P : Addr} {k : Nat} {pg : Arguments} {bd : List Stmt} {sg scope : Scope} {fd : FuncData} {N : List Str} {params : Arguments} {body : Expr} {b : Addr → GDeed → GS} {t : (Sl → GX) → GE} {p lpos pos : Pos}
    (hm : X.mg x = some (.ref g)) (hk : PySem.W.keepIn X.K (.ref g) = true) (F : FunD X.K x x pg bd sg [] [] g fd) (bnd : Binds X.K fd [a] []) (Sc : FnScope N [a] sg) (hN : N[0]? = some a) (vis : Vis sg a)
    (told : ∀ cv, Handed X (k + 1) N x sg g cv bd a b)
    (TB : LamX.TabB X.base X.mg c P) (code : X.env.code = .ref c) (inT : (P, X.env.qual ++ "<lambda>") ∈ TabsC.tt X.K) (one : ∀ p ∈ TabsC.tt X.K, p.1 = P → p.2 = X.env.qual ++ "<lambda>") (room : Rm (k + 2) X.A) (L : LamX.LamS X.env.scope scope)
    (hb : ∀ (A : Around) (ou : List Env) (s : Shared) (H : Hp) (E : XK) (f code' : Addr) (B' : Bs) (G : GX), Rm k (A.deeper (LamX.lamEnv X scope s.heap.objs.size f code')) → Tk (LamX.lamCx X A ou s H E scope f code') B' (fun _ => G) → GPE (LamX.lamCx X A ou s H E scope f code') B' body (t fun _ => G))
    (nodf : defaultsOf params X.env = ([], []) := by rfl) (bind : ∀ (q : Str) (cl : List (Str × Addr)) (pm cv ctv : Value), bindArgs (PySem.W.kla_fn "<lambda>" q params body scope cl pm cv ctv) ⟨[], []⟩ = pure [] := by intros; rfl)
    (hg : Gl X x := by rfl) (d1 : (x == ("__debug__" : Str)) = false := by decide) (d2 : (a == ("__debug__" : Str)) = false := by decide) (d3 : (a == ("__classdict__" : Str)) = false := by decide) :
    GPE X B (.Call (.Name x p) [.Lambda params body scope lpos] [] pos) (gLam N b t) := by
  obtain ⟨oc, od, dV, kV, doc, pm, an, cv, ct, osl, rfl, look, cin, _, _⟩ := F.ex
  refine ⟨fun pins s τ H Q I ⟨η, S, σ, R, sg1, gr, q, ko⟩ => ?_⟩
  refine wpAny_Call_Name_kw (ld_glob I hg hm ?_ d1)
  refine PySem.W.callWith_K (h₀ := X.base) I.ok.mod.kin hk ?_ (by rfl) (by rfl)
  show wpAny _ _ (spliced ((false, eval (.Lambda params body scope lpos) X.env) :: backTo pos (starEach [] X.env))) _ _ s
  refine Calls.spliced_cons (LamX.lam_make2 I TB code inT one gr.tb nodf (L.has I.ok) fun f code' pm' ctv H1 st1 I1 ext tabs atf nf nfr hco => ?_)
  obtain ⟨gr1, g1⟩ := gr_ext gr ext tabs
  refine Calls.spliced_nil ⟨I1.kIn, ?_⟩
  have run : codeAny (model X.prog X.w) X.A (.call (.ref g) ⟨[.ref f], []⟩) (CR C8.CX0 X.stack X.prog X.w H1 st1 Q C8.E0) st1 := by
    refine LamX.run_ofS (k := k + 1) (N := N) (ps := [a]) (us := [.ref f]) (vs := [.ref f]) look cin Sc room.rm I1.env0 (bnd st1 [.ref f] I1.kIn rfl) (.cons rfl .nil) rfl fun room2 => ?_
    let dd : GDeed := fun G S' Q' => t (fun _ => G) σ S' Q'
    refine ⟨_, PSs.nox (told cv f st1 H1 (η, H1) dd ⟨room2, room.gd⟩ fun B' E pn xe p1 p2 up tk => ?_), η, S, startG N [.ref f], _, ⟨.refl, sr_start (.cons (.ref f) .nil) N⟩, gr1, q f, ?_⟩
    · have deed := pe_deed (X := X) (N := N) (x := x) (sc := sg) (g := g) (cv := cv) (k := k) (i := 0) (pn := pn) (xe := xe) (p1 := p1) (p2 := p2) (tb := fun Ex τ2 H2 Q2 => ∃ η2 S2 R2 G2, SR X.K η2 H2 σ τ2 ∧ GR X.K η2 S2 H2 ∧ t (fun _ => G2) σ S2 R2 ∧ Ko X.K η2 H2 R2 Q2 ∧ KoX X.K η2 H2 G2 Ex)
        I1 L atf nf nfr (bind _ _ _ _ _) tk room2 (fun Ex A ou s1 H3 gu rm => ⟨fun pins3 s3 τ3 H4 Q3 I3 ⟨η2, S2, R2, G2, sr2, gr2, q2, ko2, kx2⟩ => by
          have tk3 : Tk (LamX.lamCx X A ou s1 H3 Ex scope f code') (η2, H4) (fun _ => G2) := by
            refine Takes.imp (takes_of rfl rfl rfl rfl) ?_
            rintro cls d τ5 H5 ⟨C, fs, η5, S5, σ5, rfl, sg5, gr5, pay, h5⟩
            exact kx2 C fs S5 η5 H5 d h5 sg5.up gr5 pay
          exact (hb A ou s1 H3 Ex f code' (η2, H4) G2 ⟨rm, gu.trans room.gd⟩ tk3).run pins3 s3 τ3 H4 Q3 I3 ⟨η2, S2, σ, R2, ⟨.refl, sr2⟩, gr2, q2, ko2⟩⟩) hN vis d2 d3
      refine ⟨fun pins6 s6 τ6 H6 Q6 I6 ⟨η6, S6, σ6, R6, sg6, gr6, ⟨h0, q6⟩, ko6⟩ => deed.run pins6 s6 τ6 H6 Q6 I6 ⟨WE (LX X.K B' E) τ6, fun cls d H' z => z, ?_, ?_, η6, S6, R6, E σ6, ?_, gr6, q6, ko6, kox_at sg6⟩⟩
      · obtain ⟨v, hv, rv⟩ := sg6.get h0
        cases rv
        exact hv
      · exact (up.trans sg6.up).cods _ _ hco
      · exact (sg1.sr.grow g1).grow (up.trans sg6.up)
    · have ko1 : Ko X.K η H1 R Q := ko.grow g1
      exact ⟨fun σ' S' η' H' τ' q' g' _ gr' => ko1 .non S' η' H' .non q' g' gr' .non, ko1, fun _ _ _ _ _ z => z.elim, fun _ _ _ _ _ z => z.elim⟩
  refine wpAny_call (codeAny_mono run fun r st2 z => ?_)
  cases r with
  | error e => exact (show False from z).elim
  | ok fl =>
    cases fl with
    | ret u => exact I1.after z
    | next => exact z.elim
    | brk => exact z.elim
    | cont => exact z.elim
end
theorem oneT {l : List (Addr × Str)} {P : Addr} {q : Str} (h : (l.map (·.1)).Nodup) (hm : (P, q) ∈ l) : ∀ p ∈ l, p.1 = P → p.2 = q := by
  induction l with
  | nil => exact fun p hp => nomatch hp
  | cons a l ih =>
    rw [List.map_cons, List.nodup_cons] at h
    intro p hp e
    rcases List.mem_cons.mp hm with rfl | hm'
    · rcases List.mem_cons.mp hp with rfl | hp'
      · rfl
      · exact absurd (List.mem_map.mpr ⟨p, hp', e⟩) h.1
    · rcases List.mem_cons.mp hp with rfl | hp'
      · exact absurd (List.mem_map.mpr ⟨_, hm', e.symm⟩) h.1
      · exact ih h.2 hm' p hp' e
end Gh

/-! Hf: the head and the end of a law whose defs hold lambdas: the tables of their code objects stand apart. -/
namespace Gh
open PySem PySem.Spec PyProof.Rows L2

/-- the objects that the module's names reach, the empty tables left out -/
def topT (g : Addr → Option Obj) (n : Nat) : PySem.W.Frag := He.frT g (cStatics :: levG g n [mainGlobals])
/-- the code object of the function at f, and its table -/
def codeT (K : PySem.W.Frag) (f : Addr) : Addr × Addr := match codeOf K f with
  | some (.ref c) => (match K.lookup c with
    | some o => (match o.data with
      | .fields vs => (match (vs[11]? : Option Value) with
        | some (.ref P) => (c, P)
        | _ => (0, 0))
      | _ => (0, 0))
    | none => (0, 0))
  | _ => (0, 0)
theorem codeT_of {K : PySem.W.Frag} {f : Addr} {cv : Value} (h : codeOf K f = some cv) (ok : PySem.W.codeHdIn K (codeT K f).1 (codeT K f).2 = true) : cv = .ref (codeT K f).1 := by
  have no : PySem.W.codeHdIn K 0 0 = true → False := by
    intro e
    unfold PySem.W.codeHdIn at e
    split at e
    · simp at e
    · cases e
  unfold codeT at ok ⊢
  rw [h] at ok ⊢
  cases cv with
  | ref c =>
    simp only at ok ⊢
    cases hk : K.lookup c with
    | none => rw [hk] at ok; exact (no ok).elim
    | some o =>
      rw [hk] at ok
      simp only at ok ⊢
      cases hd : o.data with
      | fields vs =>
        rw [hd] at ok
        simp only at ok ⊢
        cases hv : (vs[11]? : Option Value) with
        | none => rw [hv] at ok; exact (no ok).elim
        | some u =>
          rw [hv] at ok
          cases u with
          | ref P => rfl
          | _ => exact (no ok).elim
      | _ => rw [hd] at ok; exact (no ok).elim
  | _ => exact (no ok).elim
def tabsG (g : Addr → Option Obj) (tn : List (PySem.W.Frag → Addr)) (K : PySem.W.Frag) : Bool := tn.all fun d => PySem.W.codeHdIn K (codeT K (d K)).1 (codeT K (d K)).2 && (match g (codeT K (d K)).2 with
  | some o => He.emptyTab o
  | none => false)
/-- the tables of these defs: empty, not of K -/
def TabsL (tn : List (PySem.W.Frag → Addr)) (K : PySem.W.Frag) (h : Heap) : Prop := ∀ d ∈ tn, PySem.W.codeHdIn K (codeT K (d K)).1 (codeT K (d K)).2 = true ∧ K.lookup (codeT K (d K)).2 = none ∧ h.get? (codeT K (d K)).2 = some { cls := .none, data := .fields #[] }
abbrev SeenX : Type := SeenT × Bool
def seeX (n : Nat) (fa : List (PySem.W.Frag → Bool)) (fn : List Df) (tn : List (PySem.W.Frag → Addr)) (g : Addr → Option Obj) : SeenX := (see fa fn (topT g n), tabsG g tn (topT g n))
theorem tabsL_of {n : Nat} {tn : List (PySem.W.Frag → Addr)} {h : Heap} (e : tabsG h.get? tn (topT h.get? n) = true) : TabsL tn (topT h.get? n) h := by
  intro d hd
  have q := List.all_eq_true.mp e d hd
  simp only [Bool.and_eq_true] at q
  obtain ⟨q1, q2⟩ := q
  cases ho : h.get? (codeT (topT h.get? n) (d (topT h.get? n))).2 with
  | none => rw [ho] at q2; cases q2
  | some o =>
    rw [ho] at q2
    exact ⟨q1, He.frT_none ho q2, by rw [He.emptyTab_eq q2]⟩
def hookT (n : Nat) (fa : List (PySem.W.Frag → Bool)) (fn : List Df) (tn : List (PySem.W.Frag → Addr)) : PySem.W.Hook where
  α := SeenX
  obs := fun s => seeX n fa fn tn s.heap.get?
  val := fun _ => (dueS fn, true)
  says := fun _ h => ∃ K : PySem.W.Frag, K.In h ∧ Left fa fn K ∧ TabsL tn K h
  of := fun _ _ e => ⟨_, He.frT_in, congrArg (fun z : SeenX => z.1) e, tabsL_of (congrArg (fun z : SeenX => z.2) e)⟩
  keeps := fun _ _ _ ⟨K, i, c, t⟩ k => ⟨K, i.keeps k, c, fun d hd => ⟨(t d hd).1, (t d hd).2.1, k _ _ (t d hd).2.2⟩⟩
def obT (n : Nat) (fa : List (PySem.W.Frag → Bool)) (fn : List Df) (tn : List (PySem.W.Frag → Addr)) (s : PySem.W.SharedT) : SeenX := seeX n fa fn tn (HandSHeadRun.getT s)
theorem obT_eq {n : Nat} {fa : List (PySem.W.Frag → Bool)} {fn : List Df} {tn : List (PySem.W.Frag → Addr)} (s : PySem.W.SharedT) : obT n fa fn tn s = (hookT n fa fn tn).obs s.abs := by
  have e : HandSHeadRun.getT s = s.abs.heap.get? := funext (HandSHeadRun.getT_eq s)
  unfold obT
  rw [e]
  rfl

/-- nothing but the script and empty tables is tracked -/
def OnlyT (ts : List Addr) (H : Hp) : Prop := ∀ b, H b = none ∨ (b ∈ ts ∧ H b = some (.tbl #[])) ∨ ∃ ob ys, H b = some (.frz ob (.lst ys))
theorem law_runT {P : Program} {w : World} {K : PySem.W.Frag} {mg mb : Str → Option Value} {k : Nat} {fl scr : Addr} {fd : FuncData} {par : Str} {sp : Sp} {st : Shared} {us : List Value} {ns : List Int} {ct : List (Addr × Addr)}
    (kin : K.In st.heap) (nsM : st.heap.Ns mainGlobals mg) (nsB : st.heap.Ns builtinsNs mb) (boot : ∀ y : Str, y ≠ "__name__" → mb y = bootBuiltins y) (lim : st.heap.NoLimit) (gens : st.gens = #[])
    (bmn : ∃ (bm : Addr) (ob : Obj), mg "__builtins__" = some (.ref bm) ∧ bm ≠ builtinsNs ∧ st.heap.get? bm = some ob ∧ ob.cls = .type "module" ∧ ob.dict = some builtinsNs ∧ ob.data = .plain)
    (tbs : ∀ p ∈ ct, PySem.W.codeHdIn K p.1 p.2 = true ∧ K.lookup p.2 = none ∧ st.heap.get? p.2 = some { cls := .none, data := .fields #[] })
    (hs : st.heap.get? scr = some { cls := .type "list", data := .seq us.toArray }) (nsi : IntsAre us ns) (le : ns.length ≤ sizeLine) (room : Rm k callerA)
    (F : ∀ base : Heap, K.In base → base.Ns mainGlobals mg → (∀ p ∈ ct, LamX.TabB base mg p.1 p.2) → GOk P w K mg base k fl fd [par] sp) (bd : ∀ (s : Shared) (u : Value), BindsTo s fd ⟨[u], []⟩ [(par, u)])
    (good : ∀ H : Hp, OnlyT (ct.map (·.2)) H → (∀ p ∈ ct, H p.2 = some (.tbl #[])) → SqL K H scr (ns.map V.int) → sp [.ref scr] H (fun v _ => v = .bl true) fun _ _ _ => False) :
    codeAny (model P w) callerA (.call (.ref fl) ⟨[.ref scr], []⟩) (fun r s' => r = .ok (.ret (.bool true)) ∧ OldK st.heap s'.heap ∧ s'.os = st.os ∧ AllBare s'.gens) st := by
  have rv := vals_ints nsi
  have atT : ∀ b, b ∈ ct.map (·.2) → st.heap.get? b = some { cls := .none, data := .fields #[] } ∧ K.lookup b = none := by
    intro b hb
    obtain ⟨p, hp, rfl⟩ := List.mem_map.mp hb
    exact ⟨(tbs p hp).2.2, (tbs p hp).2.1⟩
  have inT : ∀ p ∈ ct, p.2 ∈ ct.map (·.2) := fun p hp => List.mem_map.mpr ⟨p, hp, rfl⟩
  have scrT : scr ∉ ct.map (·.2) := fun z => by
    have q := (atT scr z).1
    rw [hs] at q
    exact nomatch (show Data.seq us.toArray _ = Data.fields #[] from congrArg Obj.data (Option.some.inj q))
  have main : ∀ H : Hp, OnlyT (ct.map (·.2)) H → (∀ p ∈ ct, H p.2 = some (.tbl #[])) → SqL K H scr (ns.map V.int) → HOk P w H st.heap → (∀ b u, H b = some u → (b = scr ∧ K.lookup scr = none) ∨ b ∈ ct.map (·.2)) →
      codeAny (model P w) callerA (.call (.ref fl) ⟨[.ref scr], []⟩) (fun r s' => r = .ok (.ret (.bool true)) ∧ OldK st.heap s'.heap ∧ s'.os = st.os ∧ AllBare s'.gens) st := by
    intro H only tabs sq hok at_
    have untr : ∀ {b : Addr} {o : Obj}, st.heap.get? b = some o → (∀ v n, o.data ≠ .seq v n) → o.data ≠ .fields #[] → H b = none := by
      intro b o e n1 n2
      cases q : H b with
      | none => rfl
      | some u =>
        rcases at_ b u q with ⟨rfl, _⟩ | z
        · rw [hs] at e
          cases e
          exact (n1 _ _ rfl).elim
        · rw [(atT b z).1] at e
          cases e
          exact (n2 rfl).elim
    have nsH : ∀ {b : Addr} {m : Str → Option Value}, st.heap.Ns b m → (hidT st.heap H).Ns b m := by
      rintro b m ⟨o, es, ep, e, dd, r⟩
      exact ⟨o, es, ep, hidT_get e (untr e (fun v n z => nomatch dd.symm.trans z) fun z => nomatch dd.symm.trans z), dd, r⟩
    have kinH : K.In (hidT st.heap H) := by
      intro b o e
      refine hidT_get (kin b o e) ?_
      cases q : H b with
      | none => rfl
      | some u =>
        rcases at_ b u q with ⟨rfl, no⟩ | z
        · rw [no] at e; cases e
        · rw [(atT b z).2] at e; cases e
    have tB : ∀ p ∈ ct, LamX.TabB (hidT st.heap H) mg p.1 p.2 := by
      intro p hp
      have eP := (tbs p hp).2.2
      refine ⟨PySem.W.codeHd_of_K kinH (tbs p hp).1, ?_, ?_⟩
      · obtain ⟨bm, ob, b1, b2, b3, b4, b5, b6⟩ := bmn
        have ng : bm ≠ mainGlobals := by
          rintro rfl
          obtain ⟨o, es, ep, e, dd, _⟩ := nsM
          rw [b3] at e
          cases e
          exact nomatch b6.symm.trans dd
        have np : bm ≠ p.2 := by
          rintro rfl
          rw [b3] at eP
          cases eP
          exact nomatch b6
        exact ⟨bm, ob, b1, b2, ng, np, hidT_get b3 (untr b3 (fun v n z => nomatch b6.symm.trans z) fun z => nomatch b6.symm.trans z), b4, b5, b6⟩
      · intro z
        obtain ⟨o, es, ep, e, dd, _⟩ := nsM
        rw [z, eP] at e
        cases e
        exact nomatch dd
    obtain ⟨mc, c1, c2⟩ := lim
    have e0 : Env0 P w K mg (hidT st.heap H) callerA [] st H :=
      ⟨rfl, ⟨kinH, nsH nsM, ⟨mb, nsH nsB, boot⟩, ⟨mc, nsH c1, c2⟩⟩, fun _ _ e => of_hidT e, Nat.le_of_eq (hidT_size _ _), trivial, fun b z => by simp [frs] at z, hok, .of_eq gens⟩
    refine codeAny_mono ((F _ kinH (nsH nsM) tB).run callerA [] st H ⟨[.ref scr], []⟩ [.ref scr] [.ref scr] _ _ room e0 (bd st (.ref scr)) (.cons rfl .nil) (good H only tabs sq)) fun r s' z => ?_
    cases r with
    | error e => obtain ⟨_, _, _, _, _, _, _, _, _, _, _, _, z⟩ := z; exact z.elim
    | ok fw =>
      cases fw with
      | next => exact z.elim
      | brk => exact z.elim
      | cont => exact z.elim
      | ret u =>
        obtain ⟨v, H2, os, bare, un, hok2, ru, qv⟩ := z
        obtain rfl : v = .bl true := qv
        obtain rfl : u = Value.bool true := ru
        have stay : ∀ b o, b ∉ ct.map (·.2) → st.heap.get? b = some o → s'.heap.get? b = some o := by
          intro b o nb e
          cases q : H b with
          | none => exact un.keep b o e q (by simp [frs]) (by simp)
          | some t =>
            rcases only b with z | ⟨z, _⟩ | ⟨ob, ys, z⟩
            · rw [q] at z; cases z
            · exact absurd z nb
            · have k1 := (hok b _ z).1
              have k2 := (hok2 b _ (un.frzs b ob _ z)).1
              rw [e] at k1
              cases k1
              exact k2
        have tabNow : ∀ p ∈ ct, ∃ more : Array Value, s'.heap.get? p.2 = some { cls := .none, data := .fields more } := by
          intro p hp
          obtain ⟨more, z⟩ := un.tbls p.2 #[] (tabs p hp)
          exact ⟨_, hok2 p.2 _ z⟩
        refine ⟨rfl, ⟨fun b o e => ?_, fun b o e => ?_⟩, os, bare⟩
        · by_cases hb : b ∈ ct.map (·.2)
          · obtain ⟨p, hp, rfl⟩ := List.mem_map.mp hb
            obtain ⟨more, hm⟩ := tabNow p hp
            have eP := (tbs p hp).2.2
            rw [eP] at e
            cases e
            refine .inr (.inl ⟨((PySem.W.codeHd_of_K kin (tbs p hp).1).tab eP).isCodeTable, rfl, #[], more, rfl, ?_⟩)
            rw [Array.empty_append]
            exact hm
          · exact .inl (stay b o hb e)
        · by_cases hb : b ∈ ct.map (·.2)
          · obtain ⟨p, hp, rfl⟩ := List.mem_map.mp hb
            obtain ⟨more, hm⟩ := tabNow p hp
            exact ⟨_, hm⟩
          · exact ⟨o, stay b o hb e⟩
  cases kl : K.lookup scr with
  | some o =>
    have e := kin scr o kl
    rw [hs] at e
    cases e
    have one : ∀ b u, (fun b => if b ∈ ct.map (·.2) then some (HO.tbl #[]) else none : Hp) b = some u → b ∈ ct.map (·.2) ∧ u = .tbl #[] := by
      intro b u z
      by_cases hb : b ∈ ct.map (·.2)
      · exact ⟨hb, (Option.some.inj ((if_pos hb).symm.trans z)).symm⟩
      · exact nomatch (if_neg hb).symm.trans z
    refine main (fun b => if b ∈ ct.map (·.2) then some (HO.tbl #[]) else none) (fun b => ?_) (fun p hp => if_pos (inT p hp)) (.inr ⟨_, us.toArray, _, kl, rfl, rfl, rfl, by rw [List.size_toArray, nsi.length]; exact le, by simpa using rv⟩) (fun b u z => ?_) fun b u z => .inr (one b u z).1
    · by_cases hb : b ∈ ct.map (·.2)
      · exact .inr (.inl ⟨hb, if_pos hb⟩)
      · exact .inl (if_neg hb)
    · obtain ⟨hb, rfl⟩ := one b u z
      exact (atT b hb).1
  | none =>
    let ob : Obj := { cls := .type "list", data := .seq us.toArray }
    have one : ∀ b u, (fun b => if b = scr then some (HO.frz ob (.lst (ns.map V.int))) else if b ∈ ct.map (·.2) then some (HO.tbl #[]) else none : Hp) b = some u → (b = scr ∧ u = .frz ob (.lst (ns.map V.int))) ∨ (b ∈ ct.map (·.2) ∧ u = .tbl #[]) := by
      intro b u z
      by_cases hb : b = scr
      · exact .inl ⟨hb, (Option.some.inj ((if_pos hb).symm.trans z)).symm⟩
      · have z := (if_neg hb).symm.trans z
        by_cases hc : b ∈ ct.map (·.2)
        · exact .inr ⟨hc, (Option.some.inj ((if_pos hc).symm.trans z)).symm⟩
        · exact nomatch (if_neg hc).symm.trans z
    have neS : ∀ p ∈ ct, p.2 ≠ scr := fun p hp z => scrT (z ▸ inT p hp)
    refine main (fun b => if b = scr then some (HO.frz ob (.lst (ns.map V.int))) else if b ∈ ct.map (·.2) then some (HO.tbl #[]) else none) (fun b => ?_) (fun p hp => (if_neg (neS p hp)).trans (if_pos (inT p hp))) (.inl (.inr ⟨ob, if_pos rfl⟩)) (fun b u z => ?_) fun b u z => ?_
    · by_cases hb : b = scr
      · exact .inr (.inr ⟨ob, _, if_pos hb⟩)
      · by_cases hc : b ∈ ct.map (·.2)
        · exact .inr (.inl ⟨hc, (if_neg hb).trans (if_pos hc)⟩)
        · exact .inl ((if_neg hb).trans (if_neg hc))
    · rcases one b u z with ⟨rfl, rfl⟩ | ⟨hb, rfl⟩
      · exact ⟨hs, by rw [List.length_map]; exact le, us, _, rv, hs⟩
      · exact (atT b hb).1
    · rcases one b u z with ⟨rfl, rfl⟩ | ⟨hb, rfl⟩
      · exact .inl ⟨rfl, kl⟩
      · exact .inr hb
section
variable [TabsC]
theorem rol_ofT {K : PySem.W.Frag} {H : Hp} {a : Addr} {xs : List V} {ts : List Addr} (o : OnlyT ts H) (s : SqL K H a xs) : RoL K H a xs := by
  refine ⟨s, fun H' f => ?_⟩
  rcases s with (s | ⟨ob, s⟩) | s
  · rcases o a with z | ⟨_, z⟩ | ⟨ob, ys, z⟩
    · rw [s] at z; cases z
    · rw [s] at z; cases z
    · rw [s] at z; cases z
  · exact .inl (.inr ⟨ob, f _ _ _ s⟩)
  · exact .inr s
/-- the end of a law with lambdas: tn, the defs that hold them -/
theorem law_endT {law : PySem.W.OpenLaw} {most lvl : Nat} {view : Program} {lo : List Str} {XA : (Str → Option Value) → Heap → Prop} {YA : World → Heap → Prop} {rec_ : DefRec} {par : Str} (tn : List (PySem.W.Frag → Addr))
    (em : law.most = some most) (le : most ≤ sizeLine) (nod : rec_.params.defaults = []) (room : Rm lvl callerA)
    (W : ∀ (wo : World) (names : Str → Option Value) (fl : Addr) (hp : Heap), YA wo hp → hp.Ns mainGlobals names → names rec_.name = some (.ref fl) → ∃ (K : PySem.W.Frag) (fd : FuncData) (sp : GSp), K.In hp ∧ TabsL tn K hp ∧ (TabsC.tt K).map (·.1) = tn.map (fun d => (codeT K (d K)).2) ∧
      (∀ (st : Shared) (u : Value), BindsTo st fd ⟨[u], []⟩ [(par, u)]) ∧ (∀ ns : List Int, ns.length ≤ most → sp [.rol (ns.map .int)] [] (fun d _ => d = .bl true) fun _ _ _ => False) ∧
      ∀ base : Heap, K.In base → base.Ns mainGlobals names → (∀ d ∈ tn, LamX.TabB base names (codeT K (d K)).1 (codeT K (d K)).2) → GOk law.prog wo K names base lvl fl fd [par] (LSp K sp)) :
    PySem.W.WalkO view lo XA YA law.row.toRowW rec_ [] (fun f vs => PySem.call f vs) := by
  refine Att.attach_call em nod fun wo st0 st names mb fl ob pm cd dc scr us ns TT YY ho hd hcd hmg hobj hin hlen hgen => ?_
  obtain ⟨K, fd, sp, kin, tabs, same, bnd, good, ok⟩ := W wo names fl _ YY TT.T.g hmg
  refine law_runT (ct := tn.map fun d => codeT K (d K)) kin TT.T.g TT.T.b TT.T.builtins TT.T.nolimit hgen TT.T.bmain (fun p hp => ?_) hobj hin (Nat.le_trans hlen le) room (fun base kb nb tb => ok base kb nb fun d hd => tb _ (List.mem_map.mpr ⟨d, hd, rfl⟩)) bnd fun H o ts s => ?_
  · obtain ⟨d, hd, rfl⟩ := List.mem_map.mp hp
    exact tabs d hd
  · refine ⟨[], [], [.rol (ns.map .int)], _, _, ⟨rfl, List.nodup_nil, fun k a u e => by simp at e, fun p hp => ?_⟩, .cons (.rol (rol_ofT o s) (vrs_ints ns)) .nil, good ns hlen, fun d S' η' H' v q _ _ r => ?_, fun _ _ _ _ _ _ z => z.elim⟩
    · have : p.1 ∈ tn.map (fun d => (codeT K (d K)).2) := same ▸ List.mem_map.mpr ⟨p, hp, rfl⟩
      obtain ⟨d, hd, e⟩ := List.mem_map.mp this
      have z := ts _ (List.mem_map.mpr ⟨d, hd, rfl⟩)
      rw [e] at z
      exact .nil z
    · subst q
      cases r
      rfl
end
end Gh

/-! Hg: classmethods, class constants, a class held by a local name. -/
namespace Gh
open PySem PySem.Spec PyProof.Rows L2
variable [TabsC]
/-- o.f, f a constant of o's class -/
def gCon (ok : Addr → Prop) (f : Str) (d : D) (t : GE) : GE := fun σ S Q => t σ S fun x S1 => match x with
  | .obj k => (match S1[k]? with
    | some (.ins C fs) => ok C ∧ fs.lookup f = none ∧ Q d S1
    | _ => False)
  | _ => False
/-- c(e, ..), c a local name that holds the class -/
def gMakeV (i : Nat) (C : Addr) (sp : GSp) (X : Sl → GX) (u : GA) : GE := fun σ S Q => σ[i]? = some (some (.ref C)) ∧ gMake C sp X u σ S Q

/-! ### facts -/
def cmG (K : PySem.W.Frag) (x m : Str) : Addr := match PySem.W.recIn K (He.ma K (He.ga K x) m) "classmethod" with
  | some (.ref g :: _) => g
  | _ => 0
def isGet (p C : Addr) : Option PySem.W.CFound → Bool
  | some (.get (.builtin i) (.ref a) .none (.ref b)) => i == "classmethod.__get__" && (a == p && b == C)
  | _ => false
def fCRd (x : Str) (K : PySem.W.Frag) : Bool := PySem.W.readsIn K (He.ga K x) (.type "type") && eqV (PySem.W.specialIn K (.ref (He.ga K x)) "__getattribute__") (some (some (.builtin "type.__getattribute__")))
def fCMet (x m : Str) (K : PySem.W.Frag) : Bool := isGet (He.ma K (He.ga K x) m) (He.ga K x) (PySem.W.findCls K (.ref (He.ga K x)) (.type "type") m) && ((match PySem.W.recIn K (He.ma K (He.ga K x) m) "classmethod" with
  | some (.ref _ :: _) => true
  | _ => false) && PySem.W.fnIn K (cmG K x m))
def fCVal (x f : Str) (d : D) (K : PySem.W.Frag) : Bool := match PySem.W.findCls K (.ref (He.ga K x)) (.type "type") f with
  | some (.val u) => (match absD K 6 u with
    | some e => eqDD d e
    | none => false)
  | _ => false
def fCon (x f : Str) (d : D) (K : PySem.W.Frag) : Bool := match PySem.W.findIn K (.ref (He.ga K x)) f with
  | some (some u) => eqV (PySem.W.specialIn K u "__get__") (some none) && (match absD K 6 u with
    | some e => eqDD d e
    | none => false)
  | _ => false
section
variable {K : PySem.W.Frag} {x m f : Str} {d : D}
theorem crd_ok (c : fCRd x K = true) : ClX.CRead K (He.ga K x) (.type "type") := by
  simp only [fCRd, Bool.and_eq_true] at c
  exact ⟨c.1, eqV_ok c.2⟩
theorem cmet_ok (c : fCMet x m K = true) : ClX.CMet K (He.ga K x) (.type "type") m (He.ma K (He.ga K x) m) (cmG K x m) := by
  simp only [fCMet, Bool.and_eq_true] at c
  obtain ⟨c1, c2, c3⟩ := c
  refine ⟨?_, ?_, c3⟩
  · cases q : PySem.W.findCls K (.ref (He.ga K x)) (.type "type") m with
    | none => rw [q] at c1; cases c1
    | some r =>
      rw [q] at c1
      cases r with
      | val v => cases c1
      | get g a ob tp =>
        cases g with
        | builtin i => cases a with
          | ref a => cases ob with
            | none => cases tp with
              | ref b =>
                simp only [isGet, Bool.and_eq_true, beq_iff_eq] at c1
                obtain ⟨rfl, rfl, rfl⟩ := c1
                rfl
              | _ => cases c1
            | _ => cases c1
          | _ => cases c1
        | _ => cases c1
  · unfold cmG
    split at c2
    · rename_i g r e
      rw [e]
      exact ⟨r, rfl⟩
    · cases c2
theorem cval_ok (c : fCVal x f d K = true) : ∃ v u, ClX.CVal K (He.ga K x) (.type "type") f v u ∧ ∀ η H, VR K η H d v := by
  unfold fCVal at c
  split at c
  · rename_i u hu
    split at c
    · rename_i e he
      obtain ⟨v, rv, rd⟩ := absD_ok 6 u e he
      exact ⟨v, u, ⟨hu, rv⟩, by rw [eqDD_ok c]; exact rd⟩
    · cases c
  · cases c
theorem con_ok (c : fCon x f d K = true) (cp : PySem.W.copiedNames.contains f = false) : ∃ v u, Con K (He.ga K x) f v u ∧ ∀ η H, VR K η H d v := by
  unfold fCon at c
  split at c
  · rename_i u hu
    rw [Bool.and_eq_true] at c
    obtain ⟨c1, c⟩ := c
    split at c
    · rename_i e he
      obtain ⟨v, rv, rd⟩ := absD_ok 6 u e he
      exact ⟨v, u, ⟨hu, rv, eqV_ok c1, cp⟩, by rw [eqDD_ok c]; exact rd⟩
    · cases c
  · cases c
end
section
variable {X : Cx} {B : Bs} {k : Nat} {f C p g : Addr} {sp : GSp} {E : Sl → GX} {x m : Str} {pp pos apos : Pos} {e o : Expr} {es : List Expr} {te : GE} {tes : GA}
theorem run_gc {pins : List (Addr × Obj)} {τ : L2.St} {H : Hp} {s : Shared} {η : List Addr} {S : SS} {σ : Sl} {ds : List D} {us : List Value} {vs : List V} {R : GQ} {Q : VK} (F : GFn X.prog X.w X.K X.mg X.base k f sp) (hr : Rm k X.A) (tk : Tk X B E) (I : Inv X pins τ H s) (r : Vals vs us) (sg : SG X.K B η H σ τ) (gr : GR X.K η S H) (rs : VRs X.K η H ds vs) (h : sp ds S R (E σ)) (ko : Ko X.K η H R Q) :
    codeAny (model X.prog X.w) X.A (.call (.ref f) ⟨us, []⟩) (fun z s' => match z with
      | .ok (.ret v) => EP X pins τ Q v s'
      | .ok _ => False
      | .error e => X.xe e s') s := by
  refine codeAny_mono (F X.A X.stack s H us vs Q (WE (LX X.K B E) τ) hr I.env0 r ⟨η, S, ds, R, E σ, gr, rs, h, ko, kox_at sg⟩) fun z s' hq => ?_
  cases z with
  | error e => exact passAt tk τ pins H s e s' I hq
  | ok fl =>
    cases fl with
    | ret u => exact I.after hq
    | next => exact hq.elim
    | brk => exact hq.elim
    | cont => exact hq.elim
/-- C.f -/
theorem ge_cval {d : D} (r : ClX.CRead X.K C (.type "type")) (cv : ∃ v u, ClX.CVal X.K C (.type "type") m v u ∧ ∀ η H, VR X.K η H d v) (hm : X.mg x = some (.ref C)) (hg : Gl X x := by rfl) (hd : (x == ("__debug__" : Str)) = false := by decide)
    (hb : attributeBase (.Name x pp) m X.env (eval (.Name x pp) X.env) = eval (.Name x pp) X.env := by rfl) : GPE X B (.Attribute (.Name x pp) m pos) (gC d) := by
  obtain ⟨v, u, hv, rd⟩ := cv
  exact PE.weak (ClX.pe_cval (ge_cls (B := B) hm hg hd) hb) fun τ H Q ⟨η, S, σ, R, sr, gr, q, ko⟩ => ⟨η, S, σ, fun d1 S1 => d1 = .ref C ∧ R d S1, sr, gr, ⟨rfl, q⟩, fun d1 S1 η1 H1 w q1 g1 gr1 r1 => by
    obtain ⟨rfl, q1⟩ := q1
    cases r1
    exact ⟨C, _, v, u, rfl, r, hv, ko d S1 η1 H1 v q1 g1 gr1 (rd η1 H1)⟩⟩
/-- o.f, f a constant of the class -/
theorem ge_con {d : D} {ok : Addr → Prop} (hC : ∀ C, ok C → Cls X.K C ∧ ∃ v u, Con X.K C m v u ∧ ∀ η H, VR X.K η H d v) (he : GPE X B o te) (hb : attributeBase o m X.env (eval o X.env) = eval o X.env := by rfl) : GPE X B (.Attribute o m pos) (gCon ok m d te) :=
  PE.weak (pe_con he hb) fun τ H Q ⟨η, S, σ, R, sr, gr, q, ko⟩ => ⟨η, S, σ, _, sr, gr, q, fun d1 S1 η1 H1 w q1 g1 gr1 r1 => by
    cases r1 with
    | obj e1 =>
      simp only at q1
      split at q1
      · rename_i C fs hk
        obtain ⟨okc, hl, q1⟩ := q1
        obtain ⟨dx, us, hu, hf⟩ := gr1.obj e1 hk
        obtain ⟨cl, v, u, hv, rd⟩ := hC C okc
        exact ⟨_, C, dx, us, v, u, rfl, hu, cl, hv, fr_none hf hl, ko d S1 η1 H1 v q1 g1 gr1 (rd η1 H1)⟩
      · exact q1.elim
    | _ => exact q1.elim⟩
/-- c(e, ..) -/
theorem ge_makeV (i : Nat) (M : Mk X.K C f) (F : GFn X.prog X.w X.K X.mg X.base k f sp) (hr : Rm (k + 1) X.A) (tk : Tk X B E) (ha : GPA X B (e :: es) tes) (hN : X.N[i]? = some x := by rfl)
    (hv : Vis X.env.scope x := by first | exact Or.inl rfl | exact Or.inr (Or.inl rfl) | exact Or.inr (Or.inr rfl)) (hd : (x == ("__debug__" : Str)) = false := by decide) (hcd : (x == ("__classdict__" : Str)) = false := by decide)
    (he : starEach (e :: es) X.env = (false, eval e X.env) :: starEach es X.env := by rfl) (hpl : (backTo pos (starEach es X.env)).any (·.1) = false := by rfl) : GPE X B (.Call (.Name x pp) (e :: es) [] pos) (gMakeV i C sp E tes) := by
  refine ⟨fun pins s τ H Q I ⟨η, S, σ, R, sr, gr, ⟨h0, q⟩, ko⟩ => ?_⟩
  obtain ⟨v0, hv0, r0⟩ := sr.get h0
  cases r0
  refine wpAny_Call_Name_kw (thn ((pe_var (pos := pp) (i := i) hN hv hd hcd).run pins s τ H (fun v H2 => v = .ref C ∧ H2 = H) I ⟨.ref C, hv0, rfl, rfl⟩) fun u s1 ⟨v, H2, I2, ru, ev, eH⟩ => ?_)
  subst ev eH
  obtain rfl : u = Value.ref C := ru
  refine PySem.W.callWith_K (h₀ := X.base) I.ok.mod.kin M.kp (thn (ha.run pos pins s1 τ H2 (fun vs H1 => ∃ η S σ ds, SG X.K B η H1 σ τ ∧ GR X.K η S H1 ∧ VRs X.K η H1 ds vs ∧ sp (.obj S.length :: ds) (S ++ [.ins C []]) (fun d S2 => d = .non ∧ R (.obj S.length) S2) (E σ) ∧ Ko X.K η H1 R Q) I2
    ⟨η, S, σ, _, sr, gr, q, fun ds S1 η1 H1 vs q1 g1 gr1 r1 => ⟨η1, S1, σ, ds, sr.grow g1, gr1, r1, q1, ko.grow g1⟩⟩) fun us s2 ⟨vs, H3, I3, r, η1, S1, σ1, ds, sr1, gr1, r1, q1, ko1⟩ => ⟨I3.kIn, ?_⟩) he hpl
  exact run_mk M F hr tk I3 r sr1 gr1 r1 q1 ko1
/-- C.m(e, ..), m a classmethod -/
theorem ge_cmeth {pl : Sem Bool} (r : ClX.CRead X.K C (.type "type")) (cm : ClX.CMet X.K C (.type "type") m p g) (F : GFn X.prog X.w X.K X.mg X.base k g sp) (hr : Rm k X.A) (tk : Tk X B E) (hm : X.mg x = some (.ref C)) (ha : GPA X B (e :: es) tes)
    (hg : Gl X x := by rfl) (hdb : (x == ("__debug__" : Str)) = false := by decide) (hst : starEach (e :: es) X.env = (false, eval e X.env) :: starEach es X.env := by rfl) (hpl : (backTo pos (starEach es X.env)).any (·.1) = false := by rfl)
    (ht : eval (.Call (.Attribute (.Name x pp) m apos) (e :: es) [] pos) X.env = (do
      let ov ← eval (.Name x pp) X.env
      standAt apos.atName
      let (f, first) ← holding [ov] (getMethod ov m pl)
      callWith pos f first (backTo pos (starEach (e :: es) X.env)) (backToKw pos (keywordEach [] X.env))) := by rfl) :
    GPE X B (.Call (.Attribute (.Name x pp) m apos) (e :: es) [] pos) (gCall sp E (gCons (gC (.ref C)) tes)) := by
  refine ⟨fun pins s τ H Q I ⟨η, S, σ, R, sr, gr, q, ko⟩ => ?_⟩
  refine PySem.W.methodCall_KW (pl := pl) (thn ((ge_cls (B := B) (pos := pp) hm hg hdb).run pins s τ H (fun v H1 => v = .ref C ∧ ∃ η S σ, SG X.K B η H1 σ τ ∧ GR X.K η S H1 ∧ tes σ S (fun ds S2 => sp (.ref C :: ds) S2 R (E σ)) ∧ Ko X.K η H1 R Q) I
    ⟨η, S, σ, fun d S1 => d = .ref C ∧ tes σ S1 (fun ds S2 => sp (.ref C :: ds) S2 R (E σ)), sr, gr, ⟨rfl, q⟩, fun d S1 η1 H1 v q1 g1 gr1 r1 => ?_⟩) fun u s1 ⟨v, H1, I1, ru, ev, η1, S1, σ1, sr1, gr1, q1, ko1⟩ => ?_) ht
  · obtain ⟨rfl, q1⟩ := q1
    cases r1
    exact ⟨rfl, η1, S1, σ, sr.grow g1, gr1, q1, ko.grow g1⟩
  · subst ev
    obtain rfl : u = Value.ref C := ru
    refine ClX.getmethcm_ok I1 r cm fun s2 I2 => ?_
    refine ClX.callwith_cm I2 (ClX.base_none I1 (Nat.le_refl _)) cm.fi (thn (ha.run pos _ s2 τ H1 (fun vs H3 => ∃ η S σ ds, SG X.K B η H3 σ τ ∧ GR X.K η S H3 ∧ VRs X.K η H3 ds vs ∧ sp (.ref C :: ds) S R (E σ) ∧ Ko X.K η H3 R Q) I2
      ⟨η1, S1, σ1, _, sr1, gr1, q1, fun ds S3 η3 H3 vs q3 g3 gr3 r3 => ⟨η3, S3, σ1, ds, sr1.grow g3, gr3, r3, q3, ko1.grow g3⟩⟩) fun us s3 ⟨vs, H3, I3, rv, η3, S3, σ3, ds, sr3, gr3, r3, q3, ko3⟩ => ⟨⟨ClX.pin_at I3, I3.kIn⟩, ?_⟩) hst hpl
    refine thn (Q := EP X _ τ Q) (wpAny_call (PySem.W.method_call (ClX.pin_at I3) (run_gc (us := .ref C :: us) (vs := .ref C :: vs) F hr tk I3 (.cons rfl rv) sr3 gr3 (.cons (.ref C) r3) q3 ko3))) fun _ _ y => ClX.unpinE y
end
end Gh

/-! Hh: enumerate(text); in, not in a tuple of plain values. -/
namespace Gh
open PySem PySem.Spec PyProof.Rows L2
/-- the signs of a text, each in a new pair with its place -/
def Ites (x : Str) : It := ⟨fun i _ => i < x.cps.size, fun i H v H' => ∃ T c, v = .ref T ∧ H T = none ∧ x.cps[i]? = some c ∧ H' = upd H T (.tup [.int (i : Nat), .str ⟨#[c]⟩]), fun i _ => x.cps.size ≤ i⟩
theorem drawS {P : Program} {w : World} {A : Around} (hh : A.handled = none) (it : Addr) (x : Str) (t : Tok) :
    Draws P w A it [it] x.cps.size (fun i v => ∃ c u, x.cps[i]? = some c ∧ v = .str ⟨#[c]⟩ u) (fun i h => h.IsStrIter it (strIterType x) x t i) := by
  unfold strIterType
  cases x.cps.all (· < 128)
  · exact Draws.strWide hh it x t
  · exact Draws.strAscii hh it x t
theorem turn_enumS {P : Program} {w : World} {K : PySem.W.Frag} {elts : List Expr} {kk : Nat} {tpos : Pos} (x : Str) (t : Tok) (e it : Addr) :
    Turn P w K (.Tuple elts kk tpos) (Ites x) [e, it] e (fun i h => i ≤ x.cps.size ∧ (∃ old, IsEnum h e it ((i : Nat) : Int) old) ∧ h.IsStrIter it (strIterType x) x t i ∧ e ≠ it) where
  mem := by simp
  obj := by
    rintro i h ⟨_, ⟨old, he⟩, ⟨o, ho, hc, hd⟩, _⟩ b hb
    rcases List.mem_cons.mp hb with rfl | hb
    · exact ⟨_, he, fun v q => nomatch q⟩
    · obtain rfl := List.mem_singleton.mp hb
      exact ⟨o, ho, fun v q => nomatch hd.symm.trans q⟩
  keep := by
    rintro i h h' ⟨li, ⟨old, he⟩, ⟨o, ho, r⟩, ne⟩ k
    exact ⟨li, ⟨old, k e (by simp) _ he⟩, ⟨o, k it (by simp) o ho, r⟩, ne⟩
  item := by
    intro X hP hw hK hc i pins s σ H E I hf st hg
    subst hP hw hK
    obtain ⟨_, ⟨old, he⟩, hit, ne⟩ := st
    have hg : i < x.cps.size := hg
    have le : e < s.heap.objs.size := Heap.lt_size he
    have li : it < s.heap.objs.size := by obtain ⟨_, q, _⟩ := hit; exact Heap.lt_size q
    refine wpAny_pyNext_enum_itemD (drawS (A := X.A.in1) (I.ok.hd hc) it x t) he hit hg ne (by simpa using ne) fun u h1 tk hu out hit1 hT hz hk => ?_
    obtain ⟨c, tc, hcx, rfl⟩ := hu
    refine ⟨_, rfl, wpAny_letOwnedTupleGo_enum (s := { s with heap := h1, toks := tk + 1 }) out fun h2 he2 sb => ?_⟩
    have hT2 : h2.get? s.heap.objs.size = some { cls := .type "tuple", data := .seq #[.int i tk, .str ⟨#[c]⟩ tc] } := (sb.2 _ (Nat.ne_of_gt le)).trans hT
    have new : ObjOk X.prog X.w (upd H s.heap.objs.size (.tup [.int (i : Nat), .str ⟨#[c]⟩])) h2 s.heap.objs.size (.tup [.int (i : Nat), .str ⟨#[c]⟩]) :=
      ⟨by show 2 ≤ sizeLine; decide, [.int i tk, .str ⟨#[c]⟩ tc], .cons ⟨_, rfl⟩ (.cons ⟨_, rfl⟩ .nil), ⟨_, hT2, rfl, _, rfl⟩⟩
    have J : Inv X pins σ (upd H s.heap.objs.size (.tup [.int (i : Nat), .str ⟨#[c]⟩])) { s with heap := h2, toks := tk + 1 } :=
      I.turnedNew (ch := [e, it]) (fun b ob hb q => (sb.2 b (fun z => hb (by simp [z]))).trans (hk b ob (fun z => hb (by simp [z])) (fun z => hb (by simp [z])) q)) hf (Nat.le_refl _) new
    refine ⟨.ref s.heap.objs.size, _, J, rfl, ⟨_, c, rfl, I.hok.fresh (Nat.le_refl _), hcx, rfl⟩, ⟨hg, ⟨.str ⟨#[c]⟩ tc, ?_⟩, ?_, ne⟩, fun b hb => ?_⟩
    · rw [show ((i + 1 : Nat) : Int) = (i : Int) + 1 by omega]; exact he2
    · obtain ⟨o, ho, r⟩ := hit1
      exact ⟨o, (sb.2 it (Ne.symm ne)).trans ho, r⟩
    · have lb : b < s.heap.objs.size := by
        rcases List.mem_cons.mp hb with rfl | hb
        · exact le
        · obtain rfl := List.mem_singleton.mp hb
          exact li
      rw [upd_ne (Nat.ne_of_lt lb)]
      exact (hf b hb).1
  done := by
    intro X hP hw hK hc i pins s σ H E I hf st hg
    subst hP hw hK
    obtain ⟨li, ⟨old, he⟩, hit, ne⟩ := st
    obtain ⟨f0, f1, f2, f3, f4, f5⟩ := hf it (by simp)
    have hg : x.cps.size ≤ i := hg
    obtain rfl : i = x.cps.size := Nat.le_antisymm li hg
    exact wpAny_pyNext_enum_endD (drawS (A := X.A.in1) (I.ok.hd hc) it x t) he hit fun h' eb => ⟨rfl, I.turned (t' := s.toks) (fun b o hb q => eb b o hb q) f0 f1 f3 f4 f5⟩
  self := by
    rintro A i s Q E ⟨_, ⟨_, he⟩, _⟩ h
    exact wpAny_pyIter_enum he h
def iEnumS (ta : TA) : TI := fun σ H R => ta σ H fun vs H1 => ∃ x, vs = [.str x] ∧ R (Ites x) H1
theorem pi_enumS {X : Cx} {e : Expr} {ta : TA} {p pos tpos : Pos} {elts : List Expr} {kk : Nat} (hg : Gl X "enumerate") (hm : X.mg "enumerate" = none) (ha : PA X [e] ta) (hs : starEach [e] X.env = [(false, eval e X.env)] := by rfl) :
    PI X (.Tuple elts kk tpos) (.Call (.Name "enumerate" p) [e] [] pos) (iEnumS ta) := by
  refine ⟨fun pins s σ H R I h => ?_⟩
  refine Call_ (ld_blt I hg hm boot_enumerate (PyProof.Rows.callWith_type1 (thn (ha.run pos pins s σ H _ I h) fun us s1 ⟨vs, H1, I1, r1, x, ex, q⟩ => ?_) hs rfl))
  subst ex
  obtain ⟨u, rfl, t, rfl⟩ := Vals.one r1
  refine call_enumerate_str fun h' he hit hsz hk => wpAny_pyIter_enum he ?_
  have J : Inv X pins σ H1 { s1 with heap := h' } := I1.kept (t' := s1.toks) hk
  refine ⟨s1.heap.objs.size + 1, [s1.heap.objs.size + 1, s1.heap.objs.size], _, _, H1, rfl, J, turn_enumS x t (s1.heap.objs.size + 1) s1.heap.objs.size, ⟨Nat.zero_le _, ⟨.none, he⟩, hit, Nat.succ_ne_self _⟩, fun b hb => ?_, q⟩
  have lb : s1.heap.objs.size ≤ b := by
    rcases List.mem_cons.mp hb with rfl | hb
    · exact Nat.le_succ _
    · exact Nat.le_of_eq (List.mem_singleton.mp hb).symm
  exact I1.fpOk lb (I1.hok.fresh lb)
variable [TabsC]
def giEnumS (u : GA) : GI := fun σ S R => u σ S fun ds S1 => match ds with
  | [.str x] => R ⟨enumD 0 (signs x), fun _ => True⟩ S1
  | _ => False
section
variable {K : PySem.W.Frag} {η0 : List Addr} {H0 : Hp}
theorem walk_enumS {x : Str} : WalkR K (Ites x) (enumD 0 (signs x)) (fun _ => True) η0 H0 where
  go := fun i d η S H hi g gr ok => by
    obtain ⟨y, hy, rfl⟩ := enum_get (signs x) 0 i d hi
    unfold signs at hy
    rw [List.getElem?_map] at hy
    cases e : x.cps.toList[i]? with
    | none => rw [e] at hy; cases hy
    | some c =>
      rw [e] at hy
      cases hy
      have e2 : x.cps[i]? = some c := by simpa using e
      refine ⟨(Array.getElem?_eq_some_iff.mp e2).1, fun z H' w => ?_⟩
      obtain ⟨T, c', rfl, hT, e3, rfl⟩ := w
      rw [e2] at e3
      cases e3
      rw [Nat.zero_add]
      exact ⟨η, grow_new hT, gr.new hT, .tup (.inl (.inl upd_same)) (.cons (.int _) (.cons (.str _) .nil))⟩
  stop := fun η S H g gr ok => by
    show x.cps.size ≤ (enumD 0 (signs x)).length
    rw [enum_length]
    simp [signs]
end
section
variable {X : Cx} {B : Bs} {tg e : Expr} {te : GE} {tes : GA} {pos p tpos : Pos} {elts : List Expr} {kk : Nat}
theorem gi_enumS (hm : X.mg "enumerate" = none) (ha : GPA X B [e] tes) (hg : Gl X "enumerate" := by rfl) (hs : starEach [e] X.env = [(false, eval e X.env)] := by rfl) : GPI X B (.Tuple elts kk tpos) (.Call (.Name "enumerate" p) [e] [] pos) (giEnumS tes) :=
  PI.weak (pi_enumS hg hm ha hs) fun τ H R ⟨η, S, σ, RG, sr, gr, q, k⟩ =>
    ⟨η, S, σ, _, sr, gr, q, fun ds S1 η1 H1 vs q1 g1 gr1 r1 => by
      cases r1 with
      | nil => exact q1.elim
      | cons r1 r2 => cases r1 with
        | str x => cases r2 with
          | nil => exact ⟨x, rfl, k _ S1 η1 H1 _ q1 g1 gr1 walk_enumS⟩
          | cons _ _ => exact q1.elim
        | _ => cases r2 <;> exact q1.elim⟩
end
/-! ### in a tuple of plain values -/
def flatD : D → Bool
  | .non => true
  | .bl _ => true
  | .int _ => true
  | .str _ => true
  | _ => false
def eqF : D → D → Bool
  | .non, .non => true
  | .bl a, .bl b => a == b
  | .str a, .str b => a == b
  | .int a, .int b => a == b
  | .int a, .bl b => a == (if b then 1 else 0)
  | .bl a, .int b => (if a then 1 else 0) == b
  | _, _ => false
/-- v in (.., ..), v not in (.., ..) -/
def oInF (neg : Bool) : GO2 := fun x y S Q => match y with
  | .tup ds => flatD x = true ∧ ds.all flatD = true ∧ Q (.bl (if neg then !(ds.any fun z => eqF z x) else ds.any fun z => eqF z x)) S
  | _ => False
section
variable {K : PySem.W.Frag} {η : List Addr} {H : Hp}
theorem flat_ok {d : D} {v : V} (r : VR K η H d v) (h : flatD d = true) : flatV v = true := by
  cases r <;> first | rfl | cases h
theorem eqF_ok {d e : D} {v u : V} (r : VR K η H d v) (r' : VR K η H e u) (h : flatD d = true) (h' : flatD e = true) : eqF d e = L2.eqV v u := by
  cases r <;> first | cases h; done | skip
  all_goals cases r' <;> first | cases h'; done | skip
  all_goals first | rfl | (rename_i a b; cases a <;> rfl) | (rename_i a b; cases b <;> rfl)
theorem flats_ok : ∀ {ds : List D} {vs : List V}, VRs K η H ds vs → ds.all flatD = true → vs.all flatV = true
  | _, _, .nil, _ => rfl
  | _, _, .cons r rr, h => by
    simp only [List.all_cons, Bool.and_eq_true] at h ⊢
    exact ⟨flat_ok r h.1, flats_ok rr h.2⟩
theorem inF_ok {e : D} {u : V} (r' : VR K η H e u) (h' : flatD e = true) : ∀ {ds : List D} {vs : List V}, VRs K η H ds vs → ds.all flatD = true → (ds.any fun z => eqF z e) = inV u vs
  | _, _, .nil, _ => rfl
  | _, _, .cons r rr, h => by
    simp only [List.all_cons, Bool.and_eq_true] at h
    have ih := inF_ok r' h' rr h.2
    unfold inV at ih ⊢
    rw [List.any_cons, List.any_cons, eqF_ok r r' h.1 h', ih]
end
section
variable {X : Cx}
theorem lo_inF : OpR X (compareOp .In) (LO2 X.K (oInF false)) := by
  intro pins s σ H x y v u Q I rx ry ⟨η, S, d, e, R, gr, r1, r2, q, k⟩
  cases r2 with
  | tup hq rr =>
    obtain ⟨f1, f2, q⟩ := q
    refine op_in_seq pins s σ H _ _ v u Q I rx ry ⟨_, _, rfl, .inr hq, flat_ok r1 f1, flats_ok rr f2, ?_⟩
    rw [← inF_ok r1 f1 rr f2]
    exact k _ S η H _ q .refl gr (.bl _)
  | _ => exact q.elim
theorem lo_notInF : OpR X (compareOp .NotIn) (LO2 X.K (oInF true)) := by
  intro pins s σ H x y v u Q I rx ry ⟨η, S, d, e, R, gr, r1, r2, q, k⟩
  cases r2 with
  | tup hq rr =>
    obtain ⟨f1, f2, q⟩ := q
    refine op_notIn_seq pins s σ H _ _ v u Q I rx ry ⟨_, _, rfl, .inr hq, flat_ok r1 f1, flats_ok rr f2, ?_⟩
    rw [← inF_ok r1 f1 rr f2]
    exact k _ S η H _ q .refl gr (.bl _)
  | _ => exact q.elim
end
end Gh

/-! Hi: an instance is called. -/
namespace Gh
open PySem PySem.Spec PyProof.Rows L2
section
variable {M : Model} {A : Around} {E : Value → Shared → Prop} {s : Shared} {env : Env} {pos : Pos} {x : Addr} {first : List Value} {Q : Value → Shared → Prop}
theorem inst_callWith {e : Expr} {rest : List Expr}
    (h : wpAny M A (spliced (backTo pos (starEach (e :: rest) env))) (fun vs s1 => (∃ C ox od, PySem.W.InstAt s1.heap x ox C od ∧ ox.data = .plain) ∧ wpAny M A (call (.ref x) (first ++ vs)) Q E s1) E s)
    (he : starEach (e :: rest) env = (false, eval e env) :: starEach rest env) (hpl : (backTo pos (starEach rest env)).any (·.1) = false) :
    wpAny M A (callWith pos (.ref x) first (backTo pos (starEach (e :: rest) env)) []) Q E s := by
  rw [he] at h ⊢
  have plain : ((backTo pos ((false, eval e env) :: starEach rest env)).any (·.1) || ([] : List (Option Str × Sem Value)).any (·.1.isNone)) = false := by
    show ((false || (backTo pos (starEach rest env)).any (·.1)) || false) = false
    rw [hpl]; rfl
  have h2 : wpAny M A (evalArgs (.ref x) true (backTo pos ((false, eval e env) :: starEach rest env)) []) (fun a s1 => (∃ C ox od, PySem.W.InstAt s1.heap x ox C od ∧ ox.data = .plain) ∧ wpAny M A (call (.ref x) (first ++ a.pos) a.kw) Q E s1) E s := Calls.evalArgs_plain h
  unfold callWith
  refine wpAny_bind (wpAny_holding (wpAny_mono h2 (fun a s1 z => wpAny_bind (wpAny_standAt ?_)) fun _ _ y => y))
  obtain ⟨⟨C, ox, od, J, hd⟩, z⟩ := z
  have look := PySem.W.kco_keeper (M := M) J hd
  simp only [plain]
  refine wpAny_bind (look.here ?_)
  exact wpAny_bind (wpAny_mono (wpAny_operateT z) (fun r s2 hr => wpAny_bind (wpAny_holding (wpAny_point (wpAny_pure hr)))) fun _ _ y => y)
end
variable [TabsC]
def CTab (X : Cx) (k : Nat) (tb : Addr → Option GSp) : Prop := ∀ C sp, tb C = some sp → ∃ f, PySem.W.findIn X.K (.ref C) "__call__" = some (some (.ref f)) ∧ PySem.W.isFn X.K (.ref f) = true ∧ PySem.W.fnIn X.K f = true ∧ GFn X.prog X.w X.K X.mg X.base k f sp
section
variable {X : Cx} {B : Bs} {k : Nat} {sp : GSp} {E : Sl → GX} {pos : Pos} {e o : Expr} {es : List Expr} {te : GE} {tes : GA}
theorem ge_callO {tb : Addr → Option GSp} (hT : CTab X k tb) (hr : Rm k X.A) (tk : Tk X B E) (he : GPE X B o te) (ha : GPA X B (e :: es) tes)
    (hev : eval (.Call o (e :: es) [] pos) X.env = (do callWith pos (← eval o X.env) [] (backTo pos (starEach (e :: es) X.env)) []) := by rfl)
    (hst : starEach (e :: es) X.env = (false, eval e X.env) :: starEach es X.env := by rfl) (hpl : (backTo pos (starEach es X.env)).any (·.1) = false := by rfl) : GPE X B (.Call o (e :: es) [] pos) (gCallO tb E te tes) := by
  refine ⟨fun pins s τ H Q I ⟨η, S, σ, R, sr, gr, q, ko⟩ => ?_⟩
  rw [hev]
  refine wpAny_bind (thn (he.run pins s τ H (fun v H1 => ∃ (η : List Addr) (S : SS) (σ : Sl) (j : Nat) (a : Addr), v = .ref a ∧ SG X.K B η H1 σ τ ∧ GR X.K η S H1 ∧ η[j]? = some a ∧ tes σ S (fun ds S2 => match S2[j]? with
      | some (.ins C _) => (match tb C with
        | some sp => sp (.obj j :: ds) S2 R (E σ)
        | none => False)
      | _ => False) ∧ Ko X.K η H1 R Q) I ⟨η, S, σ, _, sr, gr, q, fun d S1 η1 H1 v q1 g1 gr1 r1 => ?_⟩) fun u s1 ⟨v, H1, I1, ru, η1, S1, σ1, j, a, ev, sr1, gr1, e1, q1, ko1⟩ => ?_)
  · cases r1 with
    | obj e1 => exact ⟨η1, S1, σ, _, _, rfl, sr.grow g1, gr1, e1, q1, ko.grow g1⟩
    | _ => exact q1.elim
  · subst ev
    obtain rfl : u = Value.ref a := ru
    have key := ha.run pos pins s1 τ H1 (fun vs H2 => ∃ η S σ C fs sp ds, SG X.K B η H2 σ τ ∧ GR X.K η S H2 ∧ VRs X.K η H2 ds vs ∧ η[j]? = some a ∧ S[j]? = some (.ins C fs) ∧ tb C = some sp ∧ sp (.obj j :: ds) S R (E σ) ∧ Ko X.K η H2 R Q) I1 ⟨η1, S1, σ1, _, sr1, gr1, q1, fun ds S2 η2 H2 vs q2 g2 gr2 r2 => ?_⟩
    · refine inst_callWith (thn key fun us s2 ⟨vs, H2, I2, r, η2, S2, σ2, C, fs, sp, ds, sr2, gr2, rs, e2, hk, ht, q2, ko2⟩ => ?_) hst hpl
      obtain ⟨dx, ws, hu, hf⟩ := gr2.obj e2 hk
      obtain ⟨ox, od, J, hd⟩ := inst_at I2 hu
      obtain ⟨f, h1, h2, h3, F⟩ := hT C sp ht
      exact ⟨⟨C, ox, some od, J, hd⟩, wpAny_call (PySem.W.kco_code I2.kIn J hd h1 h2 h3 (run_gc (us := .ref a :: us) (vs := .ref a :: vs) F hr tk I2 (.cons rfl r) sr2 gr2 (.cons (.obj e2) rs) q2 ko2))⟩
    · split at q2
      · rename_i C fs hk
        split at q2
        · rename_i sp ht
          exact ⟨η2, S2, σ1, C, fs, sp, ds, sr1.grow g2, gr2, r2, g2.get e1, hk, ht, q2, ko1.grow g2⟩
        · exact q2.elim
      · exact q2.elim
end
section
variable {X : Cx} {B : Bs} {a b c : Expr} {ta tb tc : GE} {pos : Pos}
theorem chain_weak {o o' : GO2} (τ : L2.St) (H : Hp) (Q : VK) : LE X.K B (gChain o o' ta tb tc) τ H Q → tChain (LO2 X.K o) (LO2 X.K o') (LE X.K B ta) (LE X.K B tb) (LE X.K B tc) τ H Q := fun ⟨η, S, σ, R, sr, gr, q, k⟩ =>
    ⟨η, S, σ, _, sr, gr, q, fun d S1 η1 H1 v q1 g1 gr1 r1 => ⟨η1, S1, σ, _, sr.grow g1, gr1, q1, fun e S2 η2 H2 w q2 g2 gr2 r2 =>
      ⟨η2, S2, d, e, _, gr2, r1.grow g2, r2, q2, fun z S3 η3 H3 u q3 g3 gr3 r3 => by
        cases r3 with
        | bl b => cases b with
          | true => exact ⟨true, rfl, iteT ⟨η3, S3, σ, _, ((sr.grow g1).grow g2).grow g3, gr3, q3, fun z4 S4 η4 H4 u4 q4 g4 gr4 r4 => ⟨η4, S4, e, z4, R, gr4, (r2.grow g3).grow g4, r4, q4, k.grow (((g1.trans g2).trans g3).trans g4)⟩⟩⟩
          | false => exact ⟨false, rfl, iteF (k (.bl false) S3 η3 H3 _ q3 ((g1.trans g2).trans g3) gr3 (.bl false))⟩
        | _ => exact q3.elim⟩⟩⟩
theorem gt_chain {op op' : CmpOp} {o o' : GO2} (ho : OpR X (compareOp op) (LO2 X.K o)) (ho' : OpR X (compareOp op') (LO2 X.K o')) (ha : GPE X B a ta) (hb : GPE X B b tb) (hc : GPE X B c tc)
    (hm : lastMarks [op, op'] [b, c] = false := by with_unfolding_all rfl) : GPT X B (.Compare a [op, op'] [b, c] pos) (gtV (gChain o o' ta tb tc)) :=
  PT.weak (pt_chain ho ho' ha hb hc hm) fun τ H Q ⟨η, S, σ, R, sr, gr, q, k⟩ =>
    chain_weak (X := X) (B := B) τ H _ ⟨η, S, σ, _, sr, gr, q, fun d S1 η1 H1 v q1 g1 gr1 r1 => by
      obtain ⟨b, rfl, rfl, q2⟩ := isB (P := fun b => R b S1) q1 r1
      exact ⟨b, rfl, k b S1 η1 H1 q2 g1 gr1⟩⟩
end
end Gh

namespace Gh
open PySem
structure M where
  (a b c d : Int)
deriving DecidableEq
namespace M
def det (m : M) : Int := m.a * m.d - m.b * m.c
def pos (m : M) : Prop := 0 < m.c ∨ m.c = 0 ∧ 0 < m.a
instance (m : M) : Decidable m.pos := inferInstanceAs (Decidable (_ ∨ _))
def neg (m : M) : M := ⟨-m.a, -m.b, -m.c, -m.d⟩
def nf (m : M) : M := if m.pos then m else m.neg
def mul (m n : M) : M := ⟨m.a * n.a + m.b * n.c, m.a * n.b + m.b * n.d, m.c * n.a + m.d * n.c, m.c * n.b + m.d * n.d⟩
def times (m n : M) : M := (m.mul n).nf
def adj (m : M) : M := ⟨m.d, -m.b, -m.c, m.a⟩
def inv (m : M) : M := m.adj.nf
def one : M := ⟨1, 0, 0, 1⟩
def ok (m : M) : Prop := m.det = 1 ∧ m.pos
instance (m : M) : Decidable m.ok := inferInstanceAs (Decidable (_ ∧ _))
def sz (n : Nat) (m : M) : Prop := m.a.natAbs < 2 ^ n ∧ m.b.natAbs < 2 ^ n ∧ m.c.natAbs < 2 ^ n ∧ m.d.natAbs < 2 ^ n
end M
def dM (m : M) : D := .tup [.tup [.int m.a, .int m.b], .tup [.int m.c, .int m.d]]
def letS : M := ⟨0, -1, 1, 0⟩
def letR : M := ⟨0, -1, 1, 1⟩
def letr : M := ⟨-1, -1, 1, 0⟩
def letM (x : Str) : M := if x = ⟨#[83]⟩ then letS else if x = ⟨#[82]⟩ then letR else letr
def matW (l : List Nat) : M := l.foldl (fun m x => m.times (letM ⟨#[x]⟩)) M.one
def numT (ns : List Int) : Str := Str.join ⟨#[32]⟩ (ns.map fun i => (toString i : Str))
def textM (m : M) : Str := numT [m.a, m.b, m.c, m.d]
def HELD : Str := Str.ofString "held"
def oT (c : CA) (m : M) : GO := .ins c.Turn [(HELD, dM m)]
def isT (c : CA) (S : SS) (d : D) (m : M) : Prop := ∃ k, d = .obj k ∧ S[k]? = some (oT c m)
/-- the lists that the law draws from -/
def srcO (cell n g : Int) : GO := .lst [.int cell, .int n, .int g]
def isSrc (S : SS) (k : Nat) (b : Int) : Prop := ∃ cell n g, S[k]? = some (srcO cell n g) ∧ 0 ≤ n ∧ n ≤ b
/-- the classes are told apart -/
structure ClsOk (c : CA) : Prop where
  nd : [c.BadMatrix, c.BadFraction, c.BadWord, c.BadNumber].Nodup
def GOOD (m : M) : Prop := m.ok ∧ m.sz 1000

def withM (d : D) (f : M → Prop) : Prop := match d with
  | .tup [.tup [.int a, .int b], .tup [.int c, .int d]] => f ⟨a, b, c, d⟩
  | _ => False
theorem withM_dM {m : M} {f : M → Prop} : withM (dM m) f = f m := rfl
theorem withM_lit {a b c d : Int} {f : M → Prop} : withM (.tup [.tup [.int a, .int b], .tup [.int c, .int d]]) f = f ⟨a, b, c, d⟩ := rfl
theorem tyD_dM {S : SS} {m : M} : tyD S (dM m) = some (.inl "tuple") := rfl
theorem runP_dM {i j k l : Nat} {σ : Sl} {m : M} : runP (.tp [.tp [.nm i, .nm j], .tp [.nm k, .nm l]]) (dM m) σ = some ((((σ.set i (some (.int m.a))).set j (some (.int m.b))).set k (some (.int m.c))).set l (some (.int m.d))) := rfl
theorem withM_inv {d : D} {f : M → Prop} (h : withM d f) : ∃ m, d = dM m ∧ f m := by
  unfold withM at h
  split at h
  · exact ⟨_, rfl, h⟩
  · exact h.elim
def turnO (c : CA) (o : GO) : Option M := match o with
  | .ins C [(n, .tup [.tup [.int a, .int b], .tup [.int c', .int d]])] => if C = c.Turn ∧ n = HELD then some ⟨a, b, c', d⟩ else none
  | _ => none
theorem turnO_oT {c : CA} {m : M} : turnO c (oT c m) = some m := by simp [turnO, oT, dM]
def withT (c : CA) (S : SS) (d : D) (f : M → Prop) : Prop := match d with
  | .obj k => (match S[k]? with
    | some o => (match turnO c o with
      | some m => f m
      | none => False)
    | none => False)
  | _ => False
theorem withT_of {c : CA} {S : SS} {k : Nat} {m : M} {f : M → Prop} (h : S[k]? = some (oT c m)) : withT c S (.obj k) f = f m := by
  simp only [withT, h, turnO_oT]
theorem withT_ofL {c : CA} {S L : SS} {i : Nat} {m : M} {f : M → Prop} (h : L[i]? = some (oT c m)) : withT c (S ++ L) (.obj (S.length + i)) f = f m := withT_of (by rw [st_new]; exact h)
def withTL (c : CA) (o : Option GO) (f : M → Prop) : Prop := match o with
  | some o => (match turnO c o with
    | some m => f m
    | none => False)
  | none => False
theorem withT_at {c : CA} {S L : SS} {i : Nat} {f : M → Prop} : withT c (S ++ L) (.obj (S.length + i)) f = withTL c L[i]? f := by
  unfold withT withTL
  simp only [st_new]
theorem withT_at0 {c : CA} {S L : SS} {f : M → Prop} : withT c (S ++ L) (.obj S.length) f = withTL c L[0]? f := withT_at (i := 0)
theorem withTL_some {c : CA} {m : M} {f : M → Prop} : withTL c (some (.ins c.Turn [(Str.ofString "held", dM m)])) f = f m := by
  show withTL c (some (oT c m)) f = f m
  simp only [withTL, turnO_oT]
theorem withT_inv {c : CA} {S : SS} {d : D} {f : M → Prop} (h : withT c S d f) : ∃ k m, d = .obj k ∧ S[k]? = some (oT c m) ∧ f m := by
  unfold withT at h
  split at h
  · rename_i k
    split at h
    · rename_i o ho
      split at h
      · rename_i m hm
        refine ⟨k, m, rfl, ?_, h⟩
        rw [ho]
        unfold turnO at hm
        split at hm
        · split at hm
          · rename_i e
            cases hm
            obtain ⟨rfl, rfl⟩ := e
            rfl
          · cases hm
        · cases hm
      · exact h.elim
    · exact h.elim
  · exact h.elim
def withSrc (S : SS) (d : D) (f : Nat → Int → Int → Int → Prop) : Prop := match d with
  | .obj k => (match S[k]? with
    | some (.lst [.int cell, .int n, .int g]) => f k cell n g
    | _ => False)
  | _ => False
theorem withSrc_of {S : SS} {k : Nat} {cell n g : Int} {f : Nat → Int → Int → Int → Prop} (h : S[k]? = some (srcO cell n g)) : withSrc S (.obj k) f = f k cell n g := by
  simp only [withSrc, h, srcO]
theorem withSrc_inv {S : SS} {d : D} {f : Nat → Int → Int → Int → Prop} (h : withSrc S d f) : ∃ k cell n g, d = .obj k ∧ S[k]? = some (srcO cell n g) ∧ f k cell n g := by
  unfold withSrc at h
  split at h
  · split at h
    · exact ⟨_, _, _, _, rfl, by assumption, h⟩
    · exact h.elim
  · exact h.elim
theorem withSrc_S {S L : SS} {k : Nat} {cell n g : Int} {f : Nat → Int → Int → Int → Prop} (h : k < S.length) : withSrc (S.set k (srcO cell n g) ++ L) (.obj k) f = f k cell n g := withSrc_of (stS_k h)
theorem withSrc_S0 {S : SS} {k : Nat} {cell n g : Int} {f : Nat → Int → Int → Int → Prop} (h : k < S.length) : withSrc (S.set k (srcO cell n g)) (.obj k) f = f k cell n g := withSrc_of (stS_kk h)
def withI (d : D) (f : Int → Prop) : Prop := match d with
  | .int i => f i
  | _ => False
theorem withI_of {i : Int} {f : Int → Prop} : withI (.int i) f = f i := rfl
theorem withI_inv {d : D} {f : Int → Prop} (h : withI d f) : ∃ i, d = .int i ∧ f i := by
  unfold withI at h
  split at h
  · exact ⟨_, rfl, h⟩
  · exact h.elim
def withO (d : D) (f : Nat → Prop) : Prop := match d with
  | .obj i => f i
  | _ => False
theorem withO_of {i : Nat} {f : Nat → Prop} : withO (.obj i) f = f i := rfl
theorem withO_inv {d : D} {f : Nat → Prop} (h : withO d f) : ∃ i, d = .obj i ∧ f i := by
  unfold withO at h
  split at h
  · exact ⟨_, rfl, h⟩
  · exact h.elim
def withX (d : D) (f : Str → Prop) : Prop := match d with
  | .str i => f i
  | _ => False
theorem withX_of {i : Str} {f : Str → Prop} : withX (.str i) f = f i := rfl
theorem withX_inv {d : D} {f : Str → Prop} (h : withX d f) : ∃ i, d = .str i ∧ f i := by
  unfold withX at h
  split at h
  · exact ⟨_, rfl, h⟩
  · exact h.elim
def tyNames : List String := ["NoneType", "int", "bool", "tuple", "str", "list", "dict"]
/-! odd values -/
def pv (S : SS) (d : D) : Prop := ∃ t, tyD S d = some (.inl t) ∧ t ∈ tyNames
def wf1 (S : SS) (d : D) : Prop := pv S d ∧ ∀ ds, d = .tup ds → ∀ e ∈ ds, pv S e
def wf2 (S : SS) (d : D) : Prop := pv S d ∧ ∀ ds, d = .tup ds → ∀ e ∈ ds, wf1 S e
def isI : D → Bool
  | .int _ => true
  | _ => false
def isP : D → Bool
  | .tup [a, b] => isI a && isI b
  | _ => false
def noM (S : SS) (d : D) : Prop := wf2 S d ∧ ∀ m, d ≠ dM m
def INDEX : Str := Str.ofString "index"
def VALUE : Str := Str.ofString "value"
/-! words -/
def okC (c : Nat) : Bool := c == 83 || (c == 82 || c == 114)
def okAt (l : List Nat) (i : Nat) : Bool := match l[i]? with
  | some c => okC c && (match i with
    | 0 => true
    | j + 1 => (match l[j]? with
      | some p => (c == 83) != (p == 83)
      | none => true))
  | none => true
def WordOk (x : Str) : Prop := ∀ i, okAt x.cps.toList i = true
def badW (l : List Nat) : Option Nat := (List.range l.length).find? fun i => !okAt l i
def badD (d : D) : Option D := match d with
  | .str x => if x.length ≤ 2000 then (badW x.cps.toList).map fun i => .int (i : Nat) else some .non
  | _ => some .non
/-! fractions -/
def dF (p q : Int) : D := .tup [.int p, .int q]
def FrOk (p q : Int) : Prop := (p = 1 ∧ q = 0) ∨ (0 < q ∧ Int.gcd p q = 1)
def sgnF (a b : Int) : Int × Int := if 0 < b ∨ b = 0 ∧ 0 < a then (a, b) else (-a, -b)
def tk (m : M) (f : Int × Int) : Int × Int := sgnF (m.a * f.1 + m.b * f.2) (m.c * f.1 + m.d * f.2)
def dFp (f : Int × Int) : D := dF f.1 f.2
def szF (f : Int × Int) : Prop := f.1.natAbs < 2 ^ 3000 ∧ f.2.natAbs < 2 ^ 3000
def noF (S : SS) (d : D) : Prop := wf1 S d ∧ ∀ p q, d ≠ dF p q
namespace M
def pw (m : M) : Nat → M
  | 0 => one
  | n + 1 => (pw m n).times m
end M
def sp_is_integer (c : CA) : GSp := sp1 fun d S Q _ => pv S d ∧ Q (.bl (isI d)) S
def sp_is_pair (c : CA) : GSp := sp1 fun d S Q _ => wf1 S d ∧ Q (.bl (isP d)) S
def sp_is_unit (c : CA) : GSp := sp1 fun d S Q _ => (∃ m, d = dM m ∧ m.sz 3000 ∧ Q (.bl (decide (m.det = 1))) S) ∨ (noM S d ∧ Q (.bl false) S)
def sp_normal_of (c : CA) : GSp := sp1 fun d S Q _ => withM d fun m => Q (dM m.nf) S
def sp_is_matrix (c : CA) : GSp := sp1 fun d S Q _ => (∃ m, d = dM m ∧ m.sz 3000 ∧ Q (.bl (decide m.ok)) S) ∨ (noM S d ∧ Q (.bl false) S)
def sp_need_matrix (c : CA) : GSp := sp1 fun d S Q X => (∃ m, d = dM m ∧ m.sz 3000 ∧ (m.ok → Q .non S) ∧ (¬ m.ok → X c.BadMatrix [] S)) ∨ (noM S d ∧ X c.BadMatrix [] S)
def sp_times (c : CA) : GSp := sp2 fun d e S Q _ => withM d fun m => withM e fun n => m.sz 5000 ∧ n.sz 5000 ∧ Q (dM (m.times n)) S
def sp_inverse_of (c : CA) : GSp := sp1 fun d S Q _ => withM d fun m => Q (dM m.inv) S
def sp_power_of (c : CA) : GSp := sp2 fun d e S Q _ => withM d fun m => withI e fun n => 0 ≤ n ∧ n ≤ 200 ∧ m.ok ∧ m.sz 4 ∧ Q (dM (m.pw n.toNat)) S ∨ 0 ≤ n ∧ n ≤ 13 ∧ m.ok ∧ m.sz 40 ∧ Q (dM (m.pw n.toNat)) S
def sp_common_divisor (c : CA) : GSp := sp2 fun d e S Q _ => withI d fun p => withI e fun q => Q (.int (Int.gcd p q : Nat)) S
def sp_is_fraction (c : CA) : GSp := sp1 fun d S Q _ => (∃ p q, d = dF p q ∧ ∀ b : Bool, (b = true ↔ FrOk p q) → Q (.bl b) S) ∨ (noF S d ∧ Q (.bl false) S)
def sp_need_fraction (c : CA) : GSp := sp1 fun d S Q X => (∃ p q, d = dF p q ∧ (FrOk p q → Q .non S) ∧ (¬ FrOk p q → X c.BadFraction [] S)) ∨ (noF S d ∧ X c.BadFraction [] S)
def sp_taken_to (c : CA) : GSp := sp2 fun d e S Q _ => withM d fun m => ∃ p q, e = dF p q ∧ m.sz 3000 ∧ szF (p, q) ∧ Q (dFp (tk m (p, q))) S
def sp__law_moved (c : CA) : GSp := sp2 fun d e S Q _ => withM d fun m => ∃ p q, e = dF p q ∧ m.sz 3000 ∧ szF (p, q) ∧ Q (dFp (tk m (p, q))) S
def sp_need_word (c : CA) : GSp := sp1 fun d S Q X => pv S d ∧ (∀ x, d = .str x → x.length ≤ 100000) ∧ match badD d with
  | none => Q .non S
  | some e => X c.BadWord [(INDEX, e)] S
def sp_matrix_of_letter (c : CA) : GSp := sp1 fun d S Q _ => withX d fun x => Q (dM (letM x)) S
def sp_matrix_of_text (c : CA) : GSp := sp1 fun d S Q _ => withX d fun x => x.length ≤ 100 ∧ Q (dM (matW x.cps.toList)) S
def sp_Turn___init__ (c : CA) : GSp := sp2 fun s d S Q X => withO s fun k => (∃ m, d = dM m ∧ m.sz 3000 ∧ (m.ok → S[k]? = some (.ins c.Turn []) ∧ Q .non (S.set k (oT c m))) ∧ (¬ m.ok → X c.BadMatrix [] S)) ∨ (noM S d ∧ X c.BadMatrix [] S)
def sp_Turn_of_word (c : CA) : GSp := sp2 fun s d S Q X => s = .ref c.Turn ∧ pv S d ∧ (∀ x, d = .str x → x.length ≤ 100) ∧ match badD d with
  | none => withX d fun x => Q (.obj S.length) (S ++ [oT c (matW x.cps.toList)])
  | some e => X c.BadWord [(INDEX, e)] S
def sp_Turn_rows (c : CA) : GSp := sp1 fun s S Q _ => withT c S s fun m => Q (dM m) S
def sp_Turn___mul__ (c : CA) : GSp := sp2 fun s d S Q _ => withT c S s fun m => withT c S d fun n => m.sz 1000 ∧ n.sz 1000 ∧ m.ok ∧ n.ok ∧ Q (.obj S.length) (S ++ [oT c (m.times n)])
def sp_Turn___invert__ (c : CA) : GSp := sp1 fun s S Q _ => withT c S s fun m => m.ok ∧ m.sz 1000 ∧ Q (.obj S.length) (S ++ [oT c m.inv])
def sp_Turn___call__ (c : CA) : GSp := sp2 fun s d S Q X => withT c S s fun m => m.sz 3000 ∧ ((∃ p q, d = dF p q ∧ szF (p, q) ∧ (FrOk p q → Q (dFp (tk m (p, q))) S) ∧ (¬ FrOk p q → X c.BadFraction [] S)) ∨ (noF S d ∧ X c.BadFraction [] S))
def sp_Turn_raised (c : CA) : GSp := sp2 fun s d S Q X => withT c S s fun m => pv S d ∧ m.ok ∧ ((∃ n : Int, d = .int n ∧ -200 ≤ n ∧ n ≤ 200 ∧ (m.sz 4 ∨ m.sz 40 ∧ -13 ≤ n ∧ n ≤ 13) ∧ Q (.obj S.length) (S ++ [oT c (if 0 ≤ n then m.pw n.toNat else m.inv.pw (-n).toNat)])) ∨
  ((∀ n : Int, d = .int n → n < -200 ∨ 200 < n) ∧ X c.BadNumber [(VALUE, d)] S))
def sp__law_source (c : CA) : GSp := sp2 fun d e S Q _ => ∃ (ns : List Int) (k : Int), d = .rol (ns.map .int) ∧ e = .int k ∧ 0 ≤ k ∧ k < 1000 ∧ ∀ cell g, Q (.obj (S.length + 1)) (S ++ [.lst [], srcO cell (3 * k) g])
def sp__law_next (c : CA) : GSp := sp2 fun d e S Q _ => withI e fun many => withSrc S d fun k cell n g => 0 < many ∧ many < 1073741824 ∧ 0 ≤ n ∧ n < 2 ^ 40 ∧ ∀ v n' g', 0 ≤ v → v < many → 0 ≤ n' → n' ≤ n + 1 → Q (.int v) (S.set k (srcO cell n' g'))
def sp__law_signed (c : CA) : GSp := sp1 fun d S Q _ => withM d fun m => Q (dM m.nf) S
def sp__law_times (c : CA) : GSp := sp2 fun d e S Q _ => withM d fun m => withM e fun n => m.sz 1000 ∧ n.sz 1000 ∧ Q (dM (m.times n)) S
def sp__law_back (c : CA) : GSp := sp1 fun d S Q _ => withM d fun m => Q (dM m.inv) S
def sp__law_of (c : CA) : GSp := sp1 fun d S Q _ => withX d fun x => PyData.strOk x = true ∧ Q (dM (letM x)) S
def sp__law_matrix (c : CA) : GSp := sp1 fun d S Q _ => withX d fun x => x.length ≤ 100 ∧ PyData.strOk x = true ∧ Q (dM (matW x.cps.toList)) S
def sp__law_text (c : CA) : GSp := sp2 fun d e S Q _ => withI e fun size => withSrc S d fun k cell n g => 0 ≤ size ∧ size < 100 ∧ 0 ≤ n ∧ n < 2 ^ 39 ∧ ∀ (x : Str) n' g', x.length = size.toNat → PyData.strOk x = true → WordOk x → 0 ≤ n' → n' ≤ n + 2 * size → Q (.str x) (S.set k (srcO cell n' g'))
def sp__law_repeated (c : CA) : GSp := sp2 fun d e S Q _ => withM d fun m => withI e fun n => 0 ≤ n ∧ n ≤ 13 ∧ m.sz 40 ∧ Q (dM (m.pw n.toNat)) S
def sp__law_calls_right (c : CA) : GSp := sp1 fun d S Q _ => withSrc S d fun k cell n g => 0 ≤ n ∧ n < 2 ^ 38 ∧ ∀ n' g', 0 ≤ n' → n' ≤ n + 1000 → Q (.bl true) (S.set k (srcO cell n' g'))
def sp__law_refusals_right (c : CA) : GSp := sp1 fun d S Q _ => withSrc S d fun k cell n g => 0 ≤ n ∧ n < 2 ^ 38 ∧ ∀ n' g', 0 ≤ n' → n' ≤ n + 1000 → Q (.bl true) (S.set k (srcO cell n' g'))
def sp_law (c : CA) : GSp := sp1 fun d S Q _ => ∃ ns : List Int, d = .rol (ns.map .int) ∧ ∀ S', Q (.bl true) S'
end Gh

namespace Gh
open PySem
def N_common_divisor : List Str := ["one", "other"]
def b_common_divisor (c : CA) (X : Sl → GX) : GS :=
    (gsSeq (gsPar2 0 1 (gCons (gBlt cAbs (gCons (gV 0) gNil)) (gCons (gBlt cAbs (gCons (gV 1) gNil)) gNil)))
    (gsSeq (gsWhile (gtV (gBin oGt (gV 1) (gC (.int 0)))) (gsPar2 0 1 (gCons (gV 1) (gCons (gBin oMod (gV 0) (gV 1)) gNil))))
    (gsRet (gV 0))))
def N_is_integer : List Str := ["value"]
def b_is_integer (c : CA) (X : Sl → GX) : GS :=
    (gsRet (gAndV (gBlt (cIsi (.ty "int") (isiB "int" c.own)) (gCons (gV 0) (gCons (gC (.ty "int")) gNil))) (gNotV (gBlt (cIsi (.ty "bool") (isiB "bool" c.own)) (gCons (gV 0) (gCons (gC (.ty "bool")) gNil))))))
def N_is_pair : List Str := ["value"]
def b_is_pair (c : CA) (X : Sl → GX) : GS :=
    (gsRet (gAndV (gBlt (cIsi (.ty "tuple") (isiB "tuple" c.own)) (gCons (gV 0) (gCons (gC (.ty "tuple")) gNil))) (gAndV (gBin oEq (gBlt cLen (gCons (gV 0) gNil)) (gC (.int 2))) (gAndV (gCall (sp_is_integer c) X (gCons (gBin oIx (gV 0) (gC (.int 0))) gNil)) (gCall (sp_is_integer c) X (gCons (gBin oIx (gV 0) (gC (.int 1))) gNil))))))
def N_is_fraction : List Str := ["value"]
def b_is_fraction (c : CA) (X : Sl → GX) : GS :=
    (gsSeq (gsIf (gtNot (gtT (gCall (sp_is_pair c) X (gCons (gV 0) gNil)))) (gsRet (gC (.bl false))) gsNx)
    (gsRet (gOrV (gBin oEq (gV 0) (gTup (gCons (gC (.int 1)) (gCons (gC (.int 0)) gNil)))) (gAndV (gBin oGt (gBin oIx (gV 0) (gC (.int 1))) (gC (.int 0))) (gBin oEq (gCall (sp_common_divisor c) X (gCons (gBin oIx (gV 0) (gC (.int 0))) (gCons (gBin oIx (gV 0) (gC (.int 1))) gNil))) (gC (.int 1)))))))
def N_need_fraction : List Str := ["fraction"]
def b_need_fraction (c : CA) (X : Sl → GX) : GS :=
    (gsIf (gtNot (gtT (gCall (sp_is_fraction c) X (gCons (gV 0) gNil)))) (gsRaise0 X c.BadFraction) gsNx)
def N_taken_to : List Str := ["matrix", "fraction", "a", "b", "c", "d", "p", "q", "above", "below"]
def b_taken_to (c : CA) (X : Sl → GX) : GS :=
    (gsSeq (gsAsg (gV 0) (ggP (.tp [(.tp [(.nm 2), (.nm 3)]), (.tp [(.nm 4), (.nm 5)])])))
    (gsSeq (gsAsg (gV 1) (ggP (.tp [(.nm 6), (.nm 7)])))
    (gsSeq (gsPar2 8 9 (gCons (gBin oAdd (gBin oMul (gV 2) (gV 6)) (gBin oMul (gV 3) (gV 7))) (gCons (gBin oAdd (gBin oMul (gV 4) (gV 6)) (gBin oMul (gV 5) (gV 7))) gNil)))
    (gsRet (gIfE (gtOr (gtV (gBin oGt (gV 9) (gC (.int 0)))) (gtAnd (gtV (gBin oEq (gV 9) (gC (.int 0)))) (gtV (gBin oGt (gV 8) (gC (.int 0)))))) (gTup (gCons (gV 8) (gCons (gV 9) gNil))) (gTup (gCons (gUn uNeg (gV 8)) (gCons (gUn uNeg (gV 9)) gNil))))))))
def N_Turn___call__ : List Str := ["self", "fraction"]
def b_Turn___call__ (c : CA) (X : Sl → GX) : GS :=
    (gsSeq (gsDrop (gCall (sp_need_fraction c) X (gCons (gV 1) gNil)))
    (gsRet (gCall (sp_taken_to c) X (gCons (gFld (oks [c.Turn]) (Str.ofString "held") (gV 0)) (gCons (gV 1) gNil)))))
def N_is_unit : List Str := ["value", "a", "b", "c", "d"]
def b_is_unit (c : CA) (X : Sl → GX) : GS :=
    (gsSeq (gsIf (gtOr (gtNot (gtT (gBlt (cIsi (.ty "tuple") (isiB "tuple" c.own)) (gCons (gV 0) (gCons (gC (.ty "tuple")) gNil))))) (gtOr (gtV (gBin oNe (gBlt cLen (gCons (gV 0) gNil)) (gC (.int 2)))) (gtOr (gtNot (gtT (gCall (sp_is_pair c) X (gCons (gBin oIx (gV 0) (gC (.int 0))) gNil)))) (gtNot (gtT (gCall (sp_is_pair c) X (gCons (gBin oIx (gV 0) (gC (.int 1))) gNil))))))) (gsRet (gC (.bl false))) gsNx)
    (gsSeq (gsAsg (gV 0) (ggP (.tp [(.tp [(.nm 1), (.nm 2)]), (.tp [(.nm 3), (.nm 4)])])))
    (gsRet (gBin oEq (gBin oSub (gBin oMul (gV 1) (gV 4)) (gBin oMul (gV 2) (gV 3))) (gC (.int 1))))))
def N_normal_of : List Str := ["rows", "a", "b", "c", "d"]
def b_normal_of (c : CA) (X : Sl → GX) : GS :=
    (gsSeq (gsAsg (gV 0) (ggP (.tp [(.tp [(.nm 1), (.nm 2)]), (.tp [(.nm 3), (.nm 4)])])))
    (gsSeq (gsIf (gtOr (gtV (gBin oGt (gV 3) (gC (.int 0)))) (gtAnd (gtV (gBin oEq (gV 3) (gC (.int 0)))) (gtV (gBin oGt (gV 1) (gC (.int 0)))))) (gsRet (gTup (gCons (gTup (gCons (gV 1) (gCons (gV 2) gNil))) (gCons (gTup (gCons (gV 3) (gCons (gV 4) gNil))) gNil)))) gsNx)
    (gsRet (gTup (gCons (gTup (gCons (gUn uNeg (gV 1)) (gCons (gUn uNeg (gV 2)) gNil))) (gCons (gTup (gCons (gUn uNeg (gV 3)) (gCons (gUn uNeg (gV 4)) gNil))) gNil))))))
def N_is_matrix : List Str := ["value"]
def b_is_matrix (c : CA) (X : Sl → GX) : GS :=
    (gsRet (gAndV (gCall (sp_is_unit c) X (gCons (gV 0) gNil)) (gBin oEq (gV 0) (gCall (sp_normal_of c) X (gCons (gV 0) gNil)))))
def N_need_matrix : List Str := ["matrix"]
def b_need_matrix (c : CA) (X : Sl → GX) : GS :=
    (gsIf (gtNot (gtT (gCall (sp_is_matrix c) X (gCons (gV 0) gNil)))) (gsRaise0 X c.BadMatrix) gsNx)
def N_Turn___init__ : List Str := ["self", "matrix"]
def b_Turn___init__ (c : CA) (X : Sl → GX) : GS :=
    (gsSeq (gsDrop (gCall (sp_need_matrix c) X (gCons (gV 1) gNil)))
    (gsFld (oks [c.Turn]) (Str.ofString "held") (gV 0) (gV 1)))
def N_inverse_of : List Str := ["matrix", "a", "b", "c", "d"]
def b_inverse_of (c : CA) (X : Sl → GX) : GS :=
    (gsSeq (gsAsg (gV 0) (ggP (.tp [(.tp [(.nm 1), (.nm 2)]), (.tp [(.nm 3), (.nm 4)])])))
    (gsRet (gCall (sp_normal_of c) X (gCons (gTup (gCons (gTup (gCons (gV 4) (gCons (gUn uNeg (gV 2)) gNil))) (gCons (gTup (gCons (gUn uNeg (gV 3)) (gCons (gV 1) gNil))) gNil))) gNil))))
def N_times : List Str := ["one", "other", "a", "b", "c", "d", "p", "q", "u", "v"]
def b_times (c : CA) (X : Sl → GX) : GS :=
    (gsSeq (gsAsg (gV 0) (ggP (.tp [(.tp [(.nm 2), (.nm 3)]), (.tp [(.nm 4), (.nm 5)])])))
    (gsSeq (gsAsg (gV 1) (ggP (.tp [(.tp [(.nm 6), (.nm 7)]), (.tp [(.nm 8), (.nm 9)])])))
    (gsRet (gCall (sp_normal_of c) X (gCons (gTup (gCons (gTup (gCons (gBin oAdd (gBin oMul (gV 2) (gV 6)) (gBin oMul (gV 3) (gV 8))) (gCons (gBin oAdd (gBin oMul (gV 2) (gV 7)) (gBin oMul (gV 3) (gV 9))) gNil))) (gCons (gTup (gCons (gBin oAdd (gBin oMul (gV 4) (gV 6)) (gBin oMul (gV 5) (gV 8))) (gCons (gBin oAdd (gBin oMul (gV 4) (gV 7)) (gBin oMul (gV 5) (gV 9))) gNil))) gNil))) gNil)))))
def N_power_of : List Str := ["matrix", "exponent", "found", "factor"]
def b_power_of (c : CA) (X : Sl → GX) : GS :=
    (gsSeq (gsPar2 2 3 (gCons (gC (.tup [(.tup [(.int 1), (.int 0)]), (.tup [(.int 0), (.int 1)])])) (gCons (gV 0) gNil)))
    (gsSeq (gsWhile (gtV (gBin oGt (gV 1) (gC (.int 0)))) (gsSeq (gsIf (gtV (gBin oEq (gBin oMod (gV 1) (gC (.int 2))) (gC (.int 1)))) (gsAsg (gCall (sp_times c) X (gCons (gV 2) (gCons (gV 3) gNil))) (ggP (.nm 2))) gsNx)
    (gsSeq (gsAsg (gCall (sp_times c) X (gCons (gV 3) (gCons (gV 3) gNil))) (ggP (.nm 3)))
    (gsAsg (gBin oFdiv (gV 1) (gC (.int 2))) (ggP (.nm 1))))))
    (gsRet (gV 2))))
def N_Turn_raised : List Str := ["self", "exponent"]
def b_Turn_raised (c : CA) (X : Sl → GX) : GS :=
    (gsSeq (gsIf (gtOr (gtNot (gtT (gCall (sp_is_integer c) X (gCons (gV 1) gNil)))) (gtNot (gtV (gChain oLe oLe (gUn uNeg (gCon (oks [c.Turn]) (Str.ofString "MOST_EXPONENT") (.int 200) (gV 0))) (gV 1) (gCon (oks [c.Turn]) (Str.ofString "MOST_EXPONENT") (.int 200) (gV 0)))))) (gsRaise1 X c.BadNumber (Str.ofString "value") (gV 1)) gsNx)
    (gsRet (gMake c.Turn (sp_Turn___init__ c) X (gCons (gCall (sp_power_of c) X (gCons (gIfE (gtV (gBin oGe (gV 1) (gC (.int 0)))) (gFld (oks [c.Turn]) (Str.ofString "held") (gV 0)) (gCall (sp_inverse_of c) X (gCons (gFld (oks [c.Turn]) (Str.ofString "held") (gV 0)) gNil))) (gCons (gBlt cAbs (gCons (gV 1) gNil)) gNil))) gNil))))
def N_Turn_rows : List Str := ["self"]
def b_Turn_rows (c : CA) (X : Sl → GX) : GS :=
    (gsRet (gFld (oks [c.Turn]) (Str.ofString "held") (gV 0)))
def N_Turn___invert__ : List Str := ["self"]
def b_Turn___invert__ (c : CA) (X : Sl → GX) : GS :=
    (gsRet (gMake c.Turn (sp_Turn___init__ c) X (gCons (gCall (sp_inverse_of c) X (gCons (gFld (oks [c.Turn]) (Str.ofString "held") (gV 0)) gNil)) gNil)))
def N_Turn___mul__ : List Str := ["self", "other"]
def b_Turn___mul__ (c : CA) (X : Sl → GX) : GS :=
    (gsRet (gMake c.Turn (sp_Turn___init__ c) X (gCons (gCall (sp_times c) X (gCons (gFld (oks [c.Turn]) (Str.ofString "held") (gV 0)) (gCons (gFld (oks [c.Turn]) (Str.ofString "held") (gV 1)) gNil))) gNil)))
def N_matrix_of_letter : List Str := ["letter"]
def b_matrix_of_letter (c : CA) (X : Sl → GX) : GS :=
    (gsSeq (gsIf (gtV (gBin oEq (gV 0) (gC (.str ⟨#[83]⟩)))) (gsRet (gC (.tup [(.tup [(.int 0), (.int (-1))]), (.tup [(.int 1), (.int 0)])]))) gsNx)
    (gsRet (gIfE (gtV (gBin oEq (gV 0) (gC (.str ⟨#[82]⟩)))) (gC (.tup [(.tup [(.int 0), (.int (-1))]), (.tup [(.int 1), (.int 1)])])) (gCall (sp_inverse_of c) X (gCons (gC (.tup [(.tup [(.int 0), (.int (-1))]), (.tup [(.int 1), (.int 1)])])) gNil)))))
def N_matrix_of_text : List Str := ["text", "found", "letter"]
def b_matrix_of_text (c : CA) (X : Sl → GX) : GS :=
    (gsSeq (gsAsg (gC (.tup [(.tup [(.int 1), (.int 0)]), (.tup [(.int 0), (.int 1)])])) (ggP (.nm 1)))
    (gsSeq (gsFor (giStr (gV 0)) (ggP (.nm 2)) (gsAsg (gCall (sp_times c) X (gCons (gV 1) (gCons (gCall (sp_matrix_of_letter c) X (gCons (gV 2) gNil)) gNil))) (ggP (.nm 1))))
    (gsRet (gV 1))))
def N_need_word : List Str := ["word", "index", "letter"]
def b_need_word (c : CA) (X : Sl → GX) : GS :=
    (gsSeq (gsIf (gtOr (gtNot (gtT (gBlt (cIsi (.ty "str") (isiB "str" c.own)) (gCons (gV 0) (gCons (gC (.ty "str")) gNil))))) (gtV (gBin oGt (gBlt cLen (gCons (gV 0) gNil)) (gC (.int 2000))))) (gsRaise1 X c.BadWord (Str.ofString "index") (gC .non)) gsNx)
    (gsFor (giEnumS (gCons (gV 0) gNil)) (ggP (.tp [(.nm 1), (.nm 2)])) (gsSeq (gsIf (gtV (gBin (oInF true) (gV 2) (gTup (gCons (gC (.str ⟨#[83]⟩)) (gCons (gC (.str ⟨#[82]⟩)) (gCons (gC (.str ⟨#[114]⟩)) gNil)))))) (gsRaise1 X c.BadWord (Str.ofString "index") (gV 1)) gsNx)
    (gsIf (gtAnd (gtV (gBin oGt (gV 1) (gC (.int 0)))) (gtV (gBin oEq (gBin oEq (gV 2) (gC (.str ⟨#[83]⟩))) (gBin oEq (gBin oIx (gV 0) (gBin oSub (gV 1) (gC (.int 1)))) (gC (.str ⟨#[83]⟩)))))) (gsRaise1 X c.BadWord (Str.ofString "index") (gV 1)) gsNx))))
def N_Turn_of_word : List Str := ["cls", "word"]
def b_Turn_of_word (c : CA) (X : Sl → GX) : GS :=
    (gsSeq (gsDrop (gCall (sp_need_word c) X (gCons (gV 1) gNil)))
    (gsRet (gMakeV 0 c.Turn (sp_Turn___init__ c) X (gCons (gCall (sp_matrix_of_text c) X (gCons (gV 1) gNil)) gNil))))
def N__law_signed : List Str := ["_law_rows", "_law_a", "_law_b", "_law_c", "_law_d"]
def b__law_signed (c : CA) (X : Sl → GX) : GS :=
    (gsSeq (gsAsg (gV 0) (ggP (.tp [(.tp [(.nm 1), (.nm 2)]), (.tp [(.nm 3), (.nm 4)])])))
    (gsRet (gIfE (gtOr (gtV (gBin oGt (gV 3) (gC (.int 0)))) (gtAnd (gtV (gBin oEq (gV 3) (gC (.int 0)))) (gtV (gBin oGt (gV 1) (gC (.int 0)))))) (gTup (gCons (gTup (gCons (gV 1) (gCons (gV 2) gNil))) (gCons (gTup (gCons (gV 3) (gCons (gV 4) gNil))) gNil))) (gTup (gCons (gTup (gCons (gBin oSub (gC (.int 0)) (gV 1)) (gCons (gBin oSub (gC (.int 0)) (gV 2)) gNil))) (gCons (gTup (gCons (gBin oSub (gC (.int 0)) (gV 3)) (gCons (gBin oSub (gC (.int 0)) (gV 4)) gNil))) gNil))))))
def N__law_back : List Str := ["_law_matrix_here", "_law_a", "_law_b", "_law_c", "_law_d"]
def b__law_back (c : CA) (X : Sl → GX) : GS :=
    (gsSeq (gsAsg (gV 0) (ggP (.tp [(.tp [(.nm 1), (.nm 2)]), (.tp [(.nm 3), (.nm 4)])])))
    (gsRet (gCall (sp__law_signed c) X (gCons (gTup (gCons (gTup (gCons (gV 4) (gCons (gBin oSub (gC (.int 0)) (gV 2)) gNil))) (gCons (gTup (gCons (gBin oSub (gC (.int 0)) (gV 3)) (gCons (gV 1) gNil))) gNil))) gNil))))
def N__law_of : List Str := ["_law_letter"]
def b__law_of (c : CA) (X : Sl → GX) : GS :=
    (gsSeq (gsIf (gtV (gBin oEq (gV 0) (gC (.str ⟨#[83]⟩)))) (gsRet (gTup (gCons (gTup (gCons (gC (.int 0)) (gCons (gUn uNeg (gC (.int 1))) gNil))) (gCons (gTup (gCons (gC (.int 1)) (gCons (gC (.int 0)) gNil))) gNil)))) gsNx)
    (gsRet (gIfE (gtV (gBin oEq (gV 0) (gC (.str ⟨#[82]⟩)))) (gTup (gCons (gTup (gCons (gC (.int 0)) (gCons (gUn uNeg (gC (.int 1))) gNil))) (gCons (gTup (gCons (gC (.int 1)) (gCons (gC (.int 1)) gNil))) gNil))) (gTup (gCons (gTup (gCons (gUn uNeg (gC (.int 1))) (gCons (gUn uNeg (gC (.int 1))) gNil))) (gCons (gTup (gCons (gC (.int 1)) (gCons (gC (.int 0)) gNil))) gNil))))))
def N__law_times : List Str := ["_law_one", "_law_other", "_law_a", "_law_b", "_law_c", "_law_d", "_law_p", "_law_q", "_law_u", "_law_v"]
def b__law_times (c : CA) (X : Sl → GX) : GS :=
    (gsSeq (gsAsg (gV 0) (ggP (.tp [(.tp [(.nm 2), (.nm 3)]), (.tp [(.nm 4), (.nm 5)])])))
    (gsSeq (gsAsg (gV 1) (ggP (.tp [(.tp [(.nm 6), (.nm 7)]), (.tp [(.nm 8), (.nm 9)])])))
    (gsRet (gCall (sp__law_signed c) X (gCons (gTup (gCons (gTup (gCons (gBin oAdd (gBin oMul (gV 2) (gV 6)) (gBin oMul (gV 3) (gV 8))) (gCons (gBin oAdd (gBin oMul (gV 2) (gV 7)) (gBin oMul (gV 3) (gV 9))) gNil))) (gCons (gTup (gCons (gBin oAdd (gBin oMul (gV 4) (gV 6)) (gBin oMul (gV 5) (gV 8))) (gCons (gBin oAdd (gBin oMul (gV 4) (gV 7)) (gBin oMul (gV 5) (gV 9))) gNil))) gNil))) gNil)))))
def N__law_matrix : List Str := ["_law_text_here", "_law_found", "_law_letter"]
def b__law_matrix (c : CA) (X : Sl → GX) : GS :=
    (gsSeq (gsAsg (gTup (gCons (gTup (gCons (gC (.int 1)) (gCons (gC (.int 0)) gNil))) (gCons (gTup (gCons (gC (.int 0)) (gCons (gC (.int 1)) gNil))) gNil))) (ggP (.nm 1)))
    (gsSeq (gsFor (giStr (gV 0)) (ggP (.nm 2)) (gsAsg (gCall (sp__law_times c) X (gCons (gV 1) (gCons (gCall (sp__law_of c) X (gCons (gV 2) gNil)) gNil))) (ggP (.nm 1))))
    (gsRet (gV 1))))
def N__law_moved : List Str := ["_law_matrix_here", "_law_fraction", "_law_a", "_law_b", "_law_c", "_law_d", "_law_p", "_law_q", "_law_above", "_law_below"]
def b__law_moved (c : CA) (X : Sl → GX) : GS :=
    (gsSeq (gsAsg (gV 0) (ggP (.tp [(.tp [(.nm 2), (.nm 3)]), (.tp [(.nm 4), (.nm 5)])])))
    (gsSeq (gsAsg (gV 1) (ggP (.tp [(.nm 6), (.nm 7)])))
    (gsSeq (gsPar2 8 9 (gCons (gBin oAdd (gBin oMul (gV 2) (gV 6)) (gBin oMul (gV 3) (gV 7))) (gCons (gBin oAdd (gBin oMul (gV 4) (gV 6)) (gBin oMul (gV 5) (gV 7))) gNil)))
    (gsRet (gIfE (gtOr (gtV (gBin oGt (gV 9) (gC (.int 0)))) (gtAnd (gtV (gBin oEq (gV 9) (gC (.int 0)))) (gtV (gBin oGt (gV 8) (gC (.int 0)))))) (gTup (gCons (gV 8) (gCons (gV 9) gNil))) (gTup (gCons (gBin oSub (gC (.int 0)) (gV 8)) (gCons (gBin oSub (gC (.int 0)) (gV 9)) gNil))))))))
def N__law_next : List Str := ["_law_source_here", "_law_many", "_law_found", "_law_primes", "_law_prime"]
def b__law_next (c : CA) (X : Sl → GX) : GS :=
    (gsSeq (gsIf (gtV (gBin oGt (gBin oIx (gV 0) (gC (.int 2))) (gC (.int 0)))) (gsSeq (gsAsg (gBin oMod (gBin oIx (gV 0) (gC (.int 2))) (gV 1)) (ggP (.nm 2)))
    (gsSeq (gsAsg (gBin oFdiv (gBin oIx (gV 0) (gC (.int 2))) (gV 1)) (ggSub oSetIx (gV 0) (gC (.int 2))))
    (gsRet (gV 2)))) gsNx)
    (gsSeq (gsAsg (gBin oAdd (gBin oIx (gV 0) (gC (.int 1))) (gC (.int 1))) (ggSub oSetIx (gV 0) (gC (.int 1))))
    (gsSeq (gsAsg (gLst (gCons (gC (.int 2147483647)) (gCons (gC (.int 2147483629)) (gCons (gC (.int 2147483587)) (gCons (gC (.int 2147483579)) (gCons (gC (.int 2147483563)) (gCons (gC (.int 2147483549)) (gCons (gC (.int 2147483543)) (gCons (gC (.int 2147483497)) gNil))))))))) (ggP (.nm 3)))
    (gsSeq (gsAsg (gBin oIx (gBin oAdd (gV 3) (gLst (gCons (gC (.int 2147483489)) (gCons (gC (.int 2147483477)) (gCons (gC (.int 2147483423)) gNil))))) (gBin oMod (gBin oIx (gV 0) (gC (.int 1))) (gC (.int 11)))) (ggP (.nm 4)))
    (gsRet (gBin oMod (gBin oFdiv (gBin oMod (gBin oPow (gBin oAdd (gBin oAdd (gBin oMod (gBin oIx (gV 0) (gC (.int 0))) (gV 4)) (gBin oMul (gC (.int 7919)) (gBin oIx (gV 0) (gC (.int 1))))) (gC (.int 1))) (gC (.int 5))) (gV 4)) (gC (.int 13))) (gV 1)))))))
def N__law_repeated : List Str := ["_law_matrix_here", "_law_many", "_law_found", "_law_turn"]
def b__law_repeated (c : CA) (X : Sl → GX) : GS :=
    (gsSeq (gsAsg (gTup (gCons (gTup (gCons (gC (.int 1)) (gCons (gC (.int 0)) gNil))) (gCons (gTup (gCons (gC (.int 0)) (gCons (gC (.int 1)) gNil))) gNil))) (ggP (.nm 2)))
    (gsSeq (gsFor (giRng1 (gCons (gV 1) gNil)) (ggP (.nm 3)) (gsAsg (gCall (sp__law_times c) X (gCons (gV 2) (gCons (gV 0) gNil))) (ggP (.nm 2))))
    (gsRet (gV 2))))
def N__law_text : List Str := ["_law_source_here", "_law_size", "_law_found", "_law_k", "_law_turns"]
def b__law_text (c : CA) (X : Sl → GX) : GS :=
    (gsSeq (gsAsg (gC (.str ⟨#[]⟩)) (ggP (.nm 2)))
    (gsSeq (gsFor (giRng1 (gCons (gV 1) gNil)) (ggP (.nm 3)) (gsSeq (gsAsg (gBin oIx (gLst (gCons (gC (.str ⟨#[82]⟩)) (gCons (gC (.str ⟨#[114]⟩)) gNil))) (gCall (sp__law_next c) X (gCons (gV 0) (gCons (gC (.int 2)) gNil)))) (ggP (.nm 4)))
    (gsIf (gtV (gBin oEq (gV 2) (gC (.str ⟨#[]⟩)))) (gsAsg (gIfE (gtV (gBin oEq (gCall (sp__law_next c) X (gCons (gV 0) (gCons (gC (.int 2)) gNil))) (gC (.int 0)))) (gC (.str ⟨#[83]⟩)) (gV 4)) (ggP (.nm 2))) (gsAsg (gBin oAdd (gV 2) (gIfE (gtV (gBin oEq (gBin oIx (gV 2) (gUn uNeg (gC (.int 1)))) (gC (.str ⟨#[83]⟩)))) (gV 4) (gC (.str ⟨#[83]⟩)))) (ggP (.nm 2))))))
    (gsRet (gV 2))))
def N__law_calls_right : List Str := ["_law_source_here", "_law_one", "_law_other", "_law_x", "_law_y", "_law_u", "_law_v", "_law_f", "_law_many", "_law_due"]
def b__law_calls_right (c : CA) (X : Sl → GX) : GS :=
    (gsSeq (gsPar2 1 2 (gCons (gCall (sp__law_text c) X (gCons (gV 0) (gCons (gCall (sp__law_next c) X (gCons (gV 0) (gCons (gC (.int 13)) gNil))) gNil))) (gCons (gCall (sp__law_text c) X (gCons (gV 0) (gCons (gCall (sp__law_next c) X (gCons (gV 0) (gCons (gC (.int 13)) gNil))) gNil))) gNil)))
    (gsSeq (gsPar2 3 4 (gCons (gCall (sp_Turn_of_word c) X (gCons (gC (.ref c.Turn)) (gCons (gV 1) gNil))) (gCons (gCall (sp_Turn_of_word c) X (gCons (gC (.ref c.Turn)) (gCons (gV 2) gNil))) gNil)))
    (gsSeq (gsPar2 5 6 (gCons (gCall (sp__law_matrix c) X (gCons (gV 1) gNil)) (gCons (gCall (sp__law_matrix c) X (gCons (gV 2) gNil)) gNil)))
    (gsSeq (gsAsg (gBin oIx (gLst (gCons (gTup (gCons (gC (.int 1)) (gCons (gC (.int 0)) gNil))) (gCons (gTup (gCons (gC (.int 0)) (gCons (gC (.int 1)) gNil))) (gCons (gTup (gCons (gC (.int 3)) (gCons (gC (.int 7)) gNil))) (gCons (gTup (gCons (gUn uNeg (gC (.int 10))) (gCons (gC (.int 3)) gNil))) (gCons (gTup (gCons (gBin oPow (gC (.int 10)) (gC (.int 20))) (gCons (gC (.int 3)) gNil))) gNil)))))) (gCall (sp__law_next c) X (gCons (gV 0) (gCons (gC (.int 5)) gNil)))) (ggP (.nm 7)))
    (gsSeq (gsIf (gtV (gBin oNe (gLst (gCons (gProp (tbs [(c.Turn, sp_Turn_rows c)]) (gV 3)) (gCons (gProp (tbs [(c.Turn, sp_Turn_rows c)]) (gV 4)) (gCons (gCallO (tbs [(c.Turn, sp_Turn___call__ c)]) X (gV 3) (gCons (gV 7) gNil)) gNil)))) (gLst (gCons (gV 5) (gCons (gV 6) (gCons (gCall (sp__law_moved c) X (gCons (gV 5) (gCons (gV 7) gNil))) gNil)))))) (gsRet (gC (.bl false))) gsNx)
    (gsSeq (gsIf (gtOr (gtV (gBin oNe (gCallO (tbs [(c.Turn, sp_Turn___call__ c)]) X (gBin (oOwnB (tbs [(c.Turn, sp_Turn___mul__ c)])) (gV 3) (gV 4)) (gCons (gV 7) gNil)) (gCallO (tbs [(c.Turn, sp_Turn___call__ c)]) X (gV 3) (gCons (gCallO (tbs [(c.Turn, sp_Turn___call__ c)]) X (gV 4) (gCons (gV 7) gNil)) gNil)))) (gtV (gBin oNe (gCallO (tbs [(c.Turn, sp_Turn___call__ c)]) X (gV 3) (gCons (gCallO (tbs [(c.Turn, sp_Turn___call__ c)]) X (gUn (oOwnU (tbs [(c.Turn, sp_Turn___invert__ c)])) (gV 3)) (gCons (gV 7) gNil)) gNil)) (gV 7)))) (gsRet (gC (.bl false))) gsNx)
    (gsSeq (gsAsg (gCall (sp__law_next c) X (gCons (gV 0) (gCons (gC (.int 13)) gNil))) (ggP (.nm 8)))
    (gsSeq (gsAsg (gLst (gCons (gCall (sp__law_repeated c) X (gCons (gV 5) (gCons (gV 8) gNil))) (gCons (gCall (sp__law_repeated c) X (gCons (gCall (sp__law_back c) X (gCons (gV 5) gNil)) (gCons (gV 8) gNil))) (gCons (gTup (gCons (gTup (gCons (gC (.int 1)) (gCons (gC (.int 0)) gNil))) (gCons (gTup (gCons (gC (.int 0)) (gCons (gC (.int 1)) gNil))) gNil))) (gCons (gV 5) gNil))))) (ggP (.nm 9)))
    (gsRet (gBin oEq (gLst (gCons (gProp (tbs [(c.Turn, sp_Turn_rows c)]) (gMeth (tbs [(c.Turn, sp_Turn_raised c)]) (Str.ofString "raised") X (gV 3) (gCons (gV 8) gNil))) (gCons (gProp (tbs [(c.Turn, sp_Turn_rows c)]) (gMeth (tbs [(c.Turn, sp_Turn_raised c)]) (Str.ofString "raised") X (gV 3) (gCons (gBin oSub (gC (.int 0)) (gV 8)) gNil))) (gCons (gProp (tbs [(c.Turn, sp_Turn_rows c)]) (gMeth (tbs [(c.Turn, sp_Turn_raised c)]) (Str.ofString "raised") X (gV 3) (gCons (gC (.int 0)) gNil))) (gCons (gProp (tbs [(c.Turn, sp_Turn_rows c)]) (gMeth (tbs [(c.Turn, sp_Turn_raised c)]) (Str.ofString "raised") X (gV 3) (gCons (gC (.int 1)) gNil))) gNil))))) (gV 9)))))))))))
def N__law_call_told : List Str := ["_law_deed", "_law_caught", "error", "_law_words", "_law_kinds"]
def b__law_call_told (c : CA) (f : Addr) (dd : GDeed) : GS :=
    (gsSeq (gsAsg (gC .non) (ggP (.nm 1)))
    (gsSeq (gsTryT (oks [c.BadMatrix, c.BadFraction, c.BadWord, c.BadNumber]) 2 1 (fun X => (gsDrop (gAct f dd X))))
    (gsSeq (gsIf (gtV (gBin oIs (gV 1) (gC .non))) (gsRet (gC (.str ⟨#[]⟩))) gsNx)
    (gsSeq (gsIf (gtT (gBlt (cIsiE (.ref c.BadNumber) (isiEx [(c.BadNumber, true), (c.BadMatrix, false), (c.BadFraction, false), (c.BadWord, false)])) (gCons (gV 1) (gCons (gC (.ref c.BadNumber)) gNil)))) (gsRet (gBin oAdd (gC (.str ⟨#[110, 117, 109, 98, 101, 114, 32]⟩)) (gBlt cRepr (gCons (gFldE (oks [c.BadNumber]) (Str.ofString "value") (gV 1)) gNil)))) gsNx)
    (gsSeq (gsAsg (gLst (gCons (gC (.str ⟨#[109, 97, 116, 114, 105, 120]⟩)) (gCons (gC (.str ⟨#[119, 111, 114, 100]⟩)) (gCons (gC (.str ⟨#[102, 114, 97, 99, 116, 105, 111, 110]⟩)) (gCons (gC (.str ⟨#[111, 116, 104, 101, 114]⟩)) gNil))))) (ggP (.nm 3)))
    (gsSeq (gsAsg (gLst (gCons (gBlt (cIsiE (.ref c.BadMatrix) (isiEx [(c.BadMatrix, true), (c.BadFraction, false), (c.BadWord, false), (c.BadNumber, false)])) (gCons (gV 1) (gCons (gC (.ref c.BadMatrix)) gNil))) (gCons (gBlt (cIsiE (.ref c.BadWord) (isiEx [(c.BadWord, true), (c.BadMatrix, false), (c.BadFraction, false), (c.BadNumber, false)])) (gCons (gV 1) (gCons (gC (.ref c.BadWord)) gNil))) gNil))) (ggP (.nm 4)))
    (gsRet (gBin oIx (gV 3) (gBM "list" mIndex (gBin oAdd (gV 4) (gLst (gCons (gBlt (cIsiE (.ref c.BadFraction) (isiEx [(c.BadFraction, true), (c.BadMatrix, false), (c.BadWord, false), (c.BadNumber, false)])) (gCons (gV 1) (gCons (gC (.ref c.BadFraction)) gNil))) (gCons (gC (.bl true)) gNil)))) (gCons (gC (.bl true)) gNil))))))))))
def N__law_refusals_right : List Str := ["_law_source_here", "_law_x", "_law_some", "_law_bad", "_law_wrong", "_law_far"]
def b__law_refusals_right (c : CA) (X : Sl → GX) : GS :=
    (gsSeq (gsAsg (gCall (sp_Turn_of_word c) X (gCons (gC (.ref c.Turn)) (gCons (gC (.str ⟨#[83, 82, 83]⟩)) gNil))) (ggP (.nm 1)))
    (gsSeq (gsAsg (gLst (gCons (gC .non) (gCons (gC (.bl true)) (gCons (gC (.int 0)) (gCons (gC (.str ⟨#[]⟩)) (gCons (gTup gNil) (gCons (gLst gNil) (gCons (gDict0 false) (gCons (gC (.str ⟨#[83, 83]⟩)) (gCons (gTup (gCons (gTup (gCons (gC (.int 1)) (gCons (gC (.int 0)) gNil))) (gCons (gTup (gCons (gC (.int 0)) (gCons (gC (.int 2)) gNil))) gNil))) (gCons (gTup (gCons (gTup (gCons (gC (.int 0)) (gCons (gC (.int 1)) gNil))) (gCons (gTup (gCons (gUn uNeg (gC (.int 1))) (gCons (gC (.int 0)) gNil))) gNil))) (gCons (gTup (gCons (gC (.int 2)) (gCons (gC (.int 4)) gNil))) (gCons (gTup (gCons (gC (.int 0)) (gCons (gC (.int 0)) gNil))) gNil))))))))))))) (ggP (.nm 2)))
    (gsSeq (gsAsg (gBin oAdd (gV 2) (gLst (gCons (gTup (gCons (gC (.bl true)) (gCons (gC (.int 1)) gNil))) (gCons (gTup (gCons (gC (.int 1)) (gCons (gC (.bl false)) gNil))) gNil)))) (ggP (.nm 2)))
    (gsSeq (gsAsg (gBin oIx (gV 2) (gCall (sp__law_next c) X (gCons (gV 0) (gCons (gC (.int 14)) gNil)))) (ggP (.nm 3)))
    (gsSeq (gsIf (gtV (gBin oNe (gLam N__law_call_told (b__law_call_told c) (fun X => (gMake c.Turn (sp_Turn___init__ c) X (gCons (gV 3) gNil)))) (gC (.str ⟨#[109, 97, 116, 114, 105, 120]⟩)))) (gsRet (gC (.bl false))) gsNx)
    (gsSeq (gsIf (gtV (gBin oNe (gLam N__law_call_told (b__law_call_told c) (fun X => (gCallO (tbs [(c.Turn, sp_Turn___call__ c)]) X (gV 1) (gCons (gV 3) gNil)))) (gC (.str ⟨#[102, 114, 97, 99, 116, 105, 111, 110]⟩)))) (gsRet (gC (.bl false))) gsNx)
    (gsSeq (gsAsg (gBin oIx (gLst (gCons (gC .non) (gCons (gC (.str ⟨#[83, 83]⟩)) (gCons (gC (.str ⟨#[120]⟩)) (gCons (gTup gNil) (gCons (gC (.int 7)) (gCons (gC (.str ⟨#[114, 82]⟩)) (gCons (gLst (gCons (gC (.str ⟨#[83]⟩)) gNil)) gNil)))))))) (gCall (sp__law_next c) X (gCons (gV 0) (gCons (gC (.int 7)) gNil)))) (ggP (.nm 4)))
    (gsSeq (gsAsg (gBin oIx (gLst (gCons (gC .non) (gCons (gC (.bl true)) (gCons (gC (.int 201)) (gCons (gUn uNeg (gC (.int 201))) (gCons (gC (.str ⟨#[49]⟩)) (gCons (gTup gNil) (gCons (gBin oPow (gC (.int 10)) (gC (.int 30))) (gCons (gLst (gCons (gC (.int 1)) gNil)) gNil))))))))) (gCall (sp__law_next c) X (gCons (gV 0) (gCons (gC (.int 8)) gNil)))) (ggP (.nm 5)))
    (gsSeq (gsIf (gtV (gBin oNe (gLam N__law_call_told (b__law_call_told c) (fun X => (gCall (sp_Turn_of_word c) X (gCons (gC (.ref c.Turn)) (gCons (gV 4) gNil))))) (gC (.str ⟨#[119, 111, 114, 100]⟩)))) (gsRet (gC (.bl false))) gsNx)
    (gsRet (gAndV (gBin oEq (gLam N__law_call_told (b__law_call_told c) (fun X => (gMeth (tbs [(c.Turn, sp_Turn_raised c)]) (Str.ofString "raised") X (gV 1) (gCons (gV 5) gNil)))) (gBin oAdd (gC (.str ⟨#[110, 117, 109, 98, 101, 114, 32]⟩)) (gBlt cRepr (gCons (gV 5) gNil)))) (gBin oEq (gProp (tbs [(c.Turn, sp_Turn_rows c)]) (gV 1)) (gCall (sp__law_matrix c) X (gCons (gC (.str ⟨#[83, 82, 83]⟩)) gNil))))))))))))))
def N__law_source : List Str := ["_law_script", "_law_k", "_law_cell"]
def b__law_source (c : CA) (X : Sl → GX) : GS :=
    (gsSeq (gsAsg (gIfE (gtV (gBin oNe (gV 0) (gLst gNil))) (gBin oIx (gV 0) (gBin oMod (gV 1) (gBlt cLen (gCons (gV 0) gNil)))) (gC (.int 1))) (ggP (.nm 2)))
    (gsRet (gLst (gCons (gV 2) (gCons (gBin oMul (gC (.int 3)) (gV 1)) (gCons (gIfE (gtV (gBin oGe (gV 2) (gBin oPow (gC (.int 10)) (gC (.int 18))))) (gBin oFdivW (gV 2) (gBin oPow (gC (.int 10)) (gC (.int 18)))) (gC (.int 0))) gNil))))))
def N_law : List Str := ["_law_script", "_law_k", "_law_source_here", "_law_turn", "_law_t"]
def b_law (c : CA) (X : Sl → GX) : GS :=
    (gsSeq (gsFor (giRng1 (gCons (gBlt cMax2 (gCons (gC (.int 1)) (gCons (gBlt cMin2 (gCons (gC (.int 3)) (gCons (gBlt cLen (gCons (gV 0) gNil)) gNil))) gNil))) gNil)) (ggP (.nm 1)) (gsSeq (gsAsg (gCall (sp__law_source c) X (gCons (gV 0) (gCons (gV 1) gNil))) (ggP (.nm 2)))
    (gsFor (giRng1 (gCons (gC (.int 4)) gNil)) (ggP (.nm 3)) (gsIf (gtOr (gtNot (gtT (gCall (sp__law_calls_right c) X (gCons (gV 2) gNil)))) (gtNot (gtT (gCall (sp__law_refusals_right c) X (gCons (gV 2) gNil))))) (gsRet (gC (.bl false))) gsNx))))
    (gsSeq (gsAsg (gMake c.Turn (sp_Turn___init__ c) X (gCons (gTup (gCons (gTup (gCons (gC (.int 1)) (gCons (gC (.int 1)) gNil))) (gCons (gTup (gCons (gC (.int 0)) (gCons (gC (.int 1)) gNil))) gNil))) gNil)) (ggP (.nm 4)))
    (gsSeq (gsIf (gtV (gBin oNe (gLst (gCons (gProp (tbs [(c.Turn, sp_Turn_rows c)]) (gMeth (tbs [(c.Turn, sp_Turn_raised c)]) (Str.ofString "raised") X (gV 4) (gCons (gUn uNeg (gC (.int 200))) gNil))) (gCons (gProp (tbs [(c.Turn, sp_Turn_rows c)]) (gMeth (tbs [(c.Turn, sp_Turn_raised c)]) (Str.ofString "raised") X (gV 4) (gCons (gC (.int 200)) gNil))) gNil))) (gLst (gCons (gTup (gCons (gTup (gCons (gC (.int 1)) (gCons (gUn uNeg (gC (.int 200))) gNil))) (gCons (gTup (gCons (gC (.int 0)) (gCons (gC (.int 1)) gNil))) gNil))) (gCons (gTup (gCons (gTup (gCons (gC (.int 1)) (gCons (gC (.int 200)) gNil))) (gCons (gTup (gCons (gC (.int 0)) (gCons (gC (.int 1)) gNil))) gNil))) gNil))))) (gsRet (gC (.bl false))) gsNx)
    (gsRet (gAndV (gBin oEq (gC (.int 200)) (gC (.int 200))) (gBin oEq (gCallO (tbs [(c.Turn, sp_Turn___call__ c)]) X (gV 4) (gCons (gTup (gCons (gC (.int 1)) (gCons (gC (.int 2)) gNil))) gNil)) (gTup (gCons (gC (.int 3)) (gCons (gC (.int 2)) gNil)))))))))
theorem e_is_integer {c : CA} {d : D} {S : SS} {Q : GQ} {x_3 : GX} : sp_is_integer c [d] S Q x_3 = (pv S d ∧ Q (.bl (isI d)) S) := rfl
theorem e_is_pair {c : CA} {d : D} {S : SS} {Q : GQ} {x_3 : GX} : sp_is_pair c [d] S Q x_3 = (wf1 S d ∧ Q (.bl (isP d)) S) := rfl
theorem e_is_unit {c : CA} {d : D} {S : SS} {Q : GQ} {x_3 : GX} : sp_is_unit c [d] S Q x_3 = ((∃ m, d = dM m ∧ m.sz 3000 ∧ Q (.bl (decide (m.det = 1))) S) ∨ (noM S d ∧ Q (.bl false) S)) := rfl
theorem e_normal_of {c : CA} {d : D} {S : SS} {Q : GQ} {x_3 : GX} : sp_normal_of c [d] S Q x_3 = (withM d fun m => Q (dM m.nf) S) := rfl
theorem e_is_matrix {c : CA} {d : D} {S : SS} {Q : GQ} {x_3 : GX} : sp_is_matrix c [d] S Q x_3 = ((∃ m, d = dM m ∧ m.sz 3000 ∧ Q (.bl (decide m.ok)) S) ∨ (noM S d ∧ Q (.bl false) S)) := rfl
theorem e_need_matrix {c : CA} {d : D} {S : SS} {Q : GQ} {X : GX} : sp_need_matrix c [d] S Q X = ((∃ m, d = dM m ∧ m.sz 3000 ∧ (m.ok → Q .non S) ∧ (¬ m.ok → X c.BadMatrix [] S)) ∨ (noM S d ∧ X c.BadMatrix [] S)) := rfl
theorem e_times {c : CA} {d e : D} {S : SS} {Q : GQ} {x_4 : GX} : sp_times c [d, e] S Q x_4 = (withM d fun m => withM e fun n => m.sz 5000 ∧ n.sz 5000 ∧ Q (dM (m.times n)) S) := rfl
theorem e_inverse_of {c : CA} {d : D} {S : SS} {Q : GQ} {x_3 : GX} : sp_inverse_of c [d] S Q x_3 = (withM d fun m => Q (dM m.inv) S) := rfl
theorem e_power_of {c : CA} {d e : D} {S : SS} {Q : GQ} {x_4 : GX} : sp_power_of c [d, e] S Q x_4 = (withM d fun m => withI e fun n => 0 ≤ n ∧ n ≤ 200 ∧ m.ok ∧ m.sz 4 ∧ Q (dM (m.pw n.toNat)) S ∨ 0 ≤ n ∧ n ≤ 13 ∧ m.ok ∧ m.sz 40 ∧ Q (dM (m.pw n.toNat)) S) := rfl
theorem e_common_divisor {c : CA} {d e : D} {S : SS} {Q : GQ} {x_4 : GX} : sp_common_divisor c [d, e] S Q x_4 = (withI d fun p => withI e fun q => Q (.int (Int.gcd p q : Nat)) S) := rfl
theorem e_is_fraction {c : CA} {d : D} {S : SS} {Q : GQ} {x_3 : GX} : sp_is_fraction c [d] S Q x_3 = ((∃ p q, d = dF p q ∧ ∀ b : Bool, (b = true ↔ FrOk p q) → Q (.bl b) S) ∨ (noF S d ∧ Q (.bl false) S)) := rfl
theorem e_need_fraction {c : CA} {d : D} {S : SS} {Q : GQ} {X : GX} : sp_need_fraction c [d] S Q X = ((∃ p q, d = dF p q ∧ (FrOk p q → Q .non S) ∧ (¬ FrOk p q → X c.BadFraction [] S)) ∨ (noF S d ∧ X c.BadFraction [] S)) := rfl
theorem e_taken_to {c : CA} {d e : D} {S : SS} {Q : GQ} {x_4 : GX} : sp_taken_to c [d, e] S Q x_4 = (withM d fun m => ∃ p q, e = dF p q ∧ m.sz 3000 ∧ szF (p, q) ∧ Q (dFp (tk m (p, q))) S) := rfl
theorem e__law_moved {c : CA} {d e : D} {S : SS} {Q : GQ} {x_4 : GX} : sp__law_moved c [d, e] S Q x_4 = (withM d fun m => ∃ p q, e = dF p q ∧ m.sz 3000 ∧ szF (p, q) ∧ Q (dFp (tk m (p, q))) S) := rfl
theorem e_need_word {c : CA} {d : D} {S : SS} {Q : GQ} {X : GX} : sp_need_word c [d] S Q X = (pv S d ∧ (∀ x, d = .str x → x.length ≤ 100000) ∧ match badD d with
  | none => Q .non S
  | some e => X c.BadWord [(INDEX, e)] S) := rfl
theorem e_matrix_of_letter {c : CA} {d : D} {S : SS} {Q : GQ} {x_3 : GX} : sp_matrix_of_letter c [d] S Q x_3 = (withX d fun x => Q (dM (letM x)) S) := rfl
theorem e_matrix_of_text {c : CA} {d : D} {S : SS} {Q : GQ} {x_3 : GX} : sp_matrix_of_text c [d] S Q x_3 = (withX d fun x => x.length ≤ 100 ∧ Q (dM (matW x.cps.toList)) S) := rfl
theorem e_Turn___init__ {c : CA} {s d : D} {S : SS} {Q : GQ} {X : GX} : sp_Turn___init__ c [s, d] S Q X = (withO s fun k => (∃ m, d = dM m ∧ m.sz 3000 ∧ (m.ok → S[k]? = some (.ins c.Turn []) ∧ Q .non (S.set k (oT c m))) ∧ (¬ m.ok → X c.BadMatrix [] S)) ∨ (noM S d ∧ X c.BadMatrix [] S)) := rfl
theorem e_Turn_of_word {c : CA} {s d : D} {S : SS} {Q : GQ} {X : GX} : sp_Turn_of_word c [s, d] S Q X = (s = .ref c.Turn ∧ pv S d ∧ (∀ x, d = .str x → x.length ≤ 100) ∧ match badD d with
  | none => withX d fun x => Q (.obj S.length) (S ++ [oT c (matW x.cps.toList)])
  | some e => X c.BadWord [(INDEX, e)] S) := rfl
theorem e_Turn_rows {c : CA} {s : D} {S : SS} {Q : GQ} {x_3 : GX} : sp_Turn_rows c [s] S Q x_3 = (withT c S s fun m => Q (dM m) S) := rfl
theorem e_Turn___mul__ {c : CA} {s d : D} {S : SS} {Q : GQ} {x_4 : GX} : sp_Turn___mul__ c [s, d] S Q x_4 = (withT c S s fun m => withT c S d fun n => m.sz 1000 ∧ n.sz 1000 ∧ m.ok ∧ n.ok ∧ Q (.obj S.length) (S ++ [oT c (m.times n)])) := rfl
theorem e_Turn___invert__ {c : CA} {s : D} {S : SS} {Q : GQ} {x_3 : GX} : sp_Turn___invert__ c [s] S Q x_3 = (withT c S s fun m => m.ok ∧ m.sz 1000 ∧ Q (.obj S.length) (S ++ [oT c m.inv])) := rfl
theorem e_Turn___call__ {c : CA} {s d : D} {S : SS} {Q : GQ} {X : GX} : sp_Turn___call__ c [s, d] S Q X = (withT c S s fun m => m.sz 3000 ∧ ((∃ p q, d = dF p q ∧ szF (p, q) ∧ (FrOk p q → Q (dFp (tk m (p, q))) S) ∧ (¬ FrOk p q → X c.BadFraction [] S)) ∨ (noF S d ∧ X c.BadFraction [] S))) := rfl
theorem e_Turn_raised {c : CA} {s d : D} {S : SS} {Q : GQ} {X : GX} : sp_Turn_raised c [s, d] S Q X = (withT c S s fun m => pv S d ∧ m.ok ∧ ((∃ n : Int, d = .int n ∧ -200 ≤ n ∧ n ≤ 200 ∧ (m.sz 4 ∨ m.sz 40 ∧ -13 ≤ n ∧ n ≤ 13) ∧ Q (.obj S.length) (S ++ [oT c (if 0 ≤ n then m.pw n.toNat else m.inv.pw (-n).toNat)])) ∨
  ((∀ n : Int, d = .int n → n < -200 ∨ 200 < n) ∧ X c.BadNumber [(VALUE, d)] S))) := rfl
theorem e__law_source {c : CA} {d e : D} {S : SS} {Q : GQ} {x_4 : GX} : sp__law_source c [d, e] S Q x_4 = (∃ (ns : List Int) (k : Int), d = .rol (ns.map .int) ∧ e = .int k ∧ 0 ≤ k ∧ k < 1000 ∧ ∀ cell g, Q (.obj (S.length + 1)) (S ++ [.lst [], srcO cell (3 * k) g])) := rfl
theorem e__law_next {c : CA} {d e : D} {S : SS} {Q : GQ} {x_4 : GX} : sp__law_next c [d, e] S Q x_4 = (withI e fun many => withSrc S d fun k cell n g => 0 < many ∧ many < 1073741824 ∧ 0 ≤ n ∧ n < 2 ^ 40 ∧ ∀ v n' g', 0 ≤ v → v < many → 0 ≤ n' → n' ≤ n + 1 → Q (.int v) (S.set k (srcO cell n' g'))) := rfl
theorem e__law_signed {c : CA} {d : D} {S : SS} {Q : GQ} {x_3 : GX} : sp__law_signed c [d] S Q x_3 = (withM d fun m => Q (dM m.nf) S) := rfl
theorem e__law_times {c : CA} {d e : D} {S : SS} {Q : GQ} {x_4 : GX} : sp__law_times c [d, e] S Q x_4 = (withM d fun m => withM e fun n => m.sz 1000 ∧ n.sz 1000 ∧ Q (dM (m.times n)) S) := rfl
theorem e__law_back {c : CA} {d : D} {S : SS} {Q : GQ} {x_3 : GX} : sp__law_back c [d] S Q x_3 = (withM d fun m => Q (dM m.inv) S) := rfl
theorem e__law_of {c : CA} {d : D} {S : SS} {Q : GQ} {x_3 : GX} : sp__law_of c [d] S Q x_3 = (withX d fun x => PyData.strOk x = true ∧ Q (dM (letM x)) S) := rfl
theorem e__law_matrix {c : CA} {d : D} {S : SS} {Q : GQ} {x_3 : GX} : sp__law_matrix c [d] S Q x_3 = (withX d fun x => x.length ≤ 100 ∧ PyData.strOk x = true ∧ Q (dM (matW x.cps.toList)) S) := rfl
theorem e__law_text {c : CA} {d e : D} {S : SS} {Q : GQ} {x_4 : GX} : sp__law_text c [d, e] S Q x_4 = (withI e fun size => withSrc S d fun k cell n g => 0 ≤ size ∧ size < 100 ∧ 0 ≤ n ∧ n < 2 ^ 39 ∧ ∀ (x : Str) n' g', x.length = size.toNat → PyData.strOk x = true → WordOk x → 0 ≤ n' → n' ≤ n + 2 * size → Q (.str x) (S.set k (srcO cell n' g'))) := rfl
theorem e__law_repeated {c : CA} {d e : D} {S : SS} {Q : GQ} {x_4 : GX} : sp__law_repeated c [d, e] S Q x_4 = (withM d fun m => withI e fun n => 0 ≤ n ∧ n ≤ 13 ∧ m.sz 40 ∧ Q (dM (m.pw n.toNat)) S) := rfl
theorem e__law_calls_right {c : CA} {d : D} {S : SS} {Q : GQ} {x_3 : GX} : sp__law_calls_right c [d] S Q x_3 = (withSrc S d fun k cell n g => 0 ≤ n ∧ n < 2 ^ 38 ∧ ∀ n' g', 0 ≤ n' → n' ≤ n + 1000 → Q (.bl true) (S.set k (srcO cell n' g'))) := rfl
theorem e__law_refusals_right {c : CA} {d : D} {S : SS} {Q : GQ} {x_3 : GX} : sp__law_refusals_right c [d] S Q x_3 = (withSrc S d fun k cell n g => 0 ≤ n ∧ n < 2 ^ 38 ∧ ∀ n' g', 0 ≤ n' → n' ≤ n + 1000 → Q (.bl true) (S.set k (srcO cell n' g'))) := rfl
theorem e_law {c : CA} {d : D} {S : SS} {Q : GQ} {x_3 : GX} : sp_law c [d] S Q x_3 = (∃ ns : List Int, d = .rol (ns.map .int) ∧ ∀ S', Q (.bl true) S') := rfl
end Gh

namespace Gh
open PySem
namespace M
theorem sz_ok {m : M} {n : Nat} (h : m.sz n) (hn : n ≤ 400000) : szOk m.a ∧ szOk m.b ∧ szOk m.c ∧ szOk m.d := by
  have e : 2 ^ n ≤ 2 ^ 400000 := Nat.pow_le_pow_right (by decide) hn
  exact ⟨Nat.lt_of_lt_of_le h.1 e, Nat.lt_of_lt_of_le h.2.1 e, Nat.lt_of_lt_of_le h.2.2.1 e, Nat.lt_of_lt_of_le h.2.2.2 e⟩
theorem sz_mono {m : M} {n k : Nat} (h : m.sz n) (hn : n ≤ k) : m.sz k := by
  have e : 2 ^ n ≤ 2 ^ k := Nat.pow_le_pow_right (by decide) hn
  exact ⟨Nat.lt_of_lt_of_le h.1 e, Nat.lt_of_lt_of_le h.2.1 e, Nat.lt_of_lt_of_le h.2.2.1 e, Nat.lt_of_lt_of_le h.2.2.2 e⟩
theorem neg_sz {m : M} {n : Nat} (h : m.sz n) : m.neg.sz n := by
  obtain ⟨a, b, c, d⟩ := h
  exact ⟨by simpa [neg] using a, by simpa [neg] using b, by simpa [neg] using c, by simpa [neg] using d⟩
theorem nf_sz {m : M} {n : Nat} (h : m.sz n) : m.nf.sz n := by
  unfold nf; split
  · exact h
  · exact neg_sz h
theorem pair_lt {a b c d : Int} {n k : Nat} (ha : a.natAbs < 2 ^ n) (hb : b.natAbs < 2 ^ n) (hc : c.natAbs < 2 ^ k) (hd : d.natAbs < 2 ^ k) : (a * c + b * d).natAbs < 2 ^ (n + k + 1) := by
  have h1 : (a * c).natAbs < 2 ^ n * 2 ^ k := by rw [Int.natAbs_mul]; exact Nat.mul_lt_mul'' ha hc
  have h2 : (b * d).natAbs < 2 ^ n * 2 ^ k := by rw [Int.natAbs_mul]; exact Nat.mul_lt_mul'' hb hd
  have h3 := Int.natAbs_add_le (a * c) (b * d)
  rw [Nat.pow_succ, Nat.pow_add]
  omega
theorem mul_sz {m o : M} {n k : Nat} (h : m.sz n) (g : o.sz k) : (m.mul o).sz (n + k + 1) :=
  ⟨pair_lt h.1 h.2.1 g.1 g.2.2.1, pair_lt h.1 h.2.1 g.2.1 g.2.2.2, pair_lt h.2.2.1 h.2.2.2 g.1 g.2.2.1, pair_lt h.2.2.1 h.2.2.2 g.2.1 g.2.2.2⟩
theorem times_sz {m o : M} {n k : Nat} (h : m.sz n) (g : o.sz k) : (m.times o).sz (n + k + 1) := nf_sz (mul_sz h g)
theorem inv_sz {m : M} {n : Nat} (h : m.sz n) : m.inv.sz n := nf_sz ⟨h.2.2.2, by simpa [adj] using h.2.1, by simpa [adj] using h.2.2.1, h.1⟩
end M
theorem dM_inj {m n : M} : dM m = dM n ↔ m = n := by
  constructor
  · intro h
    unfold dM at h
    obtain ⟨a, b, c, d⟩ := m
    obtain ⟨a', b', c', d'⟩ := n
    simp at h
    simp [h]
  · rintro rfl; rfl
theorem toP_dM {m : M} {S : SS} {k : Nat} : toP S (k + 3) (dM m) = some (.tuple [.tuple [.int m.a, .int m.b], .tuple [.int m.c, .int m.d]]) := rfl
theorem oEq_M {m n : M} {S : SS} {Q : GQ} : oEq (dM m) (dM n) S Q = Q (.bl (decide (m = n))) S := by
  have e : PyData.eqv (.tuple [.tuple [.int m.a, .int m.b], .tuple [.int m.c, .int m.d]]) (.tuple [.tuple [.int n.a, .int n.b], .tuple [.int n.c, .int n.d]]) = decide (m = n) := by
    obtain ⟨a, b, c, d⟩ := m
    obtain ⟨a', b', c', d'⟩ := n
    rw [Bool.eq_iff_iff]
    simp [PyData.eqv, PyData.eqvAll]
    constructor
    · rintro ⟨⟨h1, h2⟩, h3, h4⟩; exact ⟨h1, h2, h3, h4⟩
    · rintro ⟨h1, h2, h3, h4⟩; exact ⟨⟨h1, h2⟩, h3, h4⟩
  apply propext
  constructor
  · rintro (⟨p, p', h1, h2, _, _, q⟩ | ⟨a, b, h, _⟩)
    · rw [toP_dM] at h1 h2
      cases h1; cases h2
      rw [← e]; exact q
    · cases h
  · intro q
    exact .inl ⟨_, _, toP_dM, toP_dM, rfl, rfl, by rw [← e] at q; exact q⟩
theorem oNe_M {m n : M} {S : SS} {Q : GQ} : oNe (dM m) (dM n) S Q = Q (.bl (!decide (m = n))) S := by
  have e : oNe (dM m) (dM n) S Q = oEq (dM m) (dM n) S (fun x S' => match x with
    | .bl b => Q (.bl (!b)) S'
    | _ => False) := by
    apply propext
    constructor
    · rintro (h | ⟨a, b, h, _⟩)
      · exact .inl h
      · cases h
    · rintro (h | ⟨a, b, h, _⟩)
      · exact .inl h
      · cases h
  rw [e, oEq_M]
theorem len_normal_of (c : CA) (ds : List D) (S : SS) (Q : GQ) (G : GX) (h : sp_normal_of c ds S Q G) : ds.length = 1 := sp1_len ds S Q G h
theorem vc_normal_of (c : CA) (hc : ClsOk c) (ds : List D) (S : SS) (Q : GQ) (G : GX) (h : sp_normal_of c ds S Q G) : Body (b_normal_of c) N_normal_of ds S Q G := by
  refine body1 h fun d h => ?_
  obtain ⟨m, rfl, h⟩ := withM_inv h
  have e : gCut S Q (dM m.nf) S := cut_same h
  unfold b_normal_of N_normal_of dM
  unfold M.nf M.pos M.neg dM at e
  simp only [Body, gsNx, gsSeq, gsAsg, gsPar2, gsRet, gsRetN, gsDrop, gsIf, gsBrk, gsCt, gsAug, gsFld, gsNever, gsFor, gC, gV, gNil, gCons, gTup, gLst, gBin, gUn, gChain, gAndV, gOrV, gNotV, gIfE, gCall, gBlt, gMake, gMeth, gFld, gProp, gtV, gtT, truD, gtAnd, gtOr, gtNot, gtYes, oAdd, oSub, oMul, oMod, oFdiv, oFdivW, oPow, oLt, oLe, oGt, oGe, uNeg, oIs, oIsNot, ggNil, ggCons, ggTup, ggP, ggSub, oSetIx, runP, runPs, putG, giLst, giTup, giStr, giRng1, giRng2, gLc, wipeG, atG, oIx, goNone, goSome, gSlice, oSl, cutG, sIxG, cLen, cMax2, cMin2, cAbs, cStr, cBool, cInt, cTuple, cList, cIsi, isiB, isiO, tyD_obj, tyD_non, tyD_bl, tyD_int, tyD_str, tyD_tup, tyD_rol, tyO, oOwn, oOwnB, oOwnU, cOwn, isBlD, isStrD, isLenD, cBoolO, cStrO, cLenO, oInO, gCallO, itemsD, gJoin, oJoin, cRepr1, tbs, oks, okK_self, okK_n1, okK_n2, okK_n3, okK_n4, okK_n5, okK_n6, okK_n7, sp1, sp2, sp3, oAddI, withM_dM, withM_lit, withI_of, withX_of, withO_of, withT_at, withT_at0, withTL_some, st_set_new, st_set_new0, st_get_new, st_get_new0, List.append_assoc, Nat.add_assoc, st_new, st_new0, stS_new, stS_new0, gsRaise0, gsRaise1, gsTryT, gFldE, cIsiE, isiEx, gDict0, gBM, isTupD, mSplit, mStarts, mTxt0, oRep, oMulS, gSliceK, oSlK, gRepl, ggUnl, gLam, gAct, gMakeV, gCon, gCallO, giEnumS, oInF, flatD, eqF, List.map_cons, List.map_nil, List.replicate, List.length_cons, List.length_nil, List.length_append, List.length_set, List.cons_append, List.nil_append, List.getElem?_cons_zero, List.getElem?_cons_succ, List.set_cons_zero, List.set_cons_succ, List.lookup, List.all_cons, List.all_nil, List.mem_cons, List.not_mem_nil, or_false, Nat.reduceAdd, Nat.reduceSub, Nat.zero_add, Nat.add_zero, beq_self_eq_true, Bool.and_true, Bool.true_and, Bool.not_true, Bool.not_false, if_true, if_false, Bool.false_eq_true, decide_true, decide_false, and_true, true_and, Nat.reduceLeDiff, String.reduceEq, String.reduceNe, String.reduceBEq, String.reduceBNe, Int.reduceNeg, Int.reduceLT, Int.reduceLE, Int.reduceAdd, Int.reduceMul, Int.reduceMod, Int.reducePow, reduceIte, false_or, true_or, or_true, or_self, false_and, and_false, Bool.or_false, Bool.false_or, Bool.true_or, Bool.or_true, Bool.and_false, Bool.false_and, decide_eq_true_eq, Bool.not_eq_true, Int.toNat_zero, Int.reduceToNat, Int.toNat_natCast, Int.reduceLE, Int.reduceLT, oEq_int, oNe_int, ↓reduceIte, Nat.lt_irrefl]
  by_cases h1 : 0 < m.c
  · simpa [h1] using e
  · by_cases h2 : m.c = 0 <;> by_cases h3 : 0 < m.a <;> simpa [h1, h2, h3] using e
theorem nf_pos {m : M} (h : m.pos) : m.nf = m := if_pos h
theorem len_inverse_of (c : CA) (ds : List D) (S : SS) (Q : GQ) (G : GX) (h : sp_inverse_of c ds S Q G) : ds.length = 1 := sp1_len ds S Q G h
theorem vc_inverse_of (c : CA) (hc : ClsOk c) (ds : List D) (S : SS) (Q : GQ) (G : GX) (h : sp_inverse_of c ds S Q G) : Body (b_inverse_of c) N_inverse_of ds S Q G := by
  refine body1 h fun d h => ?_
  obtain ⟨m, rfl, h⟩ := withM_inv h
  unfold b_inverse_of N_inverse_of sp_normal_of dM
  simp only [Body, gsNx, gsSeq, gsAsg, gsPar2, gsRet, gsRetN, gsDrop, gsIf, gsBrk, gsCt, gsAug, gsFld, gsNever, gsFor, gC, gV, gNil, gCons, gTup, gLst, gBin, gUn, gChain, gAndV, gOrV, gNotV, gIfE, gCall, gBlt, gMake, gMeth, gFld, gProp, gtV, gtT, truD, gtAnd, gtOr, gtNot, gtYes, oAdd, oSub, oMul, oMod, oFdiv, oFdivW, oPow, oLt, oLe, oGt, oGe, uNeg, oIs, oIsNot, ggNil, ggCons, ggTup, ggP, ggSub, oSetIx, runP, runPs, putG, giLst, giTup, giStr, giRng1, giRng2, gLc, wipeG, atG, oIx, goNone, goSome, gSlice, oSl, cutG, sIxG, cLen, cMax2, cMin2, cAbs, cStr, cBool, cInt, cTuple, cList, cIsi, isiB, isiO, tyD_obj, tyD_non, tyD_bl, tyD_int, tyD_str, tyD_tup, tyD_rol, tyO, oOwn, oOwnB, oOwnU, cOwn, isBlD, isStrD, isLenD, cBoolO, cStrO, cLenO, oInO, gCallO, itemsD, gJoin, oJoin, cRepr1, tbs, oks, okK_self, okK_n1, okK_n2, okK_n3, okK_n4, okK_n5, okK_n6, okK_n7, sp1, sp2, sp3, oAddI, withM_dM, withM_lit, withI_of, withX_of, withO_of, withT_at, withT_at0, withTL_some, st_set_new, st_set_new0, st_get_new, st_get_new0, List.append_assoc, Nat.add_assoc, st_new, st_new0, stS_new, stS_new0, gsRaise0, gsRaise1, gsTryT, gFldE, cIsiE, isiEx, gDict0, gBM, isTupD, mSplit, mStarts, mTxt0, oRep, oMulS, gSliceK, oSlK, gRepl, ggUnl, gLam, gAct, gMakeV, gCon, gCallO, giEnumS, oInF, flatD, eqF, List.map_cons, List.map_nil, List.replicate, List.length_cons, List.length_nil, List.length_append, List.length_set, List.cons_append, List.nil_append, List.getElem?_cons_zero, List.getElem?_cons_succ, List.set_cons_zero, List.set_cons_succ, List.lookup, List.all_cons, List.all_nil, List.mem_cons, List.not_mem_nil, or_false, Nat.reduceAdd, Nat.reduceSub, Nat.zero_add, Nat.add_zero, beq_self_eq_true, Bool.and_true, Bool.true_and, Bool.not_true, Bool.not_false, if_true, if_false, Bool.false_eq_true, decide_true, decide_false, and_true, true_and, Nat.reduceLeDiff, String.reduceEq, String.reduceNe, String.reduceBEq, String.reduceBNe, Int.reduceNeg, Int.reduceLT, Int.reduceLE, Int.reduceAdd, Int.reduceMul, Int.reduceMod, Int.reducePow, reduceIte, false_or, true_or, or_true, or_self, false_and, and_false, Bool.or_false, Bool.false_or, Bool.true_or, Bool.or_true, Bool.and_false, Bool.false_and, decide_eq_true_eq, Bool.not_eq_true, Int.toNat_zero, Int.reduceToNat, Int.toNat_natCast, Int.reduceLE, Int.reduceLT, oEq_int, oNe_int, ↓reduceIte, Nat.lt_irrefl]
  exact cut_same h
theorem len_times (c : CA) (ds : List D) (S : SS) (Q : GQ) (G : GX) (h : sp_times c ds S Q G) : ds.length = 2 := sp2_len ds S Q G h
theorem vc_times (c : CA) (hc : ClsOk c) (ds : List D) (S : SS) (Q : GQ) (G : GX) (h : sp_times c ds S Q G) : Body (b_times c) N_times ds S Q G := by
  refine body2 h fun d e h => ?_
  obtain ⟨m, rfl, h2⟩ := withM_inv h
  obtain ⟨n, rfl, hm, hn, h⟩ := withM_inv h2
  unfold b_times N_times sp_normal_of dM
  simp only [Body, gsNx, gsSeq, gsAsg, gsPar2, gsRet, gsRetN, gsDrop, gsIf, gsBrk, gsCt, gsAug, gsFld, gsNever, gsFor, gC, gV, gNil, gCons, gTup, gLst, gBin, gUn, gChain, gAndV, gOrV, gNotV, gIfE, gCall, gBlt, gMake, gMeth, gFld, gProp, gtV, gtT, truD, gtAnd, gtOr, gtNot, gtYes, oAdd, oSub, oMul, oMod, oFdiv, oFdivW, oPow, oLt, oLe, oGt, oGe, uNeg, oIs, oIsNot, ggNil, ggCons, ggTup, ggP, ggSub, oSetIx, runP, runPs, putG, giLst, giTup, giStr, giRng1, giRng2, gLc, wipeG, atG, oIx, goNone, goSome, gSlice, oSl, cutG, sIxG, cLen, cMax2, cMin2, cAbs, cStr, cBool, cInt, cTuple, cList, cIsi, isiB, isiO, tyD_obj, tyD_non, tyD_bl, tyD_int, tyD_str, tyD_tup, tyD_rol, tyO, oOwn, oOwnB, oOwnU, cOwn, isBlD, isStrD, isLenD, cBoolO, cStrO, cLenO, oInO, gCallO, itemsD, gJoin, oJoin, cRepr1, tbs, oks, okK_self, okK_n1, okK_n2, okK_n3, okK_n4, okK_n5, okK_n6, okK_n7, sp1, sp2, sp3, oAddI, withM_dM, withM_lit, withI_of, withX_of, withO_of, withT_at, withT_at0, withTL_some, st_set_new, st_set_new0, st_get_new, st_get_new0, List.append_assoc, Nat.add_assoc, st_new, st_new0, stS_new, stS_new0, gsRaise0, gsRaise1, gsTryT, gFldE, cIsiE, isiEx, gDict0, gBM, isTupD, mSplit, mStarts, mTxt0, oRep, oMulS, gSliceK, oSlK, gRepl, ggUnl, gLam, gAct, gMakeV, gCon, gCallO, giEnumS, oInF, flatD, eqF, List.map_cons, List.map_nil, List.replicate, List.length_cons, List.length_nil, List.length_append, List.length_set, List.cons_append, List.nil_append, List.getElem?_cons_zero, List.getElem?_cons_succ, List.set_cons_zero, List.set_cons_succ, List.lookup, List.all_cons, List.all_nil, List.mem_cons, List.not_mem_nil, or_false, Nat.reduceAdd, Nat.reduceSub, Nat.zero_add, Nat.add_zero, beq_self_eq_true, Bool.and_true, Bool.true_and, Bool.not_true, Bool.not_false, if_true, if_false, Bool.false_eq_true, decide_true, decide_false, and_true, true_and, Nat.reduceLeDiff, String.reduceEq, String.reduceNe, String.reduceBEq, String.reduceBNe, Int.reduceNeg, Int.reduceLT, Int.reduceLE, Int.reduceAdd, Int.reduceMul, Int.reduceMod, Int.reducePow, reduceIte, false_or, true_or, or_true, or_self, false_and, and_false, Bool.or_false, Bool.false_or, Bool.true_or, Bool.or_true, Bool.and_false, Bool.false_and, decide_eq_true_eq, Bool.not_eq_true, Int.toNat_zero, Int.reduceToNat, Int.toNat_natCast, Int.reduceLE, Int.reduceLT, oEq_int, oNe_int, ↓reduceIte, Nat.lt_irrefl]
  obtain ⟨z1, z2, z3, z4⟩ := M.sz_ok hm (by decide)
  obtain ⟨y1, y2, y3, y4⟩ := M.sz_ok hn (by decide)
  exact ⟨z1, y1, z2, y3, z1, y2, z2, y4, z3, y1, z4, y3, z3, y2, z4, y4, cut_same h⟩
theorem len__law_signed (c : CA) (ds : List D) (S : SS) (Q : GQ) (G : GX) (h : sp__law_signed c ds S Q G) : ds.length = 1 := sp1_len ds S Q G h
theorem vc__law_signed (c : CA) (hc : ClsOk c) (ds : List D) (S : SS) (Q : GQ) (G : GX) (h : sp__law_signed c ds S Q G) : Body (b__law_signed c) N__law_signed ds S Q G := by
  refine body1 h fun d h => ?_
  obtain ⟨m, rfl, h⟩ := withM_inv h
  have e : gCut S Q (dM m.nf) S := cut_same h
  unfold b__law_signed N__law_signed dM
  unfold M.nf M.pos M.neg dM at e
  simp only [Body, gsNx, gsSeq, gsAsg, gsPar2, gsRet, gsRetN, gsDrop, gsIf, gsBrk, gsCt, gsAug, gsFld, gsNever, gsFor, gC, gV, gNil, gCons, gTup, gLst, gBin, gUn, gChain, gAndV, gOrV, gNotV, gIfE, gCall, gBlt, gMake, gMeth, gFld, gProp, gtV, gtT, truD, gtAnd, gtOr, gtNot, gtYes, oAdd, oSub, oMul, oMod, oFdiv, oFdivW, oPow, oLt, oLe, oGt, oGe, uNeg, oIs, oIsNot, ggNil, ggCons, ggTup, ggP, ggSub, oSetIx, runP, runPs, putG, giLst, giTup, giStr, giRng1, giRng2, gLc, wipeG, atG, oIx, goNone, goSome, gSlice, oSl, cutG, sIxG, cLen, cMax2, cMin2, cAbs, cStr, cBool, cInt, cTuple, cList, cIsi, isiB, isiO, tyD_obj, tyD_non, tyD_bl, tyD_int, tyD_str, tyD_tup, tyD_rol, tyO, oOwn, oOwnB, oOwnU, cOwn, isBlD, isStrD, isLenD, cBoolO, cStrO, cLenO, oInO, gCallO, itemsD, gJoin, oJoin, cRepr1, tbs, oks, okK_self, okK_n1, okK_n2, okK_n3, okK_n4, okK_n5, okK_n6, okK_n7, sp1, sp2, sp3, oAddI, withM_dM, withM_lit, withI_of, withX_of, withO_of, withT_at, withT_at0, withTL_some, st_set_new, st_set_new0, st_get_new, st_get_new0, List.append_assoc, Nat.add_assoc, st_new, st_new0, stS_new, stS_new0, gsRaise0, gsRaise1, gsTryT, gFldE, cIsiE, isiEx, gDict0, gBM, isTupD, mSplit, mStarts, mTxt0, oRep, oMulS, gSliceK, oSlK, gRepl, ggUnl, gLam, gAct, gMakeV, gCon, gCallO, giEnumS, oInF, flatD, eqF, List.map_cons, List.map_nil, List.replicate, List.length_cons, List.length_nil, List.length_append, List.length_set, List.cons_append, List.nil_append, List.getElem?_cons_zero, List.getElem?_cons_succ, List.set_cons_zero, List.set_cons_succ, List.lookup, List.all_cons, List.all_nil, List.mem_cons, List.not_mem_nil, or_false, Nat.reduceAdd, Nat.reduceSub, Nat.zero_add, Nat.add_zero, beq_self_eq_true, Bool.and_true, Bool.true_and, Bool.not_true, Bool.not_false, if_true, if_false, Bool.false_eq_true, decide_true, decide_false, and_true, true_and, Nat.reduceLeDiff, String.reduceEq, String.reduceNe, String.reduceBEq, String.reduceBNe, Int.reduceNeg, Int.reduceLT, Int.reduceLE, Int.reduceAdd, Int.reduceMul, Int.reduceMod, Int.reducePow, reduceIte, false_or, true_or, or_true, or_self, false_and, and_false, Bool.or_false, Bool.false_or, Bool.true_or, Bool.or_true, Bool.and_false, Bool.false_and, decide_eq_true_eq, Bool.not_eq_true, Int.toNat_zero, Int.reduceToNat, Int.toNat_natCast, Int.reduceLE, Int.reduceLT, oEq_int, oNe_int, ↓reduceIte, Nat.lt_irrefl]
  by_cases h1 : 0 < m.c
  · simpa [h1] using e
  · by_cases h2 : m.c = 0 <;> by_cases h3 : 0 < m.a <;> simpa [h1, h2, h3] using e
theorem len__law_back (c : CA) (ds : List D) (S : SS) (Q : GQ) (G : GX) (h : sp__law_back c ds S Q G) : ds.length = 1 := sp1_len ds S Q G h
theorem vc__law_back (c : CA) (hc : ClsOk c) (ds : List D) (S : SS) (Q : GQ) (G : GX) (h : sp__law_back c ds S Q G) : Body (b__law_back c) N__law_back ds S Q G := by
  refine body1 h fun d h => ?_
  obtain ⟨m, rfl, h⟩ := withM_inv h
  unfold b__law_back N__law_back sp__law_signed dM
  simp only [Body, gsNx, gsSeq, gsAsg, gsPar2, gsRet, gsRetN, gsDrop, gsIf, gsBrk, gsCt, gsAug, gsFld, gsNever, gsFor, gC, gV, gNil, gCons, gTup, gLst, gBin, gUn, gChain, gAndV, gOrV, gNotV, gIfE, gCall, gBlt, gMake, gMeth, gFld, gProp, gtV, gtT, truD, gtAnd, gtOr, gtNot, gtYes, oAdd, oSub, oMul, oMod, oFdiv, oFdivW, oPow, oLt, oLe, oGt, oGe, uNeg, oIs, oIsNot, ggNil, ggCons, ggTup, ggP, ggSub, oSetIx, runP, runPs, putG, giLst, giTup, giStr, giRng1, giRng2, gLc, wipeG, atG, oIx, goNone, goSome, gSlice, oSl, cutG, sIxG, cLen, cMax2, cMin2, cAbs, cStr, cBool, cInt, cTuple, cList, cIsi, isiB, isiO, tyD_obj, tyD_non, tyD_bl, tyD_int, tyD_str, tyD_tup, tyD_rol, tyO, oOwn, oOwnB, oOwnU, cOwn, isBlD, isStrD, isLenD, cBoolO, cStrO, cLenO, oInO, gCallO, itemsD, gJoin, oJoin, cRepr1, tbs, oks, okK_self, okK_n1, okK_n2, okK_n3, okK_n4, okK_n5, okK_n6, okK_n7, sp1, sp2, sp3, oAddI, withM_dM, withM_lit, withI_of, withX_of, withO_of, withT_at, withT_at0, withTL_some, st_set_new, st_set_new0, st_get_new, st_get_new0, List.append_assoc, Nat.add_assoc, st_new, st_new0, stS_new, stS_new0, gsRaise0, gsRaise1, gsTryT, gFldE, cIsiE, isiEx, gDict0, gBM, isTupD, mSplit, mStarts, mTxt0, oRep, oMulS, gSliceK, oSlK, gRepl, ggUnl, gLam, gAct, gMakeV, gCon, gCallO, giEnumS, oInF, flatD, eqF, List.map_cons, List.map_nil, List.replicate, List.length_cons, List.length_nil, List.length_append, List.length_set, List.cons_append, List.nil_append, List.getElem?_cons_zero, List.getElem?_cons_succ, List.set_cons_zero, List.set_cons_succ, List.lookup, List.all_cons, List.all_nil, List.mem_cons, List.not_mem_nil, or_false, Nat.reduceAdd, Nat.reduceSub, Nat.zero_add, Nat.add_zero, beq_self_eq_true, Bool.and_true, Bool.true_and, Bool.not_true, Bool.not_false, if_true, if_false, Bool.false_eq_true, decide_true, decide_false, and_true, true_and, Nat.reduceLeDiff, String.reduceEq, String.reduceNe, String.reduceBEq, String.reduceBNe, Int.reduceNeg, Int.reduceLT, Int.reduceLE, Int.reduceAdd, Int.reduceMul, Int.reduceMod, Int.reducePow, reduceIte, false_or, true_or, or_true, or_self, false_and, and_false, Bool.or_false, Bool.false_or, Bool.true_or, Bool.or_true, Bool.and_false, Bool.false_and, decide_eq_true_eq, Bool.not_eq_true, Int.toNat_zero, Int.reduceToNat, Int.toNat_natCast, Int.reduceLE, Int.reduceLT, oEq_int, oNe_int, ↓reduceIte, Nat.lt_irrefl]
  simp only [Int.zero_sub]
  exact cut_same h
theorem len__law_times (c : CA) (ds : List D) (S : SS) (Q : GQ) (G : GX) (h : sp__law_times c ds S Q G) : ds.length = 2 := sp2_len ds S Q G h
theorem vc__law_times (c : CA) (hc : ClsOk c) (ds : List D) (S : SS) (Q : GQ) (G : GX) (h : sp__law_times c ds S Q G) : Body (b__law_times c) N__law_times ds S Q G := by
  refine body2 h fun d e h => ?_
  obtain ⟨m, rfl, h2⟩ := withM_inv h
  obtain ⟨n, rfl, hm, hn, h⟩ := withM_inv h2
  unfold b__law_times N__law_times sp__law_signed dM
  simp only [Body, gsNx, gsSeq, gsAsg, gsPar2, gsRet, gsRetN, gsDrop, gsIf, gsBrk, gsCt, gsAug, gsFld, gsNever, gsFor, gC, gV, gNil, gCons, gTup, gLst, gBin, gUn, gChain, gAndV, gOrV, gNotV, gIfE, gCall, gBlt, gMake, gMeth, gFld, gProp, gtV, gtT, truD, gtAnd, gtOr, gtNot, gtYes, oAdd, oSub, oMul, oMod, oFdiv, oFdivW, oPow, oLt, oLe, oGt, oGe, uNeg, oIs, oIsNot, ggNil, ggCons, ggTup, ggP, ggSub, oSetIx, runP, runPs, putG, giLst, giTup, giStr, giRng1, giRng2, gLc, wipeG, atG, oIx, goNone, goSome, gSlice, oSl, cutG, sIxG, cLen, cMax2, cMin2, cAbs, cStr, cBool, cInt, cTuple, cList, cIsi, isiB, isiO, tyD_obj, tyD_non, tyD_bl, tyD_int, tyD_str, tyD_tup, tyD_rol, tyO, oOwn, oOwnB, oOwnU, cOwn, isBlD, isStrD, isLenD, cBoolO, cStrO, cLenO, oInO, gCallO, itemsD, gJoin, oJoin, cRepr1, tbs, oks, okK_self, okK_n1, okK_n2, okK_n3, okK_n4, okK_n5, okK_n6, okK_n7, sp1, sp2, sp3, oAddI, withM_dM, withM_lit, withI_of, withX_of, withO_of, withT_at, withT_at0, withTL_some, st_set_new, st_set_new0, st_get_new, st_get_new0, List.append_assoc, Nat.add_assoc, st_new, st_new0, stS_new, stS_new0, gsRaise0, gsRaise1, gsTryT, gFldE, cIsiE, isiEx, gDict0, gBM, isTupD, mSplit, mStarts, mTxt0, oRep, oMulS, gSliceK, oSlK, gRepl, ggUnl, gLam, gAct, gMakeV, gCon, gCallO, giEnumS, oInF, flatD, eqF, List.map_cons, List.map_nil, List.replicate, List.length_cons, List.length_nil, List.length_append, List.length_set, List.cons_append, List.nil_append, List.getElem?_cons_zero, List.getElem?_cons_succ, List.set_cons_zero, List.set_cons_succ, List.lookup, List.all_cons, List.all_nil, List.mem_cons, List.not_mem_nil, or_false, Nat.reduceAdd, Nat.reduceSub, Nat.zero_add, Nat.add_zero, beq_self_eq_true, Bool.and_true, Bool.true_and, Bool.not_true, Bool.not_false, if_true, if_false, Bool.false_eq_true, decide_true, decide_false, and_true, true_and, Nat.reduceLeDiff, String.reduceEq, String.reduceNe, String.reduceBEq, String.reduceBNe, Int.reduceNeg, Int.reduceLT, Int.reduceLE, Int.reduceAdd, Int.reduceMul, Int.reduceMod, Int.reducePow, reduceIte, false_or, true_or, or_true, or_self, false_and, and_false, Bool.or_false, Bool.false_or, Bool.true_or, Bool.or_true, Bool.and_false, Bool.false_and, decide_eq_true_eq, Bool.not_eq_true, Int.toNat_zero, Int.reduceToNat, Int.toNat_natCast, Int.reduceLE, Int.reduceLT, oEq_int, oNe_int, ↓reduceIte, Nat.lt_irrefl]
  obtain ⟨z1, z2, z3, z4⟩ := M.sz_ok hm (by decide)
  obtain ⟨y1, y2, y3, y4⟩ := M.sz_ok hn (by decide)
  exact ⟨z1, y1, z2, y3, z1, y2, z2, y4, z3, y1, z4, y3, z3, y2, z4, y4, cut_same h⟩
theorem len_Turn_rows (c : CA) (ds : List D) (S : SS) (Q : GQ) (G : GX) (h : sp_Turn_rows c ds S Q G) : ds.length = 1 := sp1_len ds S Q G h
theorem vc_Turn_rows (c : CA) (hc : ClsOk c) (ds : List D) (S : SS) (Q : GQ) (G : GX) (h : sp_Turn_rows c ds S Q G) : Body (b_Turn_rows c) N_Turn_rows ds S Q G := by
  refine body1 h fun d h => ?_
  obtain ⟨k, m, rfl, hk, h⟩ := withT_inv h
  unfold b_Turn_rows N_Turn_rows
  unfold oT at hk
  simp only [Body, gsNx, gsSeq, gsAsg, gsPar2, gsRet, gsRetN, gsDrop, gsIf, gsBrk, gsCt, gsAug, gsFld, gsNever, gsFor, gC, gV, gNil, gCons, gTup, gLst, gBin, gUn, gChain, gAndV, gOrV, gNotV, gIfE, gCall, gBlt, gMake, gMeth, gFld, gProp, gtV, gtT, truD, gtAnd, gtOr, gtNot, gtYes, oAdd, oSub, oMul, oMod, oFdiv, oFdivW, oPow, oLt, oLe, oGt, oGe, uNeg, oIs, oIsNot, ggNil, ggCons, ggTup, ggP, ggSub, oSetIx, runP, runPs, putG, giLst, giTup, giStr, giRng1, giRng2, gLc, wipeG, atG, oIx, goNone, goSome, gSlice, oSl, cutG, sIxG, cLen, cMax2, cMin2, cAbs, cStr, cBool, cInt, cTuple, cList, cIsi, isiB, isiO, tyD_obj, tyD_non, tyD_bl, tyD_int, tyD_str, tyD_tup, tyD_rol, tyO, oOwn, oOwnB, oOwnU, cOwn, isBlD, isStrD, isLenD, cBoolO, cStrO, cLenO, oInO, gCallO, itemsD, gJoin, oJoin, cRepr1, tbs, oks, okK_self, okK_n1, okK_n2, okK_n3, okK_n4, okK_n5, okK_n6, okK_n7, sp1, sp2, sp3, oAddI, withM_dM, withM_lit, withI_of, withX_of, withO_of, withT_at, withT_at0, withTL_some, st_set_new, st_set_new0, st_get_new, st_get_new0, List.append_assoc, Nat.add_assoc, st_new, st_new0, stS_new, stS_new0, gsRaise0, gsRaise1, gsTryT, gFldE, cIsiE, isiEx, gDict0, gBM, isTupD, mSplit, mStarts, mTxt0, oRep, oMulS, gSliceK, oSlK, gRepl, ggUnl, gLam, gAct, gMakeV, gCon, gCallO, giEnumS, oInF, flatD, eqF, List.map_cons, List.map_nil, List.replicate, List.length_cons, List.length_nil, List.length_append, List.length_set, List.cons_append, List.nil_append, List.getElem?_cons_zero, List.getElem?_cons_succ, List.set_cons_zero, List.set_cons_succ, List.lookup, List.all_cons, List.all_nil, List.mem_cons, List.not_mem_nil, or_false, Nat.reduceAdd, Nat.reduceSub, Nat.zero_add, Nat.add_zero, beq_self_eq_true, Bool.and_true, Bool.true_and, Bool.not_true, Bool.not_false, if_true, if_false, Bool.false_eq_true, decide_true, decide_false, and_true, true_and, Nat.reduceLeDiff, String.reduceEq, String.reduceNe, String.reduceBEq, String.reduceBNe, Int.reduceNeg, Int.reduceLT, Int.reduceLE, Int.reduceAdd, Int.reduceMul, Int.reduceMod, Int.reducePow, reduceIte, false_or, true_or, or_true, or_self, false_and, and_false, Bool.or_false, Bool.false_or, Bool.true_or, Bool.or_true, Bool.and_false, Bool.false_and, decide_eq_true_eq, Bool.not_eq_true, Int.toNat_zero, Int.reduceToNat, Int.toNat_natCast, Int.reduceLE, Int.reduceLT, oEq_int, oNe_int, ↓reduceIte, Nat.lt_irrefl,  hk, HELD]
  exact cut_same h
theorem log2_of {i : Int} (h : i.natAbs < 2 ^ 1000) : i.natAbs.log2 < 1920 := by
  by_cases h0 : i.natAbs = 0
  · rw [h0]; decide
  · have := (Nat.log2_lt h0).mpr h
    omega
theorem len__law_of (c : CA) (ds : List D) (S : SS) (Q : GQ) (G : GX) (h : sp__law_of c ds S Q G) : ds.length = 1 := sp1_len ds S Q G h
theorem vc__law_of (c : CA) (hc : ClsOk c) (ds : List D) (S : SS) (Q : GQ) (G : GX) (h : sp__law_of c ds S Q G) : Body (b__law_of c) N__law_of ds S Q G := by
  refine body1 h fun d h => ?_
  obtain ⟨x, rfl, hx, h⟩ := withX_inv h
  unfold b__law_of N__law_of
  simp only [Body, gsNx, gsSeq, gsAsg, gsPar2, gsRet, gsRetN, gsDrop, gsIf, gsBrk, gsCt, gsAug, gsFld, gsNever, gsFor, gC, gV, gNil, gCons, gTup, gLst, gBin, gUn, gChain, gAndV, gOrV, gNotV, gIfE, gCall, gBlt, gMake, gMeth, gFld, gProp, gtV, gtT, truD, gtAnd, gtOr, gtNot, gtYes, oAdd, oSub, oMul, oMod, oFdiv, oFdivW, oPow, oLt, oLe, oGt, oGe, uNeg, oIs, oIsNot, ggNil, ggCons, ggTup, ggP, ggSub, oSetIx, runP, runPs, putG, giLst, giTup, giStr, giRng1, giRng2, gLc, wipeG, atG, oIx, goNone, goSome, gSlice, oSl, cutG, sIxG, cLen, cMax2, cMin2, cAbs, cStr, cBool, cInt, cTuple, cList, cIsi, isiB, isiO, tyD_obj, tyD_non, tyD_bl, tyD_int, tyD_str, tyD_tup, tyD_rol, tyO, oOwn, oOwnB, oOwnU, cOwn, isBlD, isStrD, isLenD, cBoolO, cStrO, cLenO, oInO, gCallO, itemsD, gJoin, oJoin, cRepr1, tbs, oks, okK_self, okK_n1, okK_n2, okK_n3, okK_n4, okK_n5, okK_n6, okK_n7, sp1, sp2, sp3, oAddI, withM_dM, withM_lit, withI_of, withX_of, withO_of, withT_at, withT_at0, withTL_some, st_set_new, st_set_new0, st_get_new, st_get_new0, List.append_assoc, Nat.add_assoc, st_new, st_new0, stS_new, stS_new0, gsRaise0, gsRaise1, gsTryT, gFldE, cIsiE, isiEx, gDict0, gBM, isTupD, mSplit, mStarts, mTxt0, oRep, oMulS, gSliceK, oSlK, gRepl, ggUnl, gLam, gAct, gMakeV, gCon, gCallO, giEnumS, oInF, flatD, eqF, List.map_cons, List.map_nil, List.replicate, List.length_cons, List.length_nil, List.length_append, List.length_set, List.cons_append, List.nil_append, List.getElem?_cons_zero, List.getElem?_cons_succ, List.set_cons_zero, List.set_cons_succ, List.lookup, List.all_cons, List.all_nil, List.mem_cons, List.not_mem_nil, or_false, Nat.reduceAdd, Nat.reduceSub, Nat.zero_add, Nat.add_zero, beq_self_eq_true, Bool.and_true, Bool.true_and, Bool.not_true, Bool.not_false, if_true, if_false, Bool.false_eq_true, decide_true, decide_false, and_true, true_and, Nat.reduceLeDiff, String.reduceEq, String.reduceNe, String.reduceBEq, String.reduceBNe, Int.reduceNeg, Int.reduceLT, Int.reduceLE, Int.reduceAdd, Int.reduceMul, Int.reduceMod, Int.reducePow, reduceIte, false_or, true_or, or_true, or_self, false_and, and_false, Bool.or_false, Bool.false_or, Bool.true_or, Bool.or_true, Bool.and_false, Bool.false_and, decide_eq_true_eq, Bool.not_eq_true, Int.toNat_zero, Int.reduceToNat, Int.toNat_natCast, Int.reduceLE, Int.reduceLT, oEq_int, oNe_int, ↓reduceIte, Nat.lt_irrefl,  oEq_str hx (show PyData.strOk ⟨#[83]⟩ = true by decide +kernel), oEq_str hx (show PyData.strOk ⟨#[82]⟩ = true by decide +kernel)]
  unfold letM at h
  have e := cut_same (S := S) h
  by_cases h1 : x = ⟨#[83]⟩
  · simpa [h1, letS, dM] using e
  · by_cases h2 : x = ⟨#[82]⟩
    · simpa [h1, h2, letR, dM] using e
    · simpa [h1, h2, letr, dM] using e
theorem len__law_source (c : CA) (ds : List D) (S : SS) (Q : GQ) (G : GX) (h : sp__law_source c ds S Q G) : ds.length = 2 := sp2_len ds S Q G h
theorem vc__law_source (c : CA) (hc : ClsOk c) (ds : List D) (S : SS) (Q : GQ) (G : GX) (h : sp__law_source c ds S Q G) : Body (b__law_source c) N__law_source ds S Q G := by
  refine body2 h fun d e h => ?_
  obtain ⟨ns, k, rfl, rfl, h0, h1, h⟩ := h
  unfold b__law_source N__law_source
  simp only [Body, gsNx, gsSeq, gsAsg, gsPar2, gsRet, gsRetN, gsDrop, gsIf, gsBrk, gsCt, gsAug, gsFld, gsNever, gsFor, gC, gV, gNil, gCons, gTup, gLst, gBin, gUn, gChain, gAndV, gOrV, gNotV, gIfE, gCall, gBlt, gMake, gMeth, gFld, gProp, gtV, gtT, truD, gtAnd, gtOr, gtNot, gtYes, oAdd, oSub, oMul, oMod, oFdiv, oFdivW, oPow, oLt, oLe, oGt, oGe, uNeg, oIs, oIsNot, ggNil, ggCons, ggTup, ggP, ggSub, oSetIx, runP, runPs, putG, giLst, giTup, giStr, giRng1, giRng2, gLc, wipeG, atG, oIx, goNone, goSome, gSlice, oSl, cutG, sIxG, cLen, cMax2, cMin2, cAbs, cStr, cBool, cInt, cTuple, cList, cIsi, isiB, isiO, tyD_obj, tyD_non, tyD_bl, tyD_int, tyD_str, tyD_tup, tyD_rol, tyO, oOwn, oOwnB, oOwnU, cOwn, isBlD, isStrD, isLenD, cBoolO, cStrO, cLenO, oInO, gCallO, itemsD, gJoin, oJoin, cRepr1, tbs, oks, okK_self, okK_n1, okK_n2, okK_n3, okK_n4, okK_n5, okK_n6, okK_n7, sp1, sp2, sp3, oAddI, withM_dM, withM_lit, withI_of, withX_of, withO_of, withT_at, withT_at0, withTL_some, st_set_new, st_set_new0, st_get_new, st_get_new0, List.append_assoc, Nat.add_assoc, st_new, st_new0, stS_new, stS_new0, gsRaise0, gsRaise1, gsTryT, gFldE, cIsiE, isiEx, gDict0, gBM, isTupD, mSplit, mStarts, mTxt0, oRep, oMulS, gSliceK, oSlK, gRepl, ggUnl, gLam, gAct, gMakeV, gCon, gCallO, giEnumS, oInF, flatD, eqF, List.map_cons, List.map_nil, List.replicate, List.length_cons, List.length_nil, List.length_append, List.length_set, List.cons_append, List.nil_append, List.getElem?_cons_zero, List.getElem?_cons_succ, List.set_cons_zero, List.set_cons_succ, List.lookup, List.all_cons, List.all_nil, List.mem_cons, List.not_mem_nil, or_false, Nat.reduceAdd, Nat.reduceSub, Nat.zero_add, Nat.add_zero, beq_self_eq_true, Bool.and_true, Bool.true_and, Bool.not_true, Bool.not_false, if_true, if_false, Bool.false_eq_true, decide_true, decide_false, and_true, true_and, Nat.reduceLeDiff, String.reduceEq, String.reduceNe, String.reduceBEq, String.reduceBNe, Int.reduceNeg, Int.reduceLT, Int.reduceLE, Int.reduceAdd, Int.reduceMul, Int.reduceMod, Int.reducePow, reduceIte, false_or, true_or, or_true, or_self, false_and, and_false, Bool.or_false, Bool.false_or, Bool.true_or, Bool.or_true, Bool.and_false, Bool.false_and, decide_eq_true_eq, Bool.not_eq_true, Int.toNat_zero, Int.reduceToNat, Int.toNat_natCast, Int.reduceLE, Int.reduceLT, oEq_int, oNe_int, ↓reduceIte, Nat.lt_irrefl]
  have z : szOk k := by
    show k.natAbs < 2 ^ 400000
    have e : 2 ^ 10 ≤ 2 ^ 400000 := Nat.pow_le_pow_right (by decide) (by decide)
    have : k.natAbs < 2 ^ 10 := by omega
    omega
  have z3 : szOk 3 := by
    show (3 : Int).natAbs < 2 ^ 400000
    have e : 2 ^ 10 ≤ 2 ^ 400000 := Nat.pow_le_pow_right (by decide) (by decide)
    have : (3 : Int).natAbs < 2 ^ 10 := by decide
    omega
  have z9 : Int.natAbs 1000000000000000000 < 2 ^ 9000 := by
    have e : 2 ^ 64 ≤ 2 ^ 9000 := Nat.pow_le_pow_right (by decide) (by decide)
    have : Int.natAbs 1000000000000000000 < 2 ^ 64 := by decide
    omega
  refine oNe_rolNil (by simp only [Body, gsNx, gsSeq, gsAsg, gsPar2, gsRet, gsRetN, gsDrop, gsIf, gsBrk, gsCt, gsAug, gsFld, gsNever, gsFor, gC, gV, gNil, gCons, gTup, gLst, gBin, gUn, gChain, gAndV, gOrV, gNotV, gIfE, gCall, gBlt, gMake, gMeth, gFld, gProp, gtV, gtT, truD, gtAnd, gtOr, gtNot, gtYes, oAdd, oSub, oMul, oMod, oFdiv, oFdivW, oPow, oLt, oLe, oGt, oGe, uNeg, oIs, oIsNot, ggNil, ggCons, ggTup, ggP, ggSub, oSetIx, runP, runPs, putG, giLst, giTup, giStr, giRng1, giRng2, gLc, wipeG, atG, oIx, goNone, goSome, gSlice, oSl, cutG, sIxG, cLen, cMax2, cMin2, cAbs, cStr, cBool, cInt, cTuple, cList, cIsi, isiB, isiO, tyD_obj, tyD_non, tyD_bl, tyD_int, tyD_str, tyD_tup, tyD_rol, tyO, oOwn, oOwnB, oOwnU, cOwn, isBlD, isStrD, isLenD, cBoolO, cStrO, cLenO, oInO, gCallO, itemsD, gJoin, oJoin, cRepr1, tbs, oks, okK_self, okK_n1, okK_n2, okK_n3, okK_n4, okK_n5, okK_n6, okK_n7, sp1, sp2, sp3, oAddI, withM_dM, withM_lit, withI_of, withX_of, withO_of, withT_at, withT_at0, withTL_some, st_set_new, st_set_new0, st_get_new, st_get_new0, List.append_assoc, Nat.add_assoc, st_new, st_new0, stS_new, stS_new0, gsRaise0, gsRaise1, gsTryT, gFldE, cIsiE, isiEx, gDict0, gBM, isTupD, mSplit, mStarts, mTxt0, oRep, oMulS, gSliceK, oSlK, gRepl, ggUnl, gLam, gAct, gMakeV, gCon, gCallO, giEnumS, oInF, flatD, eqF, List.map_cons, List.map_nil, List.replicate, List.length_cons, List.length_nil, List.length_append, List.length_set, List.cons_append, List.nil_append, List.getElem?_cons_zero, List.getElem?_cons_succ, List.set_cons_zero, List.set_cons_succ, List.lookup, List.all_cons, List.all_nil, List.mem_cons, List.not_mem_nil, or_false, Nat.reduceAdd, Nat.reduceSub, Nat.zero_add, Nat.add_zero, beq_self_eq_true, Bool.and_true, Bool.true_and, Bool.not_true, Bool.not_false, if_true, if_false, Bool.false_eq_true, decide_true, decide_false, and_true, true_and, Nat.reduceLeDiff, String.reduceEq, String.reduceNe, String.reduceBEq, String.reduceBNe, Int.reduceNeg, Int.reduceLT, Int.reduceLE, Int.reduceAdd, Int.reduceMul, Int.reduceMod, Int.reducePow, reduceIte, false_or, true_or, or_true, or_self, false_and, and_false, Bool.or_false, Bool.false_or, Bool.true_or, Bool.or_true, Bool.and_false, Bool.false_and, decide_eq_true_eq, Bool.not_eq_true, Int.toNat_zero, Int.reduceToNat, Int.toNat_natCast, Int.reduceLE, Int.reduceLT, oEq_int, oNe_int, ↓reduceIte, Nat.lt_irrefl]) ?_
  cases ns with
  | nil =>
    simp only [Body, gsNx, gsSeq, gsAsg, gsPar2, gsRet, gsRetN, gsDrop, gsIf, gsBrk, gsCt, gsAug, gsFld, gsNever, gsFor, gC, gV, gNil, gCons, gTup, gLst, gBin, gUn, gChain, gAndV, gOrV, gNotV, gIfE, gCall, gBlt, gMake, gMeth, gFld, gProp, gtV, gtT, truD, gtAnd, gtOr, gtNot, gtYes, oAdd, oSub, oMul, oMod, oFdiv, oFdivW, oPow, oLt, oLe, oGt, oGe, uNeg, oIs, oIsNot, ggNil, ggCons, ggTup, ggP, ggSub, oSetIx, runP, runPs, putG, giLst, giTup, giStr, giRng1, giRng2, gLc, wipeG, atG, oIx, goNone, goSome, gSlice, oSl, cutG, sIxG, cLen, cMax2, cMin2, cAbs, cStr, cBool, cInt, cTuple, cList, cIsi, isiB, isiO, tyD_obj, tyD_non, tyD_bl, tyD_int, tyD_str, tyD_tup, tyD_rol, tyO, oOwn, oOwnB, oOwnU, cOwn, isBlD, isStrD, isLenD, cBoolO, cStrO, cLenO, oInO, gCallO, itemsD, gJoin, oJoin, cRepr1, tbs, oks, okK_self, okK_n1, okK_n2, okK_n3, okK_n4, okK_n5, okK_n6, okK_n7, sp1, sp2, sp3, oAddI, withM_dM, withM_lit, withI_of, withX_of, withO_of, withT_at, withT_at0, withTL_some, st_set_new, st_set_new0, st_get_new, st_get_new0, List.append_assoc, Nat.add_assoc, st_new, st_new0, stS_new, stS_new0, gsRaise0, gsRaise1, gsTryT, gFldE, cIsiE, isiEx, gDict0, gBM, isTupD, mSplit, mStarts, mTxt0, oRep, oMulS, gSliceK, oSlK, gRepl, ggUnl, gLam, gAct, gMakeV, gCon, gCallO, giEnumS, oInF, flatD, eqF, List.map_cons, List.map_nil, List.replicate, List.length_cons, List.length_nil, List.length_append, List.length_set, List.cons_append, List.nil_append, List.getElem?_cons_zero, List.getElem?_cons_succ, List.set_cons_zero, List.set_cons_succ, List.lookup, List.all_cons, List.all_nil, List.mem_cons, List.not_mem_nil, or_false, Nat.reduceAdd, Nat.reduceSub, Nat.zero_add, Nat.add_zero, beq_self_eq_true, Bool.and_true, Bool.true_and, Bool.not_true, Bool.not_false, if_true, if_false, Bool.false_eq_true, decide_true, decide_false, and_true, true_and, Nat.reduceLeDiff, String.reduceEq, String.reduceNe, String.reduceBEq, String.reduceBNe, Int.reduceNeg, Int.reduceLT, Int.reduceLE, Int.reduceAdd, Int.reduceMul, Int.reduceMod, Int.reducePow, reduceIte, false_or, true_or, or_true, or_self, false_and, and_false, Bool.or_false, Bool.false_or, Bool.true_or, Bool.or_true, Bool.and_false, Bool.false_and, decide_eq_true_eq, Bool.not_eq_true, Int.toNat_zero, Int.reduceToNat, Int.toNat_natCast, Int.reduceLE, Int.reduceLT, oEq_int, oNe_int, ↓reduceIte, Nat.lt_irrefl,  List.isEmpty_nil]
    exact ⟨z3, z, by decide, cut_same (h 1 0)⟩
  | cons i ns =>
    simp only [Body, gsNx, gsSeq, gsAsg, gsPar2, gsRet, gsRetN, gsDrop, gsIf, gsBrk, gsCt, gsAug, gsFld, gsNever, gsFor, gC, gV, gNil, gCons, gTup, gLst, gBin, gUn, gChain, gAndV, gOrV, gNotV, gIfE, gCall, gBlt, gMake, gMeth, gFld, gProp, gtV, gtT, truD, gtAnd, gtOr, gtNot, gtYes, oAdd, oSub, oMul, oMod, oFdiv, oFdivW, oPow, oLt, oLe, oGt, oGe, uNeg, oIs, oIsNot, ggNil, ggCons, ggTup, ggP, ggSub, oSetIx, runP, runPs, putG, giLst, giTup, giStr, giRng1, giRng2, gLc, wipeG, atG, oIx, goNone, goSome, gSlice, oSl, cutG, sIxG, cLen, cMax2, cMin2, cAbs, cStr, cBool, cInt, cTuple, cList, cIsi, isiB, isiO, tyD_obj, tyD_non, tyD_bl, tyD_int, tyD_str, tyD_tup, tyD_rol, tyO, oOwn, oOwnB, oOwnU, cOwn, isBlD, isStrD, isLenD, cBoolO, cStrO, cLenO, oInO, gCallO, itemsD, gJoin, oJoin, cRepr1, tbs, oks, okK_self, okK_n1, okK_n2, okK_n3, okK_n4, okK_n5, okK_n6, okK_n7, sp1, sp2, sp3, oAddI, withM_dM, withM_lit, withI_of, withX_of, withO_of, withT_at, withT_at0, withTL_some, st_set_new, st_set_new0, st_get_new, st_get_new0, List.append_assoc, Nat.add_assoc, st_new, st_new0, stS_new, stS_new0, gsRaise0, gsRaise1, gsTryT, gFldE, cIsiE, isiEx, gDict0, gBM, isTupD, mSplit, mStarts, mTxt0, oRep, oMulS, gSliceK, oSlK, gRepl, ggUnl, gLam, gAct, gMakeV, gCon, gCallO, giEnumS, oInF, flatD, eqF, List.map_cons, List.map_nil, List.replicate, List.length_cons, List.length_nil, List.length_append, List.length_set, List.cons_append, List.nil_append, List.getElem?_cons_zero, List.getElem?_cons_succ, List.set_cons_zero, List.set_cons_succ, List.lookup, List.all_cons, List.all_nil, List.mem_cons, List.not_mem_nil, or_false, Nat.reduceAdd, Nat.reduceSub, Nat.zero_add, Nat.add_zero, beq_self_eq_true, Bool.and_true, Bool.true_and, Bool.not_true, Bool.not_false, if_true, if_false, Bool.false_eq_true, decide_true, decide_false, and_true, true_and, Nat.reduceLeDiff, String.reduceEq, String.reduceNe, String.reduceBEq, String.reduceBNe, Int.reduceNeg, Int.reduceLT, Int.reduceLE, Int.reduceAdd, Int.reduceMul, Int.reduceMod, Int.reducePow, reduceIte, false_or, true_or, or_true, or_self, false_and, and_false, Bool.or_false, Bool.false_or, Bool.true_or, Bool.or_true, Bool.and_false, Bool.false_and, decide_eq_true_eq, Bool.not_eq_true, Int.toNat_zero, Int.reduceToNat, Int.toNat_natCast, Int.reduceLE, Int.reduceLT, oEq_int, oNe_int, ↓reduceIte, Nat.lt_irrefl,  List.isEmpty_cons]
    have hlen : (0 : Int) < ((List.map D.int ns).length + 1 : Nat) := by omega
    refine ⟨hlen, ?_⟩
    rw [if_pos (Int.emod_nonneg k (by omega))]
    have hk : ∃ x : Int, (D.int i :: List.map D.int ns)[(k % ((List.map D.int ns).length + 1 : Nat)).toNat]? = some (D.int x) := by
      have h0 := Int.emod_nonneg k (show (((List.map D.int ns).length + 1 : Nat) : Int) ≠ 0 by omega)
      have h1 := Int.emod_lt_of_pos k hlen
      have hb : (k % ((List.map D.int ns).length + 1 : Nat)).toNat < (i :: ns).length := by simp at h0 h1 ⊢; omega
      refine ⟨(i :: ns)[(k % ((List.map D.int ns).length + 1 : Nat)).toNat], ?_⟩
      rw [show (D.int i :: List.map D.int ns) = (i :: ns).map D.int from rfl, List.getElem?_map, List.getElem?_eq_getElem hb]; rfl
    obtain ⟨x, hx⟩ := hk
    rw [hx]
    simp only [Body, gsNx, gsSeq, gsAsg, gsPar2, gsRet, gsRetN, gsDrop, gsIf, gsBrk, gsCt, gsAug, gsFld, gsNever, gsFor, gC, gV, gNil, gCons, gTup, gLst, gBin, gUn, gChain, gAndV, gOrV, gNotV, gIfE, gCall, gBlt, gMake, gMeth, gFld, gProp, gtV, gtT, truD, gtAnd, gtOr, gtNot, gtYes, oAdd, oSub, oMul, oMod, oFdiv, oFdivW, oPow, oLt, oLe, oGt, oGe, uNeg, oIs, oIsNot, ggNil, ggCons, ggTup, ggP, ggSub, oSetIx, runP, runPs, putG, giLst, giTup, giStr, giRng1, giRng2, gLc, wipeG, atG, oIx, goNone, goSome, gSlice, oSl, cutG, sIxG, cLen, cMax2, cMin2, cAbs, cStr, cBool, cInt, cTuple, cList, cIsi, isiB, isiO, tyD_obj, tyD_non, tyD_bl, tyD_int, tyD_str, tyD_tup, tyD_rol, tyO, oOwn, oOwnB, oOwnU, cOwn, isBlD, isStrD, isLenD, cBoolO, cStrO, cLenO, oInO, gCallO, itemsD, gJoin, oJoin, cRepr1, tbs, oks, okK_self, okK_n1, okK_n2, okK_n3, okK_n4, okK_n5, okK_n6, okK_n7, sp1, sp2, sp3, oAddI, withM_dM, withM_lit, withI_of, withX_of, withO_of, withT_at, withT_at0, withTL_some, st_set_new, st_set_new0, st_get_new, st_get_new0, List.append_assoc, Nat.add_assoc, st_new, st_new0, stS_new, stS_new0, gsRaise0, gsRaise1, gsTryT, gFldE, cIsiE, isiEx, gDict0, gBM, isTupD, mSplit, mStarts, mTxt0, oRep, oMulS, gSliceK, oSlK, gRepl, ggUnl, gLam, gAct, gMakeV, gCon, gCallO, giEnumS, oInF, flatD, eqF, List.map_cons, List.map_nil, List.replicate, List.length_cons, List.length_nil, List.length_append, List.length_set, List.cons_append, List.nil_append, List.getElem?_cons_zero, List.getElem?_cons_succ, List.set_cons_zero, List.set_cons_succ, List.lookup, List.all_cons, List.all_nil, List.mem_cons, List.not_mem_nil, or_false, Nat.reduceAdd, Nat.reduceSub, Nat.zero_add, Nat.add_zero, beq_self_eq_true, Bool.and_true, Bool.true_and, Bool.not_true, Bool.not_false, if_true, if_false, Bool.false_eq_true, decide_true, decide_false, and_true, true_and, Nat.reduceLeDiff, String.reduceEq, String.reduceNe, String.reduceBEq, String.reduceBNe, Int.reduceNeg, Int.reduceLT, Int.reduceLE, Int.reduceAdd, Int.reduceMul, Int.reduceMod, Int.reducePow, reduceIte, false_or, true_or, or_true, or_self, false_and, and_false, Bool.or_false, Bool.false_or, Bool.true_or, Bool.or_true, Bool.and_false, Bool.false_and, decide_eq_true_eq, Bool.not_eq_true, Int.toNat_zero, Int.reduceToNat, Int.toNat_natCast, Int.reduceLE, Int.reduceLT, oEq_int, oNe_int, ↓reduceIte, Nat.lt_irrefl]
    refine ⟨z3, z, by decide, ?_⟩
    split
    · exact ⟨by decide, z9, cut_same (h _ _)⟩
    · exact cut_same (h _ _)
theorem len__law_next (c : CA) (ds : List D) (S : SS) (Q : GQ) (G : GX) (h : sp__law_next c ds S Q G) : ds.length = 2 := sp2_len ds S Q G h
theorem vc__law_next (c : CA) (hc : ClsOk c) (ds : List D) (S : SS) (Q : GQ) (G : GX) (h : sp__law_next c ds S Q G) : Body (b__law_next c) N__law_next ds S Q G := by
  refine body2 h fun d e h => ?_
  obtain ⟨many, rfl, h⟩ := withI_inv h
  obtain ⟨k, cell, n, g, rfl, hk, m0, m1, n0, n1, h⟩ := withSrc_inv h
  have kl := st_lt hk
  unfold b__law_next N__law_next
  unfold srcO at hk
  simp only [Body, gsNx, gsSeq, gsAsg, gsPar2, gsRet, gsRetN, gsDrop, gsIf, gsBrk, gsCt, gsAug, gsFld, gsNever, gsFor, gC, gV, gNil, gCons, gTup, gLst, gBin, gUn, gChain, gAndV, gOrV, gNotV, gIfE, gCall, gBlt, gMake, gMeth, gFld, gProp, gtV, gtT, truD, gtAnd, gtOr, gtNot, gtYes, oAdd, oSub, oMul, oMod, oFdiv, oFdivW, oPow, oLt, oLe, oGt, oGe, uNeg, oIs, oIsNot, ggNil, ggCons, ggTup, ggP, ggSub, oSetIx, runP, runPs, putG, giLst, giTup, giStr, giRng1, giRng2, gLc, wipeG, atG, oIx, goNone, goSome, gSlice, oSl, cutG, sIxG, cLen, cMax2, cMin2, cAbs, cStr, cBool, cInt, cTuple, cList, cIsi, isiB, isiO, tyD_obj, tyD_non, tyD_bl, tyD_int, tyD_str, tyD_tup, tyD_rol, tyO, oOwn, oOwnB, oOwnU, cOwn, isBlD, isStrD, isLenD, cBoolO, cStrO, cLenO, oInO, gCallO, itemsD, gJoin, oJoin, cRepr1, tbs, oks, okK_self, okK_n1, okK_n2, okK_n3, okK_n4, okK_n5, okK_n6, okK_n7, sp1, sp2, sp3, oAddI, withM_dM, withM_lit, withI_of, withX_of, withO_of, withT_at, withT_at0, withTL_some, st_set_new, st_set_new0, st_get_new, st_get_new0, List.append_assoc, Nat.add_assoc, st_new, st_new0, stS_new, stS_new0, gsRaise0, gsRaise1, gsTryT, gFldE, cIsiE, isiEx, gDict0, gBM, isTupD, mSplit, mStarts, mTxt0, oRep, oMulS, gSliceK, oSlK, gRepl, ggUnl, gLam, gAct, gMakeV, gCon, gCallO, giEnumS, oInF, flatD, eqF, List.map_cons, List.map_nil, List.replicate, List.length_cons, List.length_nil, List.length_append, List.length_set, List.cons_append, List.nil_append, List.getElem?_cons_zero, List.getElem?_cons_succ, List.set_cons_zero, List.set_cons_succ, List.lookup, List.all_cons, List.all_nil, List.mem_cons, List.not_mem_nil, or_false, Nat.reduceAdd, Nat.reduceSub, Nat.zero_add, Nat.add_zero, beq_self_eq_true, Bool.and_true, Bool.true_and, Bool.not_true, Bool.not_false, if_true, if_false, Bool.false_eq_true, decide_true, decide_false, and_true, true_and, Nat.reduceLeDiff, String.reduceEq, String.reduceNe, String.reduceBEq, String.reduceBNe, Int.reduceNeg, Int.reduceLT, Int.reduceLE, Int.reduceAdd, Int.reduceMul, Int.reduceMod, Int.reducePow, reduceIte, false_or, true_or, or_true, or_self, false_and, and_false, Bool.or_false, Bool.false_or, Bool.true_or, Bool.or_true, Bool.and_false, Bool.false_and, decide_eq_true_eq, Bool.not_eq_true, Int.toNat_zero, Int.reduceToNat, Int.toNat_natCast, Int.reduceLE, Int.reduceLT, oEq_int, oNe_int, ↓reduceIte, Nat.lt_irrefl,  hk, stS_k kl, stS_kk kl]
  have hfin : ∀ v n' g', 0 ≤ v → v < many → 0 ≤ n' → n' ≤ n + 1 → gCut S Q (.int v) (S.set k (srcO cell n' g')) := fun v n' g' a b c d => cut_same (h v n' g' a b c d)
  have hfin2 : ∀ v n' g' L, 0 ≤ v → v < many → 0 ≤ n' → n' ≤ n + 1 → gCut S Q (.int v) (S.set k (srcO cell n' g') ++ L) := fun v n' g' L a b c d => cut_set rfl rfl (h v n' g' a b c d)
  split
  · refine ⟨m0, m0, m1, ite_p (by decide) (hfin _ n _ (Int.emod_nonneg _ (by omega)) (Int.emod_lt_of_pos _ m0) n0 (by omega))⟩
  · refine ite_p (by decide) ?_
    have hz : ∀ i : Int, 0 ≤ i → i < 2 ^ 41 → szOk i := by
      intro i h0 h1
      show i.natAbs < 2 ^ 400000
      have e : 2 ^ 41 ≤ 2 ^ 400000 := Nat.pow_le_pow_right (by decide) (by decide)
      have : i.natAbs < 2 ^ 41 := by omega
      omega
    have hp : ∃ p : Int, (if 0 ≤ (n + 1) % 11 then [D.int 2147483647, D.int 2147483629, D.int 2147483587, D.int 2147483579, D.int 2147483563, D.int 2147483549, D.int 2147483543, D.int 2147483497, D.int 2147483489, D.int 2147483477, D.int 2147483423][((n + 1) % 11).toNat]?
        else if -((11 : Nat) : Int) ≤ (n + 1) % 11 then [D.int 2147483647, D.int 2147483629, D.int 2147483587, D.int 2147483579, D.int 2147483563, D.int 2147483549, D.int 2147483543, D.int 2147483497, D.int 2147483489, D.int 2147483477, D.int 2147483423][((n + 1) % 11 + ((11 : Nat) : Int)).toNat]? else none) = some (.int p) ∧ 0 < p ∧ p < 2 ^ 31 := by
      have h11 : (n + 1) % 11 = 0 ∨ (n + 1) % 11 = 1 ∨ (n + 1) % 11 = 2 ∨ (n + 1) % 11 = 3 ∨ (n + 1) % 11 = 4 ∨ (n + 1) % 11 = 5 ∨ (n + 1) % 11 = 6 ∨ (n + 1) % 11 = 7 ∨ (n + 1) % 11 = 8 ∨ (n + 1) % 11 = 9 ∨ (n + 1) % 11 = 10 := by omega
      rcases h11 with e | e | e | e | e | e | e | e | e | e | e <;> rw [e] <;> exact ⟨_, rfl, by decide, by decide⟩
    obtain ⟨p, hp, p0, p1⟩ := hp
    rw [hp]
    have c0 := Int.emod_nonneg cell (show p ≠ 0 by omega)
    have c1 := Int.emod_lt_of_pos cell p0
    refine ⟨p0, hz _ (by decide) (by decide), hz _ (by omega) (by omega), by omega, p0, m0, hfin2 _ (n + 1) g _ (Int.emod_nonneg _ (by omega)) (Int.emod_lt_of_pos _ m0) (by omega) (by omega)⟩
theorem letM_sz (x : Str) : (letM x).sz 1 := by
  unfold letM; split
  · exact ⟨by decide, by decide, by decide, by decide⟩
  · split <;> exact ⟨by decide, by decide, by decide, by decide⟩
theorem matW_snoc (l : List Nat) (a : Nat) : matW (l ++ [a]) = (matW l).times (letM ⟨#[a]⟩) := by simp [matW, List.foldl_append]
theorem matW_sz (l : List Nat) : (matW l).sz (2 * l.length + 1) := by
  have key : ∀ (l : List Nat) (m : M) (n : Nat), m.sz n → (l.foldl (fun m x => m.times (letM ⟨#[x]⟩)) m).sz (2 * l.length + n) := by
    intro l
    induction l with
    | nil => intro m n h; simpa using h
    | cons a l ih =>
      intro m n h
      have := ih _ _ (M.times_sz h (letM_sz ⟨#[a]⟩))
      have e : 2 * l.length + (n + 1 + 1) = 2 * (a :: l).length + n := by simp; omega
      rw [e] at this
      exact this
  exact key l M.one 1 ⟨by decide, by decide, by decide, by decide⟩
theorem len__law_matrix (c : CA) (ds : List D) (S : SS) (Q : GQ) (G : GX) (h : sp__law_matrix c ds S Q G) : ds.length = 1 := sp1_len ds S Q G h
theorem vc__law_matrix (c : CA) (hc : ClsOk c) (ds : List D) (S : SS) (Q : GQ) (G : GX) (h : sp__law_matrix c ds S Q G) : Body (b__law_matrix c) N__law_matrix ds S Q G := by
  refine body1 h fun d h => ?_
  obtain ⟨x, rfl, hl, hx, h⟩ := withX_inv h
  unfold b__law_matrix N__law_matrix
  simp only [Body, gsNx, gsSeq, gsAsg, gsPar2, gsRet, gsRetN, gsDrop, gsIf, gsBrk, gsCt, gsAug, gsFld, gsNever, gsFor, gC, gV, gNil, gCons, gTup, gLst, gBin, gUn, gChain, gAndV, gOrV, gNotV, gIfE, gCall, gBlt, gMake, gMeth, gFld, gProp, gtV, gtT, truD, gtAnd, gtOr, gtNot, gtYes, oAdd, oSub, oMul, oMod, oFdiv, oFdivW, oPow, oLt, oLe, oGt, oGe, uNeg, oIs, oIsNot, ggNil, ggCons, ggTup, ggP, ggSub, oSetIx, runP, runPs, putG, giLst, giTup, giStr, giRng1, giRng2, gLc, wipeG, atG, oIx, goNone, goSome, gSlice, oSl, cutG, sIxG, cLen, cMax2, cMin2, cAbs, cStr, cBool, cInt, cTuple, cList, cIsi, isiB, isiO, tyD_obj, tyD_non, tyD_bl, tyD_int, tyD_str, tyD_tup, tyD_rol, tyO, oOwn, oOwnB, oOwnU, cOwn, isBlD, isStrD, isLenD, cBoolO, cStrO, cLenO, oInO, gCallO, itemsD, gJoin, oJoin, cRepr1, tbs, oks, okK_self, okK_n1, okK_n2, okK_n3, okK_n4, okK_n5, okK_n6, okK_n7, sp1, sp2, sp3, oAddI, withM_dM, withM_lit, withI_of, withX_of, withO_of, withT_at, withT_at0, withTL_some, st_set_new, st_set_new0, st_get_new, st_get_new0, List.append_assoc, Nat.add_assoc, st_new, st_new0, stS_new, stS_new0, gsRaise0, gsRaise1, gsTryT, gFldE, cIsiE, isiEx, gDict0, gBM, isTupD, mSplit, mStarts, mTxt0, oRep, oMulS, gSliceK, oSlK, gRepl, ggUnl, gLam, gAct, gMakeV, gCon, gCallO, giEnumS, oInF, flatD, eqF, List.map_cons, List.map_nil, List.replicate, List.length_cons, List.length_nil, List.length_append, List.length_set, List.cons_append, List.nil_append, List.getElem?_cons_zero, List.getElem?_cons_succ, List.set_cons_zero, List.set_cons_succ, List.lookup, List.all_cons, List.all_nil, List.mem_cons, List.not_mem_nil, or_false, Nat.reduceAdd, Nat.reduceSub, Nat.zero_add, Nat.add_zero, beq_self_eq_true, Bool.and_true, Bool.true_and, Bool.not_true, Bool.not_false, if_true, if_false, Bool.false_eq_true, decide_true, decide_false, and_true, true_and, Nat.reduceLeDiff, String.reduceEq, String.reduceNe, String.reduceBEq, String.reduceBNe, Int.reduceNeg, Int.reduceLT, Int.reduceLE, Int.reduceAdd, Int.reduceMul, Int.reduceMod, Int.reducePow, reduceIte, false_or, true_or, or_true, or_self, false_and, and_false, Bool.or_false, Bool.false_or, Bool.true_or, Bool.or_true, Bool.and_false, Bool.false_and, decide_eq_true_eq, Bool.not_eq_true, Int.toNat_zero, Int.reduceToNat, Int.toNat_natCast, Int.reduceLE, Int.reduceLT, oEq_int, oNe_int, ↓reduceIte, Nat.lt_irrefl]
  refine forL_inv (fun i σ S' => ∃ w, S' = S ∧ σ = [some (.str x), some (dM (matW (x.cps.toList.take i))), w]) ⟨none, rfl, rfl⟩ (fun i d σ S' N hd hI hN => ⟨trivial, ?_⟩) fun σ S' hI => ⟨trivial, ?_⟩
  · obtain ⟨w, rfl, rfl⟩ := hI
    simp only [signs, List.getElem?_map, Option.map_eq_some_iff] at hd
    obtain ⟨a, ha, rfl⟩ := hd
    unfold sp__law_times sp__law_of
    simp only [Body, gsNx, gsSeq, gsAsg, gsPar2, gsRet, gsRetN, gsDrop, gsIf, gsBrk, gsCt, gsAug, gsFld, gsNever, gsFor, gC, gV, gNil, gCons, gTup, gLst, gBin, gUn, gChain, gAndV, gOrV, gNotV, gIfE, gCall, gBlt, gMake, gMeth, gFld, gProp, gtV, gtT, truD, gtAnd, gtOr, gtNot, gtYes, oAdd, oSub, oMul, oMod, oFdiv, oFdivW, oPow, oLt, oLe, oGt, oGe, uNeg, oIs, oIsNot, ggNil, ggCons, ggTup, ggP, ggSub, oSetIx, runP, runPs, putG, giLst, giTup, giStr, giRng1, giRng2, gLc, wipeG, atG, oIx, goNone, goSome, gSlice, oSl, cutG, sIxG, cLen, cMax2, cMin2, cAbs, cStr, cBool, cInt, cTuple, cList, cIsi, isiB, isiO, tyD_obj, tyD_non, tyD_bl, tyD_int, tyD_str, tyD_tup, tyD_rol, tyO, oOwn, oOwnB, oOwnU, cOwn, isBlD, isStrD, isLenD, cBoolO, cStrO, cLenO, oInO, gCallO, itemsD, gJoin, oJoin, cRepr1, tbs, oks, okK_self, okK_n1, okK_n2, okK_n3, okK_n4, okK_n5, okK_n6, okK_n7, sp1, sp2, sp3, oAddI, withM_dM, withM_lit, withI_of, withX_of, withO_of, withT_at, withT_at0, withTL_some, st_set_new, st_set_new0, st_get_new, st_get_new0, List.append_assoc, Nat.add_assoc, st_new, st_new0, stS_new, stS_new0, gsRaise0, gsRaise1, gsTryT, gFldE, cIsiE, isiEx, gDict0, gBM, isTupD, mSplit, mStarts, mTxt0, oRep, oMulS, gSliceK, oSlK, gRepl, ggUnl, gLam, gAct, gMakeV, gCon, gCallO, giEnumS, oInF, flatD, eqF, List.map_cons, List.map_nil, List.replicate, List.length_cons, List.length_nil, List.length_append, List.length_set, List.cons_append, List.nil_append, List.getElem?_cons_zero, List.getElem?_cons_succ, List.set_cons_zero, List.set_cons_succ, List.lookup, List.all_cons, List.all_nil, List.mem_cons, List.not_mem_nil, or_false, Nat.reduceAdd, Nat.reduceSub, Nat.zero_add, Nat.add_zero, beq_self_eq_true, Bool.and_true, Bool.true_and, Bool.not_true, Bool.not_false, if_true, if_false, Bool.false_eq_true, decide_true, decide_false, and_true, true_and, Nat.reduceLeDiff, String.reduceEq, String.reduceNe, String.reduceBEq, String.reduceBNe, Int.reduceNeg, Int.reduceLT, Int.reduceLE, Int.reduceAdd, Int.reduceMul, Int.reduceMod, Int.reducePow, reduceIte, false_or, true_or, or_true, or_self, false_and, and_false, Bool.or_false, Bool.false_or, Bool.true_or, Bool.or_true, Bool.and_false, Bool.false_and, decide_eq_true_eq, Bool.not_eq_true, Int.toNat_zero, Int.reduceToNat, Int.toNat_natCast, Int.reduceLE, Int.reduceLT, oEq_int, oNe_int, ↓reduceIte, Nat.lt_irrefl]
    have hm := matW_sz (x.cps.toList.take i)
    have hi : (x.cps.toList.take i).length ≤ 100 := by
      rw [List.length_take]
      have : x.cps.toList.length = x.length := by simp [Str.length]
      omega
    refine ⟨?_, M.sz_mono hm (by omega), M.sz_mono (letM_sz _) (by decide), hN _ _ ⟨some (.str ⟨#[a]⟩), rfl, ?_⟩⟩
    · refine strOk_lt fun b hb => ?_
      have e : b = a := by simpa using hb
      subst e
      have := List.mem_of_getElem? ha
      unfold PyData.strOk at hx
      rw [← Array.all_toList, List.all_eq_true] at hx
      exact of_decide_eq_true (hx b this)
    · have e : x.cps.toList.take (i + 1) = x.cps.toList.take i ++ [a] := by
        rw [List.take_add_one, ha]; rfl
      rw [e, matW_snoc]
  · obtain ⟨w, rfl, rfl⟩ := hI
    have e : x.cps.toList.take (signs x).length = x.cps.toList := List.take_of_length_le (by simp [signs])
    rw [e]
    simp only [Body, gsNx, gsSeq, gsAsg, gsPar2, gsRet, gsRetN, gsDrop, gsIf, gsBrk, gsCt, gsAug, gsFld, gsNever, gsFor, gC, gV, gNil, gCons, gTup, gLst, gBin, gUn, gChain, gAndV, gOrV, gNotV, gIfE, gCall, gBlt, gMake, gMeth, gFld, gProp, gtV, gtT, truD, gtAnd, gtOr, gtNot, gtYes, oAdd, oSub, oMul, oMod, oFdiv, oFdivW, oPow, oLt, oLe, oGt, oGe, uNeg, oIs, oIsNot, ggNil, ggCons, ggTup, ggP, ggSub, oSetIx, runP, runPs, putG, giLst, giTup, giStr, giRng1, giRng2, gLc, wipeG, atG, oIx, goNone, goSome, gSlice, oSl, cutG, sIxG, cLen, cMax2, cMin2, cAbs, cStr, cBool, cInt, cTuple, cList, cIsi, isiB, isiO, tyD_obj, tyD_non, tyD_bl, tyD_int, tyD_str, tyD_tup, tyD_rol, tyO, oOwn, oOwnB, oOwnU, cOwn, isBlD, isStrD, isLenD, cBoolO, cStrO, cLenO, oInO, gCallO, itemsD, gJoin, oJoin, cRepr1, tbs, oks, okK_self, okK_n1, okK_n2, okK_n3, okK_n4, okK_n5, okK_n6, okK_n7, sp1, sp2, sp3, oAddI, withM_dM, withM_lit, withI_of, withX_of, withO_of, withT_at, withT_at0, withTL_some, st_set_new, st_set_new0, st_get_new, st_get_new0, List.append_assoc, Nat.add_assoc, st_new, st_new0, stS_new, stS_new0, gsRaise0, gsRaise1, gsTryT, gFldE, cIsiE, isiEx, gDict0, gBM, isTupD, mSplit, mStarts, mTxt0, oRep, oMulS, gSliceK, oSlK, gRepl, ggUnl, gLam, gAct, gMakeV, gCon, gCallO, giEnumS, oInF, flatD, eqF, List.map_cons, List.map_nil, List.replicate, List.length_cons, List.length_nil, List.length_append, List.length_set, List.cons_append, List.nil_append, List.getElem?_cons_zero, List.getElem?_cons_succ, List.set_cons_zero, List.set_cons_succ, List.lookup, List.all_cons, List.all_nil, List.mem_cons, List.not_mem_nil, or_false, Nat.reduceAdd, Nat.reduceSub, Nat.zero_add, Nat.add_zero, beq_self_eq_true, Bool.and_true, Bool.true_and, Bool.not_true, Bool.not_false, if_true, if_false, Bool.false_eq_true, decide_true, decide_false, and_true, true_and, Nat.reduceLeDiff, String.reduceEq, String.reduceNe, String.reduceBEq, String.reduceBNe, Int.reduceNeg, Int.reduceLT, Int.reduceLE, Int.reduceAdd, Int.reduceMul, Int.reduceMod, Int.reducePow, reduceIte, false_or, true_or, or_true, or_self, false_and, and_false, Bool.or_false, Bool.false_or, Bool.true_or, Bool.or_true, Bool.and_false, Bool.false_and, decide_eq_true_eq, Bool.not_eq_true, Int.toNat_zero, Int.reduceToNat, Int.toNat_natCast, Int.reduceLE, Int.reduceLT, oEq_int, oNe_int, ↓reduceIte, Nat.lt_irrefl]
    exact cut_same h
theorem len_law (c : CA) (ds : List D) (S : SS) (Q : GQ) (G : GX) (h : sp_law c ds S Q G) : ds.length = 1 := sp1_len ds S Q G h
namespace M
theorem det_mul (m n : M) : (m.mul n).det = m.det * n.det := by
  unfold det mul
  grind
theorem det_neg (m : M) : m.neg.det = m.det := by unfold det neg; grind
theorem det_adj (m : M) : m.adj.det = m.det := by
  unfold det adj; grind
theorem neg_pos {m : M} (h : m.det = 1) (p : ¬ m.pos) : m.neg.pos := by
  unfold pos det neg at *
  by_cases hc : m.c = 0
  · rw [hc] at h p ⊢
    have ha : m.a ≠ 0 := by rintro e; rw [e] at h; simp at h
    right
    refine ⟨by simp, ?_⟩
    show 0 < -m.a
    omega
  · left
    show 0 < -m.c
    omega
theorem nf_ok {m : M} (h : m.det = 1) : m.nf.ok := by
  unfold nf; split
  · exact ⟨h, by assumption⟩
  · rename_i p; exact ⟨by rw [det_neg]; exact h, neg_pos h p⟩
theorem ok_nf {m : M} (h : m.ok) : m.nf = m := if_pos h.2
theorem neg_neg (m : M) : m.neg.neg = m := by simp [neg]
theorem not_both {m : M} (h : m.pos) : ¬ m.neg.pos := by
  unfold pos neg at *
  rintro (q | ⟨q1, q2⟩)
  · have q : 0 < -m.c := q
    omega
  · have q1 : -m.c = 0 := q1
    have q2 : 0 < -m.a := q2
    omega
theorem nf_neg {m : M} (h : m.det = 1) : m.neg.nf = m.nf := by
  unfold nf
  by_cases p : m.pos
  · rw [if_pos p, if_neg (not_both p), neg_neg]
  · rw [if_neg p, if_pos (neg_pos h p)]
theorem nf_or (m : M) : m.nf = m ∨ m.nf = m.neg := by unfold nf; split <;> simp
theorem neg_mul (m n : M) : m.neg.mul n = (m.mul n).neg := by
  simp only [neg, mul, M.mk.injEq]; grind
theorem mul_neg (m n : M) : m.mul n.neg = (m.mul n).neg := by
  simp only [neg, mul, M.mk.injEq]; grind
theorem adj_neg (m : M) : m.neg.adj = m.adj.neg := by simp [neg, adj]
theorem adj_mul (m n : M) : (m.mul n).adj = n.adj.mul m.adj := by
  simp only [adj, mul, M.mk.injEq]; grind
theorem mul_assoc (m n o : M) : (m.mul n).mul o = m.mul (n.mul o) := by
  simp only [mul, M.mk.injEq]; grind
theorem mul_adj {m : M} (h : m.det = 1) : m.mul m.adj = one := by
  unfold det at h
  simp only [adj, mul, one, M.mk.injEq]; grind
theorem nf_mul {m n : M} (h : m.det = 1) (g : n.det = 1) : (m.nf.mul n).nf = (m.mul n).nf := by
  rcases nf_or m with e | e <;> rw [e]
  rw [neg_mul, nf_neg (by rw [det_mul, h, g]; rfl)]
theorem mul_nf {m n : M} (h : m.det = 1) (g : n.det = 1) : (m.mul n.nf).nf = (m.mul n).nf := by
  rcases nf_or n with e | e <;> rw [e]
  rw [mul_neg, nf_neg (by rw [det_mul, h, g]; rfl)]
theorem nf_adj {m : M} (h : m.det = 1) : m.nf.adj.nf = m.adj.nf := by
  rcases nf_or m with e | e <;> rw [e]
  rw [adj_neg, nf_neg (by rw [det_adj, h])]
theorem times_ok {m n : M} (h : m.ok) (g : n.ok) : (m.times n).ok := nf_ok (by rw [det_mul, h.1, g.1]; rfl)
theorem inv_ok {m : M} (h : m.ok) : m.inv.ok := nf_ok (by rw [det_adj, h.1])
theorem inv_times {m n : M} (h : m.ok) (g : n.ok) : (m.times n).inv = n.inv.times m.inv := by
  unfold times inv
  rw [nf_adj (by rw [det_mul, h.1, g.1]; rfl), adj_mul, nf_mul (by rw [det_adj, g.1]) (nf_ok (by rw [det_adj, h.1])).1, mul_nf (by rw [det_adj, g.1]) (by rw [det_adj, h.1])]
theorem one_ok : one.ok := ⟨by decide, by decide⟩
theorem times_inv {m : M} (h : m.ok) : m.times m.inv = one := by
  unfold times inv
  rw [mul_nf h.1 (by rw [det_adj, h.1]), mul_adj h.1]
  rfl
end M
theorem letM_ok (x : Str) : (letM x).ok := by
  unfold letM; split
  · exact ⟨by decide, by decide⟩
  · split <;> exact ⟨by decide, by decide⟩
theorem matW_ok (l : List Nat) : (matW l).ok := by
  have key : ∀ (l : List Nat) (m : M), m.ok → (l.foldl (fun m x => m.times (letM ⟨#[x]⟩)) m).ok := by
    intro l
    induction l with
    | nil => intro m h; exact h
    | cons a l ih => intro m h; exact ih _ (M.times_ok h (letM_ok _))
  exact key l M.one M.one_ok
def pM (m : M) : PyData := .tuple [.tuple [.int m.a, .int m.b], .tuple [.int m.c, .int m.d]]
theorem toP_M {m : M} {S : SS} : toP S 7 (dM m) = some (pM m) := toP_dM
end Gh

namespace Gh
open PySem
theorem cutX_same {S S' : SS} {X : GX} {C : Addr} {fs : List (Str × D)} (h : X C fs S') : gCutX S X C fs S' := .inl h
theorem isI_of {S : SS} {d : D} {t : String} (h : tyD S d = some (.inl t)) : isI d = (t == "int") := by
  cases d with
  | obj k =>
    simp only [tyD] at h
    split at h <;> simp only [Option.some.injEq, Sum.inl.injEq, reduceCtorEq] at h <;> (subst h; rfl)
  | ref a => cases h
  | ty n => cases h
  | _ =>
    simp only [tyD, Option.some.injEq, Sum.inl.injEq] at h
    subst h
    rfl
theorem tyD_tuple {S : SS} {d : D} (h : tyD S d = some (.inl "tuple")) : ∃ ds, d = .tup ds := by
  cases d <;> simp [tyD] at h
  · exact ⟨_, rfl⟩
  · split at h <;> simp at h
theorem tyD_str' {S : SS} {d : D} (h : tyD S d = some (.inl "str")) : ∃ x, d = .str x := by
  cases d <;> simp [tyD] at h
  · exact ⟨_, rfl⟩
  · split at h <;> simp at h
theorem isP_tup {S : SS} {d : D} {t : String} (h : tyD S d = some (.inl t)) (n : t ≠ "tuple") : isP d = false := by
  cases d <;> first | rfl | (simp only [tyD, Option.some.injEq, Sum.inl.injEq] at h; exact absurd h.symm n)
theorem len_is_integer (c : CA) (ds : List D) (S : SS) (Q : GQ) (G : GX) (h : sp_is_integer c ds S Q G) : ds.length = 1 := sp1_len ds S Q G h
theorem vc_is_integer (c : CA) (hc : ClsOk c) (ds : List D) (S : SS) (Q : GQ) (G : GX) (h : sp_is_integer c ds S Q G) : Body (b_is_integer c) N_is_integer ds S Q G := by
  refine body1 h fun d h => ?_
  obtain ⟨⟨t, h1, h2⟩, h⟩ := h
  have e := isI_of h1
  unfold b_is_integer N_is_integer
  simp only [Body, gsNx, gsSeq, gsAsg, gsPar2, gsRet, gsRetN, gsDrop, gsIf, gsBrk, gsCt, gsAug, gsFld, gsNever, gsFor, gC, gV, gNil, gCons, gTup, gLst, gBin, gUn, gChain, gAndV, gOrV, gNotV, gIfE, gCall, gBlt, gMake, gMeth, gFld, gProp, gtV, gtT, truD, gtAnd, gtOr, gtNot, gtYes, oAdd, oSub, oMul, oMod, oFdiv, oFdivW, oPow, oLt, oLe, oGt, oGe, uNeg, oIs, oIsNot, ggNil, ggCons, ggTup, ggP, ggSub, oSetIx, runP, runPs, putG, giLst, giTup, giStr, giRng1, giRng2, gLc, wipeG, atG, oIx, goNone, goSome, gSlice, oSl, cutG, sIxG, cLen, cMax2, cMin2, cAbs, cStr, cBool, cInt, cTuple, cList, cIsi, isiB, isiO, tyD_obj, tyD_non, tyD_bl, tyD_int, tyD_str, tyD_tup, tyD_rol, tyO, oOwn, oOwnB, oOwnU, cOwn, isBlD, isStrD, isLenD, cBoolO, cStrO, cLenO, oInO, gCallO, itemsD, gJoin, oJoin, cRepr1, tbs, oks, okK_self, okK_n1, okK_n2, okK_n3, okK_n4, okK_n5, okK_n6, okK_n7, sp1, sp2, sp3, oAddI, withM_dM, withM_lit, withI_of, withX_of, withO_of, withT_at, withT_at0, withTL_some, st_set_new, st_set_new0, st_get_new, st_get_new0, List.append_assoc, Nat.add_assoc, st_new, st_new0, stS_new, stS_new0, gsRaise0, gsRaise1, gsTryT, gFldE, cIsiE, isiEx, gDict0, gBM, isTupD, mSplit, mStarts, mTxt0, oRep, oMulS, gSliceK, oSlK, gRepl, ggUnl, gLam, gAct, gMakeV, gCon, gCallO, giEnumS, oInF, flatD, eqF, List.map_cons, List.map_nil, List.replicate, List.length_cons, List.length_nil, List.length_append, List.length_set, List.cons_append, List.nil_append, List.getElem?_cons_zero, List.getElem?_cons_succ, List.set_cons_zero, List.set_cons_succ, List.lookup, List.all_cons, List.all_nil, List.mem_cons, List.not_mem_nil, or_false, Nat.reduceAdd, Nat.reduceSub, Nat.zero_add, Nat.add_zero, beq_self_eq_true, Bool.and_true, Bool.true_and, Bool.not_true, Bool.not_false, if_true, if_false, Bool.false_eq_true, decide_true, decide_false, and_true, true_and, Nat.reduceLeDiff, String.reduceEq, String.reduceNe, String.reduceBEq, String.reduceBNe, Int.reduceNeg, Int.reduceLT, Int.reduceLE, Int.reduceAdd, Int.reduceMul, Int.reduceMod, Int.reducePow, reduceIte, false_or, true_or, or_true, or_self, false_and, and_false, Bool.or_false, Bool.false_or, Bool.true_or, Bool.or_true, Bool.and_false, Bool.false_and, decide_eq_true_eq, Bool.not_eq_true, Int.toNat_zero, Int.reduceToNat, Int.toNat_natCast, Int.reduceLE, Int.reduceLT, oEq_int, oNe_int, ↓reduceIte, Nat.lt_irrefl,  h1]
  simp only [tyNames, List.mem_cons, List.not_mem_nil, or_false] at h2
  simp only [h2, if_true]
  rw [e] at h
  have hh : gCut S Q (.bl (t == "int")) S := cut_same h
  by_cases t1 : t = "int"
  · subst t1
    exact hh
  · have f1 : (t == "int") = false := by simpa using t1
    rw [f1] at hh ⊢
    by_cases t2 : t = "bool"
    · subst t2
      exact hh
    · have f2 : (t == "bool") = false := by simpa using t2
      rw [f2]
      exact hh
theorem len_is_pair (c : CA) (ds : List D) (S : SS) (Q : GQ) (G : GX) (h : sp_is_pair c ds S Q G) : ds.length = 1 := sp1_len ds S Q G h
theorem vc_is_pair (c : CA) (hc : ClsOk c) (ds : List D) (S : SS) (Q : GQ) (G : GX) (h : sp_is_pair c ds S Q G) : Body (b_is_pair c) N_is_pair ds S Q G := by
  refine body1 h fun d h => ?_
  obtain ⟨⟨⟨t, h1, h2⟩, hw⟩, h⟩ := h
  unfold b_is_pair N_is_pair
  by_cases ht : t = "tuple"
  · subst ht
    obtain ⟨ds, rfl⟩ := tyD_tuple h1
    have hw := hw ds rfl
    simp only [Body, gsNx, gsSeq, gsAsg, gsPar2, gsRet, gsRetN, gsDrop, gsIf, gsBrk, gsCt, gsAug, gsFld, gsNever, gsFor, gC, gV, gNil, gCons, gTup, gLst, gBin, gUn, gChain, gAndV, gOrV, gNotV, gIfE, gCall, gBlt, gMake, gMeth, gFld, gProp, gtV, gtT, truD, gtAnd, gtOr, gtNot, gtYes, oAdd, oSub, oMul, oMod, oFdiv, oFdivW, oPow, oLt, oLe, oGt, oGe, uNeg, oIs, oIsNot, ggNil, ggCons, ggTup, ggP, ggSub, oSetIx, runP, runPs, putG, giLst, giTup, giStr, giRng1, giRng2, gLc, wipeG, atG, oIx, goNone, goSome, gSlice, oSl, cutG, sIxG, cLen, cMax2, cMin2, cAbs, cStr, cBool, cInt, cTuple, cList, cIsi, isiB, isiO, tyD_obj, tyD_non, tyD_bl, tyD_int, tyD_str, tyD_tup, tyD_rol, tyO, oOwn, oOwnB, oOwnU, cOwn, isBlD, isStrD, isLenD, cBoolO, cStrO, cLenO, oInO, gCallO, itemsD, gJoin, oJoin, cRepr1, tbs, oks, okK_self, okK_n1, okK_n2, okK_n3, okK_n4, okK_n5, okK_n6, okK_n7, sp1, sp2, sp3, oAddI, withM_dM, withM_lit, withI_of, withX_of, withO_of, withT_at, withT_at0, withTL_some, st_set_new, st_set_new0, st_get_new, st_get_new0, List.append_assoc, Nat.add_assoc, st_new, st_new0, stS_new, stS_new0, gsRaise0, gsRaise1, gsTryT, gFldE, cIsiE, isiEx, gDict0, gBM, isTupD, mSplit, mStarts, mTxt0, oRep, oMulS, gSliceK, oSlK, gRepl, ggUnl, gLam, gAct, gMakeV, gCon, gCallO, giEnumS, oInF, flatD, eqF, List.map_cons, List.map_nil, List.replicate, List.length_cons, List.length_nil, List.length_append, List.length_set, List.cons_append, List.nil_append, List.getElem?_cons_zero, List.getElem?_cons_succ, List.set_cons_zero, List.set_cons_succ, List.lookup, List.all_cons, List.all_nil, List.mem_cons, List.not_mem_nil, or_false, Nat.reduceAdd, Nat.reduceSub, Nat.zero_add, Nat.add_zero, beq_self_eq_true, Bool.and_true, Bool.true_and, Bool.not_true, Bool.not_false, if_true, if_false, Bool.false_eq_true, decide_true, decide_false, and_true, true_and, Nat.reduceLeDiff, String.reduceEq, String.reduceNe, String.reduceBEq, String.reduceBNe, Int.reduceNeg, Int.reduceLT, Int.reduceLE, Int.reduceAdd, Int.reduceMul, Int.reduceMod, Int.reducePow, reduceIte, false_or, true_or, or_true, or_self, false_and, and_false, Bool.or_false, Bool.false_or, Bool.true_or, Bool.or_true, Bool.and_false, Bool.false_and, decide_eq_true_eq, Bool.not_eq_true, Int.toNat_zero, Int.reduceToNat, Int.toNat_natCast, Int.reduceLE, Int.reduceLT, oEq_int, oNe_int, ↓reduceIte, Nat.lt_irrefl,  h1]
    by_cases hl : ds.length = 2
    · obtain ⟨a, b, rfl⟩ : ∃ a b, ds = [a, b] := by
        match ds, hl with
        | [a, b], _ => exact ⟨a, b, rfl⟩
      simp only [Body, gsNx, gsSeq, gsAsg, gsPar2, gsRet, gsRetN, gsDrop, gsIf, gsBrk, gsCt, gsAug, gsFld, gsNever, gsFor, gC, gV, gNil, gCons, gTup, gLst, gBin, gUn, gChain, gAndV, gOrV, gNotV, gIfE, gCall, gBlt, gMake, gMeth, gFld, gProp, gtV, gtT, truD, gtAnd, gtOr, gtNot, gtYes, oAdd, oSub, oMul, oMod, oFdiv, oFdivW, oPow, oLt, oLe, oGt, oGe, uNeg, oIs, oIsNot, ggNil, ggCons, ggTup, ggP, ggSub, oSetIx, runP, runPs, putG, giLst, giTup, giStr, giRng1, giRng2, gLc, wipeG, atG, oIx, goNone, goSome, gSlice, oSl, cutG, sIxG, cLen, cMax2, cMin2, cAbs, cStr, cBool, cInt, cTuple, cList, cIsi, isiB, isiO, tyD_obj, tyD_non, tyD_bl, tyD_int, tyD_str, tyD_tup, tyD_rol, tyO, oOwn, oOwnB, oOwnU, cOwn, isBlD, isStrD, isLenD, cBoolO, cStrO, cLenO, oInO, gCallO, itemsD, gJoin, oJoin, cRepr1, tbs, oks, okK_self, okK_n1, okK_n2, okK_n3, okK_n4, okK_n5, okK_n6, okK_n7, sp1, sp2, sp3, oAddI, withM_dM, withM_lit, withI_of, withX_of, withO_of, withT_at, withT_at0, withTL_some, st_set_new, st_set_new0, st_get_new, st_get_new0, List.append_assoc, Nat.add_assoc, st_new, st_new0, stS_new, stS_new0, gsRaise0, gsRaise1, gsTryT, gFldE, cIsiE, isiEx, gDict0, gBM, isTupD, mSplit, mStarts, mTxt0, oRep, oMulS, gSliceK, oSlK, gRepl, ggUnl, gLam, gAct, gMakeV, gCon, gCallO, giEnumS, oInF, flatD, eqF, List.map_cons, List.map_nil, List.replicate, List.length_cons, List.length_nil, List.length_append, List.length_set, List.cons_append, List.nil_append, List.getElem?_cons_zero, List.getElem?_cons_succ, List.set_cons_zero, List.set_cons_succ, List.lookup, List.all_cons, List.all_nil, List.mem_cons, List.not_mem_nil, or_false, Nat.reduceAdd, Nat.reduceSub, Nat.zero_add, Nat.add_zero, beq_self_eq_true, Bool.and_true, Bool.true_and, Bool.not_true, Bool.not_false, if_true, if_false, Bool.false_eq_true, decide_true, decide_false, and_true, true_and, Nat.reduceLeDiff, String.reduceEq, String.reduceNe, String.reduceBEq, String.reduceBNe, Int.reduceNeg, Int.reduceLT, Int.reduceLE, Int.reduceAdd, Int.reduceMul, Int.reduceMod, Int.reducePow, reduceIte, false_or, true_or, or_true, or_self, false_and, and_false, Bool.or_false, Bool.false_or, Bool.true_or, Bool.or_true, Bool.and_false, Bool.false_and, decide_eq_true_eq, Bool.not_eq_true, Int.toNat_zero, Int.reduceToNat, Int.toNat_natCast, Int.reduceLE, Int.reduceLT, oEq_int, oNe_int, ↓reduceIte, Nat.lt_irrefl,  e_is_integer]
      refine ⟨hw a (by simp), ?_⟩
      have hh : gCut S Q (.bl (isI a && isI b)) S := cut_same h
      cases ia : isI a <;> rw [ia] at hh
      · simpa using hh
      · simp only [Body, gsNx, gsSeq, gsAsg, gsPar2, gsRet, gsRetN, gsDrop, gsIf, gsBrk, gsCt, gsAug, gsFld, gsNever, gsFor, gC, gV, gNil, gCons, gTup, gLst, gBin, gUn, gChain, gAndV, gOrV, gNotV, gIfE, gCall, gBlt, gMake, gMeth, gFld, gProp, gtV, gtT, truD, gtAnd, gtOr, gtNot, gtYes, oAdd, oSub, oMul, oMod, oFdiv, oFdivW, oPow, oLt, oLe, oGt, oGe, uNeg, oIs, oIsNot, ggNil, ggCons, ggTup, ggP, ggSub, oSetIx, runP, runPs, putG, giLst, giTup, giStr, giRng1, giRng2, gLc, wipeG, atG, oIx, goNone, goSome, gSlice, oSl, cutG, sIxG, cLen, cMax2, cMin2, cAbs, cStr, cBool, cInt, cTuple, cList, cIsi, isiB, isiO, tyD_obj, tyD_non, tyD_bl, tyD_int, tyD_str, tyD_tup, tyD_rol, tyO, oOwn, oOwnB, oOwnU, cOwn, isBlD, isStrD, isLenD, cBoolO, cStrO, cLenO, oInO, gCallO, itemsD, gJoin, oJoin, cRepr1, tbs, oks, okK_self, okK_n1, okK_n2, okK_n3, okK_n4, okK_n5, okK_n6, okK_n7, sp1, sp2, sp3, oAddI, withM_dM, withM_lit, withI_of, withX_of, withO_of, withT_at, withT_at0, withTL_some, st_set_new, st_set_new0, st_get_new, st_get_new0, List.append_assoc, Nat.add_assoc, st_new, st_new0, stS_new, stS_new0, gsRaise0, gsRaise1, gsTryT, gFldE, cIsiE, isiEx, gDict0, gBM, isTupD, mSplit, mStarts, mTxt0, oRep, oMulS, gSliceK, oSlK, gRepl, ggUnl, gLam, gAct, gMakeV, gCon, gCallO, giEnumS, oInF, flatD, eqF, List.map_cons, List.map_nil, List.replicate, List.length_cons, List.length_nil, List.length_append, List.length_set, List.cons_append, List.nil_append, List.getElem?_cons_zero, List.getElem?_cons_succ, List.set_cons_zero, List.set_cons_succ, List.lookup, List.all_cons, List.all_nil, List.mem_cons, List.not_mem_nil, or_false, Nat.reduceAdd, Nat.reduceSub, Nat.zero_add, Nat.add_zero, beq_self_eq_true, Bool.and_true, Bool.true_and, Bool.not_true, Bool.not_false, if_true, if_false, Bool.false_eq_true, decide_true, decide_false, and_true, true_and, Nat.reduceLeDiff, String.reduceEq, String.reduceNe, String.reduceBEq, String.reduceBNe, Int.reduceNeg, Int.reduceLT, Int.reduceLE, Int.reduceAdd, Int.reduceMul, Int.reduceMod, Int.reducePow, reduceIte, false_or, true_or, or_true, or_self, false_and, and_false, Bool.or_false, Bool.false_or, Bool.true_or, Bool.or_true, Bool.and_false, Bool.false_and, decide_eq_true_eq, Bool.not_eq_true, Int.toNat_zero, Int.reduceToNat, Int.toNat_natCast, Int.reduceLE, Int.reduceLT, oEq_int, oNe_int, ↓reduceIte, Nat.lt_irrefl,  e_is_integer]
        exact ⟨hw b (by simp), by simpa using hh⟩
    · have e : isP (.tup ds) = false := by
        unfold isP; split
        · rename_i heq; cases heq; exact absurd rfl hl
        · rfl
      rw [e] at h
      have e2 : (decide (((ds.length : Nat) : Int) = 2)) = false := decide_eq_false (by omega)
      rw [e2]
      simp only [Body, gsNx, gsSeq, gsAsg, gsPar2, gsRet, gsRetN, gsDrop, gsIf, gsBrk, gsCt, gsAug, gsFld, gsNever, gsFor, gC, gV, gNil, gCons, gTup, gLst, gBin, gUn, gChain, gAndV, gOrV, gNotV, gIfE, gCall, gBlt, gMake, gMeth, gFld, gProp, gtV, gtT, truD, gtAnd, gtOr, gtNot, gtYes, oAdd, oSub, oMul, oMod, oFdiv, oFdivW, oPow, oLt, oLe, oGt, oGe, uNeg, oIs, oIsNot, ggNil, ggCons, ggTup, ggP, ggSub, oSetIx, runP, runPs, putG, giLst, giTup, giStr, giRng1, giRng2, gLc, wipeG, atG, oIx, goNone, goSome, gSlice, oSl, cutG, sIxG, cLen, cMax2, cMin2, cAbs, cStr, cBool, cInt, cTuple, cList, cIsi, isiB, isiO, tyD_obj, tyD_non, tyD_bl, tyD_int, tyD_str, tyD_tup, tyD_rol, tyO, oOwn, oOwnB, oOwnU, cOwn, isBlD, isStrD, isLenD, cBoolO, cStrO, cLenO, oInO, gCallO, itemsD, gJoin, oJoin, cRepr1, tbs, oks, okK_self, okK_n1, okK_n2, okK_n3, okK_n4, okK_n5, okK_n6, okK_n7, sp1, sp2, sp3, oAddI, withM_dM, withM_lit, withI_of, withX_of, withO_of, withT_at, withT_at0, withTL_some, st_set_new, st_set_new0, st_get_new, st_get_new0, List.append_assoc, Nat.add_assoc, st_new, st_new0, stS_new, stS_new0, gsRaise0, gsRaise1, gsTryT, gFldE, cIsiE, isiEx, gDict0, gBM, isTupD, mSplit, mStarts, mTxt0, oRep, oMulS, gSliceK, oSlK, gRepl, ggUnl, gLam, gAct, gMakeV, gCon, gCallO, giEnumS, oInF, flatD, eqF, List.map_cons, List.map_nil, List.replicate, List.length_cons, List.length_nil, List.length_append, List.length_set, List.cons_append, List.nil_append, List.getElem?_cons_zero, List.getElem?_cons_succ, List.set_cons_zero, List.set_cons_succ, List.lookup, List.all_cons, List.all_nil, List.mem_cons, List.not_mem_nil, or_false, Nat.reduceAdd, Nat.reduceSub, Nat.zero_add, Nat.add_zero, beq_self_eq_true, Bool.and_true, Bool.true_and, Bool.not_true, Bool.not_false, if_true, if_false, Bool.false_eq_true, decide_true, decide_false, and_true, true_and, Nat.reduceLeDiff, String.reduceEq, String.reduceNe, String.reduceBEq, String.reduceBNe, Int.reduceNeg, Int.reduceLT, Int.reduceLE, Int.reduceAdd, Int.reduceMul, Int.reduceMod, Int.reducePow, reduceIte, false_or, true_or, or_true, or_self, false_and, and_false, Bool.or_false, Bool.false_or, Bool.true_or, Bool.or_true, Bool.and_false, Bool.false_and, decide_eq_true_eq, Bool.not_eq_true, Int.toNat_zero, Int.reduceToNat, Int.toNat_natCast, Int.reduceLE, Int.reduceLT, oEq_int, oNe_int, ↓reduceIte, Nat.lt_irrefl]
      exact cut_same h
  · rw [isP_tup h1 ht] at h
    have e : (t == "tuple") = false := by simpa using ht
    simp only [Body, gsNx, gsSeq, gsAsg, gsPar2, gsRet, gsRetN, gsDrop, gsIf, gsBrk, gsCt, gsAug, gsFld, gsNever, gsFor, gC, gV, gNil, gCons, gTup, gLst, gBin, gUn, gChain, gAndV, gOrV, gNotV, gIfE, gCall, gBlt, gMake, gMeth, gFld, gProp, gtV, gtT, truD, gtAnd, gtOr, gtNot, gtYes, oAdd, oSub, oMul, oMod, oFdiv, oFdivW, oPow, oLt, oLe, oGt, oGe, uNeg, oIs, oIsNot, ggNil, ggCons, ggTup, ggP, ggSub, oSetIx, runP, runPs, putG, giLst, giTup, giStr, giRng1, giRng2, gLc, wipeG, atG, oIx, goNone, goSome, gSlice, oSl, cutG, sIxG, cLen, cMax2, cMin2, cAbs, cStr, cBool, cInt, cTuple, cList, cIsi, isiB, isiO, tyD_obj, tyD_non, tyD_bl, tyD_int, tyD_str, tyD_tup, tyD_rol, tyO, oOwn, oOwnB, oOwnU, cOwn, isBlD, isStrD, isLenD, cBoolO, cStrO, cLenO, oInO, gCallO, itemsD, gJoin, oJoin, cRepr1, tbs, oks, okK_self, okK_n1, okK_n2, okK_n3, okK_n4, okK_n5, okK_n6, okK_n7, sp1, sp2, sp3, oAddI, withM_dM, withM_lit, withI_of, withX_of, withO_of, withT_at, withT_at0, withTL_some, st_set_new, st_set_new0, st_get_new, st_get_new0, List.append_assoc, Nat.add_assoc, st_new, st_new0, stS_new, stS_new0, gsRaise0, gsRaise1, gsTryT, gFldE, cIsiE, isiEx, gDict0, gBM, isTupD, mSplit, mStarts, mTxt0, oRep, oMulS, gSliceK, oSlK, gRepl, ggUnl, gLam, gAct, gMakeV, gCon, gCallO, giEnumS, oInF, flatD, eqF, List.map_cons, List.map_nil, List.replicate, List.length_cons, List.length_nil, List.length_append, List.length_set, List.cons_append, List.nil_append, List.getElem?_cons_zero, List.getElem?_cons_succ, List.set_cons_zero, List.set_cons_succ, List.lookup, List.all_cons, List.all_nil, List.mem_cons, List.not_mem_nil, or_false, Nat.reduceAdd, Nat.reduceSub, Nat.zero_add, Nat.add_zero, beq_self_eq_true, Bool.and_true, Bool.true_and, Bool.not_true, Bool.not_false, if_true, if_false, Bool.false_eq_true, decide_true, decide_false, and_true, true_and, Nat.reduceLeDiff, String.reduceEq, String.reduceNe, String.reduceBEq, String.reduceBNe, Int.reduceNeg, Int.reduceLT, Int.reduceLE, Int.reduceAdd, Int.reduceMul, Int.reduceMod, Int.reducePow, reduceIte, false_or, true_or, or_true, or_self, false_and, and_false, Bool.or_false, Bool.false_or, Bool.true_or, Bool.or_true, Bool.and_false, Bool.false_and, decide_eq_true_eq, Bool.not_eq_true, Int.toNat_zero, Int.reduceToNat, Int.toNat_natCast, Int.reduceLE, Int.reduceLT, oEq_int, oNe_int, ↓reduceIte, Nat.lt_irrefl,  h1]
    simp only [tyNames, List.mem_cons, List.not_mem_nil, or_false] at h2
    simp only [h2, if_true, e, Bool.false_or]
    exact cut_same h
theorem tyD_of {S : SS} {d : D} (h : pv S d) : ∃ t, tyD S d = some (.inl t) ∧ t ∈ tyNames := h
theorem isP_inv {d : D} (h : isP d = true) : ∃ a b : Int, d = .tup [.int a, .int b] := by
  unfold isP at h
  split at h
  · rename_i a b
    simp only [Bool.and_eq_true] at h
    cases a <;> simp [isI] at h
    cases b <;> simp [isI] at h
    exact ⟨_, _, rfl⟩
  · cases h
theorem len_is_unit (c : CA) (ds : List D) (S : SS) (Q : GQ) (G : GX) (h : sp_is_unit c ds S Q G) : ds.length = 1 := sp1_len ds S Q G h
theorem wf1_int {S : SS} {a b : Int} : wf1 S (.tup [.int a, .int b]) := ⟨⟨_, rfl, by simp [tyNames]⟩, fun ds e x hx => by
  cases e
  simp only [List.mem_cons, List.not_mem_nil, or_false] at hx
  rcases hx with rfl | rfl <;> exact ⟨_, rfl, by simp [tyNames]⟩⟩
theorem vc_is_unit (c : CA) (hc : ClsOk c) (ds : List D) (S : SS) (Q : GQ) (G : GX) (h : sp_is_unit c ds S Q G) : Body (b_is_unit c) N_is_unit ds S Q G := by
  refine body1 h fun d h => ?_
  unfold b_is_unit N_is_unit
  rcases h with ⟨m, rfl, hz, h⟩ | ⟨⟨⟨⟨t, h1, h2⟩, hw⟩, hn⟩, h⟩
  · unfold dM
    simp only [Body, gsNx, gsSeq, gsAsg, gsPar2, gsRet, gsRetN, gsDrop, gsIf, gsBrk, gsCt, gsAug, gsFld, gsNever, gsFor, gC, gV, gNil, gCons, gTup, gLst, gBin, gUn, gChain, gAndV, gOrV, gNotV, gIfE, gCall, gBlt, gMake, gMeth, gFld, gProp, gtV, gtT, truD, gtAnd, gtOr, gtNot, gtYes, oAdd, oSub, oMul, oMod, oFdiv, oFdivW, oPow, oLt, oLe, oGt, oGe, uNeg, oIs, oIsNot, ggNil, ggCons, ggTup, ggP, ggSub, oSetIx, runP, runPs, putG, giLst, giTup, giStr, giRng1, giRng2, gLc, wipeG, atG, oIx, goNone, goSome, gSlice, oSl, cutG, sIxG, cLen, cMax2, cMin2, cAbs, cStr, cBool, cInt, cTuple, cList, cIsi, isiB, isiO, tyD_obj, tyD_non, tyD_bl, tyD_int, tyD_str, tyD_tup, tyD_rol, tyO, oOwn, oOwnB, oOwnU, cOwn, isBlD, isStrD, isLenD, cBoolO, cStrO, cLenO, oInO, gCallO, itemsD, gJoin, oJoin, cRepr1, tbs, oks, okK_self, okK_n1, okK_n2, okK_n3, okK_n4, okK_n5, okK_n6, okK_n7, sp1, sp2, sp3, oAddI, withM_dM, withM_lit, withI_of, withX_of, withO_of, withT_at, withT_at0, withTL_some, st_set_new, st_set_new0, st_get_new, st_get_new0, List.append_assoc, Nat.add_assoc, st_new, st_new0, stS_new, stS_new0, gsRaise0, gsRaise1, gsTryT, gFldE, cIsiE, isiEx, gDict0, gBM, isTupD, mSplit, mStarts, mTxt0, oRep, oMulS, gSliceK, oSlK, gRepl, ggUnl, gLam, gAct, gMakeV, gCon, gCallO, giEnumS, oInF, flatD, eqF, List.map_cons, List.map_nil, List.replicate, List.length_cons, List.length_nil, List.length_append, List.length_set, List.cons_append, List.nil_append, List.getElem?_cons_zero, List.getElem?_cons_succ, List.set_cons_zero, List.set_cons_succ, List.lookup, List.all_cons, List.all_nil, List.mem_cons, List.not_mem_nil, or_false, Nat.reduceAdd, Nat.reduceSub, Nat.zero_add, Nat.add_zero, beq_self_eq_true, Bool.and_true, Bool.true_and, Bool.not_true, Bool.not_false, if_true, if_false, Bool.false_eq_true, decide_true, decide_false, and_true, true_and, Nat.reduceLeDiff, String.reduceEq, String.reduceNe, String.reduceBEq, String.reduceBNe, Int.reduceNeg, Int.reduceLT, Int.reduceLE, Int.reduceAdd, Int.reduceMul, Int.reduceMod, Int.reducePow, reduceIte, false_or, true_or, or_true, or_self, false_and, and_false, Bool.or_false, Bool.false_or, Bool.true_or, Bool.or_true, Bool.and_false, Bool.false_and, decide_eq_true_eq, Bool.not_eq_true, Int.toNat_zero, Int.reduceToNat, Int.toNat_natCast, Int.reduceLE, Int.reduceLT, oEq_int, oNe_int, ↓reduceIte, Nat.lt_irrefl,  e_is_pair]
    refine ⟨wf1_int, ?_⟩
    simp only [Body, gsNx, gsSeq, gsAsg, gsPar2, gsRet, gsRetN, gsDrop, gsIf, gsBrk, gsCt, gsAug, gsFld, gsNever, gsFor, gC, gV, gNil, gCons, gTup, gLst, gBin, gUn, gChain, gAndV, gOrV, gNotV, gIfE, gCall, gBlt, gMake, gMeth, gFld, gProp, gtV, gtT, truD, gtAnd, gtOr, gtNot, gtYes, oAdd, oSub, oMul, oMod, oFdiv, oFdivW, oPow, oLt, oLe, oGt, oGe, uNeg, oIs, oIsNot, ggNil, ggCons, ggTup, ggP, ggSub, oSetIx, runP, runPs, putG, giLst, giTup, giStr, giRng1, giRng2, gLc, wipeG, atG, oIx, goNone, goSome, gSlice, oSl, cutG, sIxG, cLen, cMax2, cMin2, cAbs, cStr, cBool, cInt, cTuple, cList, cIsi, isiB, isiO, tyD_obj, tyD_non, tyD_bl, tyD_int, tyD_str, tyD_tup, tyD_rol, tyO, oOwn, oOwnB, oOwnU, cOwn, isBlD, isStrD, isLenD, cBoolO, cStrO, cLenO, oInO, gCallO, itemsD, gJoin, oJoin, cRepr1, tbs, oks, okK_self, okK_n1, okK_n2, okK_n3, okK_n4, okK_n5, okK_n6, okK_n7, sp1, sp2, sp3, oAddI, withM_dM, withM_lit, withI_of, withX_of, withO_of, withT_at, withT_at0, withTL_some, st_set_new, st_set_new0, st_get_new, st_get_new0, List.append_assoc, Nat.add_assoc, st_new, st_new0, stS_new, stS_new0, gsRaise0, gsRaise1, gsTryT, gFldE, cIsiE, isiEx, gDict0, gBM, isTupD, mSplit, mStarts, mTxt0, oRep, oMulS, gSliceK, oSlK, gRepl, ggUnl, gLam, gAct, gMakeV, gCon, gCallO, giEnumS, oInF, flatD, eqF, List.map_cons, List.map_nil, List.replicate, List.length_cons, List.length_nil, List.length_append, List.length_set, List.cons_append, List.nil_append, List.getElem?_cons_zero, List.getElem?_cons_succ, List.set_cons_zero, List.set_cons_succ, List.lookup, List.all_cons, List.all_nil, List.mem_cons, List.not_mem_nil, or_false, Nat.reduceAdd, Nat.reduceSub, Nat.zero_add, Nat.add_zero, beq_self_eq_true, Bool.and_true, Bool.true_and, Bool.not_true, Bool.not_false, if_true, if_false, Bool.false_eq_true, decide_true, decide_false, and_true, true_and, Nat.reduceLeDiff, String.reduceEq, String.reduceNe, String.reduceBEq, String.reduceBNe, Int.reduceNeg, Int.reduceLT, Int.reduceLE, Int.reduceAdd, Int.reduceMul, Int.reduceMod, Int.reducePow, reduceIte, false_or, true_or, or_true, or_self, false_and, and_false, Bool.or_false, Bool.false_or, Bool.true_or, Bool.or_true, Bool.and_false, Bool.false_and, decide_eq_true_eq, Bool.not_eq_true, Int.toNat_zero, Int.reduceToNat, Int.toNat_natCast, Int.reduceLE, Int.reduceLT, oEq_int, oNe_int, ↓reduceIte, Nat.lt_irrefl,  e_is_pair, isP, isI]
    refine ⟨wf1_int, ?_⟩
    obtain ⟨z1, z2, z3, z4⟩ := M.sz_ok hz (by decide)
    refine ⟨z1, z4, z2, z3, ?_⟩
    have e : decide (m.a * m.d - m.b * m.c = 1) = decide (m.det = 1) := rfl
    rw [e]
    exact cut_same h
  · have hh : gCut S Q (.bl false) S := cut_same h
    by_cases ht : t = "tuple"
    · subst ht
      obtain ⟨ds, rfl⟩ := tyD_tuple h1
      have hw := hw ds rfl
      simp only [Body, gsNx, gsSeq, gsAsg, gsPar2, gsRet, gsRetN, gsDrop, gsIf, gsBrk, gsCt, gsAug, gsFld, gsNever, gsFor, gC, gV, gNil, gCons, gTup, gLst, gBin, gUn, gChain, gAndV, gOrV, gNotV, gIfE, gCall, gBlt, gMake, gMeth, gFld, gProp, gtV, gtT, truD, gtAnd, gtOr, gtNot, gtYes, oAdd, oSub, oMul, oMod, oFdiv, oFdivW, oPow, oLt, oLe, oGt, oGe, uNeg, oIs, oIsNot, ggNil, ggCons, ggTup, ggP, ggSub, oSetIx, putG, giLst, giTup, giStr, giRng1, giRng2, gLc, wipeG, atG, oIx, goNone, goSome, gSlice, oSl, cutG, sIxG, cLen, cMax2, cMin2, cAbs, cStr, cBool, cInt, cTuple, cList, cIsi, isiB, isiO, tyD_obj, tyD_non, tyD_bl, tyD_int, tyD_str, tyD_tup, tyD_rol, tyO, oOwn, oOwnB, oOwnU, cOwn, isBlD, isStrD, isLenD, cBoolO, cStrO, cLenO, oInO, gCallO, itemsD, gJoin, oJoin, cRepr1, tbs, oks, okK_self, okK_n1, okK_n2, okK_n3, okK_n4, okK_n5, okK_n6, okK_n7, sp1, sp2, sp3, oAddI, withM_dM, withM_lit, withI_of, withX_of, withO_of, withT_at, withT_at0, withTL_some, st_set_new, st_set_new0, st_get_new, st_get_new0, List.append_assoc, Nat.add_assoc, st_new, st_new0, stS_new, stS_new0, gsRaise0, gsRaise1, gsTryT, gFldE, cIsiE, isiEx, gDict0, gBM, isTupD, mSplit, mStarts, mTxt0, oRep, oMulS, gSliceK, oSlK, gRepl, ggUnl, gLam, gAct, gMakeV, gCon, gCallO, giEnumS, oInF, flatD, eqF, List.map_cons, List.map_nil, List.replicate, List.length_cons, List.length_nil, List.length_append, List.length_set, List.cons_append, List.nil_append, List.getElem?_cons_zero, List.getElem?_cons_succ, List.set_cons_zero, List.set_cons_succ, List.lookup, List.all_cons, List.all_nil, List.mem_cons, List.not_mem_nil, or_false, Nat.reduceAdd, Nat.reduceSub, Nat.zero_add, Nat.add_zero, beq_self_eq_true, Bool.and_true, Bool.true_and, Bool.not_true, Bool.not_false, if_true, if_false, Bool.false_eq_true, decide_true, decide_false, and_true, true_and, Nat.reduceLeDiff, String.reduceEq, String.reduceNe, String.reduceBEq, String.reduceBNe, Int.reduceNeg, Int.reduceLT, Int.reduceLE, Int.reduceAdd, Int.reduceMul, Int.reduceMod, Int.reducePow, reduceIte, false_or, true_or, or_true, or_self, false_and, and_false, Bool.or_false, Bool.false_or, Bool.true_or, Bool.or_true, Bool.and_false, Bool.false_and, decide_eq_true_eq, Bool.not_eq_true, Int.toNat_zero, Int.reduceToNat, Int.toNat_natCast, Int.reduceLE, Int.reduceLT, oEq_int, oNe_int, ↓reduceIte, Nat.lt_irrefl, h1]
      by_cases hl : ds.length = 2
      · obtain ⟨a, b, rfl⟩ : ∃ a b, ds = [a, b] := by
          match ds, hl with
          | [a, b], _ => exact ⟨a, b, rfl⟩
        simp only [Body, gsNx, gsSeq, gsAsg, gsPar2, gsRet, gsRetN, gsDrop, gsIf, gsBrk, gsCt, gsAug, gsFld, gsNever, gsFor, gC, gV, gNil, gCons, gTup, gLst, gBin, gUn, gChain, gAndV, gOrV, gNotV, gIfE, gCall, gBlt, gMake, gMeth, gFld, gProp, gtV, gtT, truD, gtAnd, gtOr, gtNot, gtYes, oAdd, oSub, oMul, oMod, oFdiv, oFdivW, oPow, oLt, oLe, oGt, oGe, uNeg, oIs, oIsNot, ggNil, ggCons, ggTup, ggP, ggSub, oSetIx, putG, giLst, giTup, giStr, giRng1, giRng2, gLc, wipeG, atG, oIx, goNone, goSome, gSlice, oSl, cutG, sIxG, cLen, cMax2, cMin2, cAbs, cStr, cBool, cInt, cTuple, cList, cIsi, isiB, isiO, tyD_obj, tyD_non, tyD_bl, tyD_int, tyD_str, tyD_tup, tyD_rol, tyO, oOwn, oOwnB, oOwnU, cOwn, isBlD, isStrD, isLenD, cBoolO, cStrO, cLenO, oInO, gCallO, itemsD, gJoin, oJoin, cRepr1, tbs, oks, okK_self, okK_n1, okK_n2, okK_n3, okK_n4, okK_n5, okK_n6, okK_n7, sp1, sp2, sp3, oAddI, withM_dM, withM_lit, withI_of, withX_of, withO_of, withT_at, withT_at0, withTL_some, st_set_new, st_set_new0, st_get_new, st_get_new0, List.append_assoc, Nat.add_assoc, st_new, st_new0, stS_new, stS_new0, gsRaise0, gsRaise1, gsTryT, gFldE, cIsiE, isiEx, gDict0, gBM, isTupD, mSplit, mStarts, mTxt0, oRep, oMulS, gSliceK, oSlK, gRepl, ggUnl, gLam, gAct, gMakeV, gCon, gCallO, giEnumS, oInF, flatD, eqF, List.map_cons, List.map_nil, List.replicate, List.length_cons, List.length_nil, List.length_append, List.length_set, List.cons_append, List.nil_append, List.getElem?_cons_zero, List.getElem?_cons_succ, List.set_cons_zero, List.set_cons_succ, List.lookup, List.all_cons, List.all_nil, List.mem_cons, List.not_mem_nil, or_false, Nat.reduceAdd, Nat.reduceSub, Nat.zero_add, Nat.add_zero, beq_self_eq_true, Bool.and_true, Bool.true_and, Bool.not_true, Bool.not_false, if_true, if_false, Bool.false_eq_true, decide_true, decide_false, and_true, true_and, Nat.reduceLeDiff, String.reduceEq, String.reduceNe, String.reduceBEq, String.reduceBNe, Int.reduceNeg, Int.reduceLT, Int.reduceLE, Int.reduceAdd, Int.reduceMul, Int.reduceMod, Int.reducePow, reduceIte, false_or, true_or, or_true, or_self, false_and, and_false, Bool.or_false, Bool.false_or, Bool.true_or, Bool.or_true, Bool.and_false, Bool.false_and, decide_eq_true_eq, Bool.not_eq_true, Int.toNat_zero, Int.reduceToNat, Int.toNat_natCast, Int.reduceLE, Int.reduceLT, oEq_int, oNe_int, ↓reduceIte, Nat.lt_irrefl, e_is_pair]
        refine ⟨hw a (by simp), ?_⟩
        cases ia : isP a
        · simpa using hh
        · obtain ⟨p, q, rfl⟩ := isP_inv ia
          simp only [Body, gsNx, gsSeq, gsAsg, gsPar2, gsRet, gsRetN, gsDrop, gsIf, gsBrk, gsCt, gsAug, gsFld, gsNever, gsFor, gC, gV, gNil, gCons, gTup, gLst, gBin, gUn, gChain, gAndV, gOrV, gNotV, gIfE, gCall, gBlt, gMake, gMeth, gFld, gProp, gtV, gtT, truD, gtAnd, gtOr, gtNot, gtYes, oAdd, oSub, oMul, oMod, oFdiv, oFdivW, oPow, oLt, oLe, oGt, oGe, uNeg, oIs, oIsNot, ggNil, ggCons, ggTup, ggP, ggSub, oSetIx, putG, giLst, giTup, giStr, giRng1, giRng2, gLc, wipeG, atG, oIx, goNone, goSome, gSlice, oSl, cutG, sIxG, cLen, cMax2, cMin2, cAbs, cStr, cBool, cInt, cTuple, cList, cIsi, isiB, isiO, tyD_obj, tyD_non, tyD_bl, tyD_int, tyD_str, tyD_tup, tyD_rol, tyO, oOwn, oOwnB, oOwnU, cOwn, isBlD, isStrD, isLenD, cBoolO, cStrO, cLenO, oInO, gCallO, itemsD, gJoin, oJoin, cRepr1, tbs, oks, okK_self, okK_n1, okK_n2, okK_n3, okK_n4, okK_n5, okK_n6, okK_n7, sp1, sp2, sp3, oAddI, withM_dM, withM_lit, withI_of, withX_of, withO_of, withT_at, withT_at0, withTL_some, st_set_new, st_set_new0, st_get_new, st_get_new0, List.append_assoc, Nat.add_assoc, st_new, st_new0, stS_new, stS_new0, gsRaise0, gsRaise1, gsTryT, gFldE, cIsiE, isiEx, gDict0, gBM, isTupD, mSplit, mStarts, mTxt0, oRep, oMulS, gSliceK, oSlK, gRepl, ggUnl, gLam, gAct, gMakeV, gCon, gCallO, giEnumS, oInF, flatD, eqF, List.map_cons, List.map_nil, List.replicate, List.length_cons, List.length_nil, List.length_append, List.length_set, List.cons_append, List.nil_append, List.getElem?_cons_zero, List.getElem?_cons_succ, List.set_cons_zero, List.set_cons_succ, List.lookup, List.all_cons, List.all_nil, List.mem_cons, List.not_mem_nil, or_false, Nat.reduceAdd, Nat.reduceSub, Nat.zero_add, Nat.add_zero, beq_self_eq_true, Bool.and_true, Bool.true_and, Bool.not_true, Bool.not_false, if_true, if_false, Bool.false_eq_true, decide_true, decide_false, and_true, true_and, Nat.reduceLeDiff, String.reduceEq, String.reduceNe, String.reduceBEq, String.reduceBNe, Int.reduceNeg, Int.reduceLT, Int.reduceLE, Int.reduceAdd, Int.reduceMul, Int.reduceMod, Int.reducePow, reduceIte, false_or, true_or, or_true, or_self, false_and, and_false, Bool.or_false, Bool.false_or, Bool.true_or, Bool.or_true, Bool.and_false, Bool.false_and, decide_eq_true_eq, Bool.not_eq_true, Int.toNat_zero, Int.reduceToNat, Int.toNat_natCast, Int.reduceLE, Int.reduceLT, oEq_int, oNe_int, ↓reduceIte, Nat.lt_irrefl, e_is_pair]
          refine ⟨hw b (by simp), ?_⟩
          cases ib : isP b
          · simpa using hh
          · obtain ⟨u, v, rfl⟩ := isP_inv ib
            exact absurd rfl (hn ⟨p, q, u, v⟩)
      · have e2 : (decide (((ds.length : Nat) : Int) = 2)) = false := decide_eq_false (by omega)
        rw [e2]
        simp only [Body, gsNx, gsSeq, gsAsg, gsPar2, gsRet, gsRetN, gsDrop, gsIf, gsBrk, gsCt, gsAug, gsFld, gsNever, gsFor, gC, gV, gNil, gCons, gTup, gLst, gBin, gUn, gChain, gAndV, gOrV, gNotV, gIfE, gCall, gBlt, gMake, gMeth, gFld, gProp, gtV, gtT, truD, gtAnd, gtOr, gtNot, gtYes, oAdd, oSub, oMul, oMod, oFdiv, oFdivW, oPow, oLt, oLe, oGt, oGe, uNeg, oIs, oIsNot, ggNil, ggCons, ggTup, ggP, ggSub, oSetIx, putG, giLst, giTup, giStr, giRng1, giRng2, gLc, wipeG, atG, oIx, goNone, goSome, gSlice, oSl, cutG, sIxG, cLen, cMax2, cMin2, cAbs, cStr, cBool, cInt, cTuple, cList, cIsi, isiB, isiO, tyD_obj, tyD_non, tyD_bl, tyD_int, tyD_str, tyD_tup, tyD_rol, tyO, oOwn, oOwnB, oOwnU, cOwn, isBlD, isStrD, isLenD, cBoolO, cStrO, cLenO, oInO, gCallO, itemsD, gJoin, oJoin, cRepr1, tbs, oks, okK_self, okK_n1, okK_n2, okK_n3, okK_n4, okK_n5, okK_n6, okK_n7, sp1, sp2, sp3, oAddI, withM_dM, withM_lit, withI_of, withX_of, withO_of, withT_at, withT_at0, withTL_some, st_set_new, st_set_new0, st_get_new, st_get_new0, List.append_assoc, Nat.add_assoc, st_new, st_new0, stS_new, stS_new0, gsRaise0, gsRaise1, gsTryT, gFldE, cIsiE, isiEx, gDict0, gBM, isTupD, mSplit, mStarts, mTxt0, oRep, oMulS, gSliceK, oSlK, gRepl, ggUnl, gLam, gAct, gMakeV, gCon, gCallO, giEnumS, oInF, flatD, eqF, List.map_cons, List.map_nil, List.replicate, List.length_cons, List.length_nil, List.length_append, List.length_set, List.cons_append, List.nil_append, List.getElem?_cons_zero, List.getElem?_cons_succ, List.set_cons_zero, List.set_cons_succ, List.lookup, List.all_cons, List.all_nil, List.mem_cons, List.not_mem_nil, or_false, Nat.reduceAdd, Nat.reduceSub, Nat.zero_add, Nat.add_zero, beq_self_eq_true, Bool.and_true, Bool.true_and, Bool.not_true, Bool.not_false, if_true, if_false, Bool.false_eq_true, decide_true, decide_false, and_true, true_and, Nat.reduceLeDiff, String.reduceEq, String.reduceNe, String.reduceBEq, String.reduceBNe, Int.reduceNeg, Int.reduceLT, Int.reduceLE, Int.reduceAdd, Int.reduceMul, Int.reduceMod, Int.reducePow, reduceIte, false_or, true_or, or_true, or_self, false_and, and_false, Bool.or_false, Bool.false_or, Bool.true_or, Bool.or_true, Bool.and_false, Bool.false_and, decide_eq_true_eq, Bool.not_eq_true, Int.toNat_zero, Int.reduceToNat, Int.toNat_natCast, Int.reduceLE, Int.reduceLT, oEq_int, oNe_int, ↓reduceIte, Nat.lt_irrefl, Nat.add_zero]
        exact hh
    · have e : (t == "tuple") = false := by simpa using ht
      simp only [Body, gsNx, gsSeq, gsAsg, gsPar2, gsRet, gsRetN, gsDrop, gsIf, gsBrk, gsCt, gsAug, gsFld, gsNever, gsFor, gC, gV, gNil, gCons, gTup, gLst, gBin, gUn, gChain, gAndV, gOrV, gNotV, gIfE, gCall, gBlt, gMake, gMeth, gFld, gProp, gtV, gtT, truD, gtAnd, gtOr, gtNot, gtYes, oAdd, oSub, oMul, oMod, oFdiv, oFdivW, oPow, oLt, oLe, oGt, oGe, uNeg, oIs, oIsNot, ggNil, ggCons, ggTup, ggP, ggSub, oSetIx, putG, giLst, giTup, giStr, giRng1, giRng2, gLc, wipeG, atG, oIx, goNone, goSome, gSlice, oSl, cutG, sIxG, cLen, cMax2, cMin2, cAbs, cStr, cBool, cInt, cTuple, cList, cIsi, isiB, isiO, tyD_obj, tyD_non, tyD_bl, tyD_int, tyD_str, tyD_tup, tyD_rol, tyO, oOwn, oOwnB, oOwnU, cOwn, isBlD, isStrD, isLenD, cBoolO, cStrO, cLenO, oInO, gCallO, itemsD, gJoin, oJoin, cRepr1, tbs, oks, okK_self, okK_n1, okK_n2, okK_n3, okK_n4, okK_n5, okK_n6, okK_n7, sp1, sp2, sp3, oAddI, withM_dM, withM_lit, withI_of, withX_of, withO_of, withT_at, withT_at0, withTL_some, st_set_new, st_set_new0, st_get_new, st_get_new0, List.append_assoc, Nat.add_assoc, st_new, st_new0, stS_new, stS_new0, gsRaise0, gsRaise1, gsTryT, gFldE, cIsiE, isiEx, gDict0, gBM, isTupD, mSplit, mStarts, mTxt0, oRep, oMulS, gSliceK, oSlK, gRepl, ggUnl, gLam, gAct, gMakeV, gCon, gCallO, giEnumS, oInF, flatD, eqF, List.map_cons, List.map_nil, List.replicate, List.length_cons, List.length_nil, List.length_append, List.length_set, List.cons_append, List.nil_append, List.getElem?_cons_zero, List.getElem?_cons_succ, List.set_cons_zero, List.set_cons_succ, List.lookup, List.all_cons, List.all_nil, List.mem_cons, List.not_mem_nil, or_false, Nat.reduceAdd, Nat.reduceSub, Nat.zero_add, Nat.add_zero, beq_self_eq_true, Bool.and_true, Bool.true_and, Bool.not_true, Bool.not_false, if_true, if_false, Bool.false_eq_true, decide_true, decide_false, and_true, true_and, Nat.reduceLeDiff, String.reduceEq, String.reduceNe, String.reduceBEq, String.reduceBNe, Int.reduceNeg, Int.reduceLT, Int.reduceLE, Int.reduceAdd, Int.reduceMul, Int.reduceMod, Int.reducePow, reduceIte, false_or, true_or, or_true, or_self, false_and, and_false, Bool.or_false, Bool.false_or, Bool.true_or, Bool.or_true, Bool.and_false, Bool.false_and, decide_eq_true_eq, Bool.not_eq_true, Int.toNat_zero, Int.reduceToNat, Int.toNat_natCast, Int.reduceLE, Int.reduceLT, oEq_int, oNe_int, ↓reduceIte, Nat.lt_irrefl, h1]
      simp only [tyNames, List.mem_cons, List.not_mem_nil, or_false] at h2
      simp only [h2, if_true, e, Bool.false_or]
      exact hh
theorem len_is_matrix (c : CA) (ds : List D) (S : SS) (Q : GQ) (G : GX) (h : sp_is_matrix c ds S Q G) : ds.length = 1 := sp1_len ds S Q G h
theorem vc_is_matrix (c : CA) (hc : ClsOk c) (ds : List D) (S : SS) (Q : GQ) (G : GX) (h : sp_is_matrix c ds S Q G) : Body (b_is_matrix c) N_is_matrix ds S Q G := by
  refine body1 h fun d h => ?_
  unfold b_is_matrix N_is_matrix
  rcases h with ⟨m, rfl, hz, h⟩ | ⟨hn, h⟩
  · simp only [Body, gsNx, gsSeq, gsAsg, gsPar2, gsRet, gsRetN, gsDrop, gsIf, gsBrk, gsCt, gsAug, gsFld, gsNever, gsFor, gC, gV, gNil, gCons, gTup, gLst, gBin, gUn, gChain, gAndV, gOrV, gNotV, gIfE, gCall, gBlt, gMake, gMeth, gFld, gProp, gtV, gtT, truD, gtAnd, gtOr, gtNot, gtYes, oAdd, oSub, oMul, oMod, oFdiv, oFdivW, oPow, oLt, oLe, oGt, oGe, uNeg, oIs, oIsNot, ggNil, ggCons, ggTup, ggP, ggSub, oSetIx, runP, runPs, putG, giLst, giTup, giStr, giRng1, giRng2, gLc, wipeG, atG, oIx, goNone, goSome, gSlice, oSl, cutG, sIxG, cLen, cMax2, cMin2, cAbs, cStr, cBool, cInt, cTuple, cList, cIsi, isiB, isiO, tyD_obj, tyD_non, tyD_bl, tyD_int, tyD_str, tyD_tup, tyD_rol, tyO, oOwn, oOwnB, oOwnU, cOwn, isBlD, isStrD, isLenD, cBoolO, cStrO, cLenO, oInO, gCallO, itemsD, gJoin, oJoin, cRepr1, tbs, oks, okK_self, okK_n1, okK_n2, okK_n3, okK_n4, okK_n5, okK_n6, okK_n7, sp1, sp2, sp3, oAddI, withM_dM, withM_lit, withI_of, withX_of, withO_of, withT_at, withT_at0, withTL_some, st_set_new, st_set_new0, st_get_new, st_get_new0, List.append_assoc, Nat.add_assoc, st_new, st_new0, stS_new, stS_new0, gsRaise0, gsRaise1, gsTryT, gFldE, cIsiE, isiEx, gDict0, gBM, isTupD, mSplit, mStarts, mTxt0, oRep, oMulS, gSliceK, oSlK, gRepl, ggUnl, gLam, gAct, gMakeV, gCon, gCallO, giEnumS, oInF, flatD, eqF, List.map_cons, List.map_nil, List.replicate, List.length_cons, List.length_nil, List.length_append, List.length_set, List.cons_append, List.nil_append, List.getElem?_cons_zero, List.getElem?_cons_succ, List.set_cons_zero, List.set_cons_succ, List.lookup, List.all_cons, List.all_nil, List.mem_cons, List.not_mem_nil, or_false, Nat.reduceAdd, Nat.reduceSub, Nat.zero_add, Nat.add_zero, beq_self_eq_true, Bool.and_true, Bool.true_and, Bool.not_true, Bool.not_false, if_true, if_false, Bool.false_eq_true, decide_true, decide_false, and_true, true_and, Nat.reduceLeDiff, String.reduceEq, String.reduceNe, String.reduceBEq, String.reduceBNe, Int.reduceNeg, Int.reduceLT, Int.reduceLE, Int.reduceAdd, Int.reduceMul, Int.reduceMod, Int.reducePow, reduceIte, false_or, true_or, or_true, or_self, false_and, and_false, Bool.or_false, Bool.false_or, Bool.true_or, Bool.or_true, Bool.and_false, Bool.false_and, decide_eq_true_eq, Bool.not_eq_true, Int.toNat_zero, Int.reduceToNat, Int.toNat_natCast, Int.reduceLE, Int.reduceLT, oEq_int, oNe_int, ↓reduceIte, Nat.lt_irrefl,  e_is_unit, e_normal_of]
    refine .inl ⟨m, rfl, hz, ?_⟩
    have hh : gCut S Q (.bl (decide m.ok)) S := cut_same h
    by_cases hd : m.det = 1
    · rw [decide_eq_true hd]
      simp only [Body, gsNx, gsSeq, gsAsg, gsPar2, gsRet, gsRetN, gsDrop, gsIf, gsBrk, gsCt, gsAug, gsFld, gsNever, gsFor, gC, gV, gNil, gCons, gTup, gLst, gBin, gUn, gChain, gAndV, gOrV, gNotV, gIfE, gCall, gBlt, gMake, gMeth, gFld, gProp, gtV, gtT, truD, gtAnd, gtOr, gtNot, gtYes, oAdd, oSub, oMul, oMod, oFdiv, oFdivW, oPow, oLt, oLe, oGt, oGe, uNeg, oIs, oIsNot, ggNil, ggCons, ggTup, ggP, ggSub, oSetIx, runP, runPs, putG, giLst, giTup, giStr, giRng1, giRng2, gLc, wipeG, atG, oIx, goNone, goSome, gSlice, oSl, cutG, sIxG, cLen, cMax2, cMin2, cAbs, cStr, cBool, cInt, cTuple, cList, cIsi, isiB, isiO, tyD_obj, tyD_non, tyD_bl, tyD_int, tyD_str, tyD_tup, tyD_rol, tyO, oOwn, oOwnB, oOwnU, cOwn, isBlD, isStrD, isLenD, cBoolO, cStrO, cLenO, oInO, gCallO, itemsD, gJoin, oJoin, cRepr1, tbs, oks, okK_self, okK_n1, okK_n2, okK_n3, okK_n4, okK_n5, okK_n6, okK_n7, sp1, sp2, sp3, oAddI, withM_dM, withM_lit, withI_of, withX_of, withO_of, withT_at, withT_at0, withTL_some, st_set_new, st_set_new0, st_get_new, st_get_new0, List.append_assoc, Nat.add_assoc, st_new, st_new0, stS_new, stS_new0, gsRaise0, gsRaise1, gsTryT, gFldE, cIsiE, isiEx, gDict0, gBM, isTupD, mSplit, mStarts, mTxt0, oRep, oMulS, gSliceK, oSlK, gRepl, ggUnl, gLam, gAct, gMakeV, gCon, gCallO, giEnumS, oInF, flatD, eqF, List.map_cons, List.map_nil, List.replicate, List.length_cons, List.length_nil, List.length_append, List.length_set, List.cons_append, List.nil_append, List.getElem?_cons_zero, List.getElem?_cons_succ, List.set_cons_zero, List.set_cons_succ, List.lookup, List.all_cons, List.all_nil, List.mem_cons, List.not_mem_nil, or_false, Nat.reduceAdd, Nat.reduceSub, Nat.zero_add, Nat.add_zero, beq_self_eq_true, Bool.and_true, Bool.true_and, Bool.not_true, Bool.not_false, if_true, if_false, Bool.false_eq_true, decide_true, decide_false, and_true, true_and, Nat.reduceLeDiff, String.reduceEq, String.reduceNe, String.reduceBEq, String.reduceBNe, Int.reduceNeg, Int.reduceLT, Int.reduceLE, Int.reduceAdd, Int.reduceMul, Int.reduceMod, Int.reducePow, reduceIte, false_or, true_or, or_true, or_self, false_and, and_false, Bool.or_false, Bool.false_or, Bool.true_or, Bool.or_true, Bool.and_false, Bool.false_and, decide_eq_true_eq, Bool.not_eq_true, Int.toNat_zero, Int.reduceToNat, Int.toNat_natCast, Int.reduceLE, Int.reduceLT, oEq_int, oNe_int, ↓reduceIte, Nat.lt_irrefl,  e_is_unit, e_normal_of, oEq_M]
      have e : decide (m = m.nf) = decide m.ok := decide_eq_decide.mpr ⟨fun e => by
        have := M.nf_ok hd
        rw [← e] at this
        exact this, fun e => (nf_pos e.2).symm⟩
      rw [e]; exact hh
    · rw [decide_eq_false hd]
      simp only [Body, gsNx, gsSeq, gsAsg, gsPar2, gsRet, gsRetN, gsDrop, gsIf, gsBrk, gsCt, gsAug, gsFld, gsNever, gsFor, gC, gV, gNil, gCons, gTup, gLst, gBin, gUn, gChain, gAndV, gOrV, gNotV, gIfE, gCall, gBlt, gMake, gMeth, gFld, gProp, gtV, gtT, truD, gtAnd, gtOr, gtNot, gtYes, oAdd, oSub, oMul, oMod, oFdiv, oFdivW, oPow, oLt, oLe, oGt, oGe, uNeg, oIs, oIsNot, ggNil, ggCons, ggTup, ggP, ggSub, oSetIx, runP, runPs, putG, giLst, giTup, giStr, giRng1, giRng2, gLc, wipeG, atG, oIx, goNone, goSome, gSlice, oSl, cutG, sIxG, cLen, cMax2, cMin2, cAbs, cStr, cBool, cInt, cTuple, cList, cIsi, isiB, isiO, tyD_obj, tyD_non, tyD_bl, tyD_int, tyD_str, tyD_tup, tyD_rol, tyO, oOwn, oOwnB, oOwnU, cOwn, isBlD, isStrD, isLenD, cBoolO, cStrO, cLenO, oInO, gCallO, itemsD, gJoin, oJoin, cRepr1, tbs, oks, okK_self, okK_n1, okK_n2, okK_n3, okK_n4, okK_n5, okK_n6, okK_n7, sp1, sp2, sp3, oAddI, withM_dM, withM_lit, withI_of, withX_of, withO_of, withT_at, withT_at0, withTL_some, st_set_new, st_set_new0, st_get_new, st_get_new0, List.append_assoc, Nat.add_assoc, st_new, st_new0, stS_new, stS_new0, gsRaise0, gsRaise1, gsTryT, gFldE, cIsiE, isiEx, gDict0, gBM, isTupD, mSplit, mStarts, mTxt0, oRep, oMulS, gSliceK, oSlK, gRepl, ggUnl, gLam, gAct, gMakeV, gCon, gCallO, giEnumS, oInF, flatD, eqF, List.map_cons, List.map_nil, List.replicate, List.length_cons, List.length_nil, List.length_append, List.length_set, List.cons_append, List.nil_append, List.getElem?_cons_zero, List.getElem?_cons_succ, List.set_cons_zero, List.set_cons_succ, List.lookup, List.all_cons, List.all_nil, List.mem_cons, List.not_mem_nil, or_false, Nat.reduceAdd, Nat.reduceSub, Nat.zero_add, Nat.add_zero, beq_self_eq_true, Bool.and_true, Bool.true_and, Bool.not_true, Bool.not_false, if_true, if_false, Bool.false_eq_true, decide_true, decide_false, and_true, true_and, Nat.reduceLeDiff, String.reduceEq, String.reduceNe, String.reduceBEq, String.reduceBNe, Int.reduceNeg, Int.reduceLT, Int.reduceLE, Int.reduceAdd, Int.reduceMul, Int.reduceMod, Int.reducePow, reduceIte, false_or, true_or, or_true, or_self, false_and, and_false, Bool.or_false, Bool.false_or, Bool.true_or, Bool.or_true, Bool.and_false, Bool.false_and, decide_eq_true_eq, Bool.not_eq_true, Int.toNat_zero, Int.reduceToNat, Int.toNat_natCast, Int.reduceLE, Int.reduceLT, oEq_int, oNe_int, ↓reduceIte, Nat.lt_irrefl]
      have e : decide m.ok = false := decide_eq_false fun e => hd e.1
      rw [e] at hh
      exact hh
  · simp only [Body, gsNx, gsSeq, gsAsg, gsPar2, gsRet, gsRetN, gsDrop, gsIf, gsBrk, gsCt, gsAug, gsFld, gsNever, gsFor, gC, gV, gNil, gCons, gTup, gLst, gBin, gUn, gChain, gAndV, gOrV, gNotV, gIfE, gCall, gBlt, gMake, gMeth, gFld, gProp, gtV, gtT, truD, gtAnd, gtOr, gtNot, gtYes, oAdd, oSub, oMul, oMod, oFdiv, oFdivW, oPow, oLt, oLe, oGt, oGe, uNeg, oIs, oIsNot, ggNil, ggCons, ggTup, ggP, ggSub, oSetIx, runP, runPs, putG, giLst, giTup, giStr, giRng1, giRng2, gLc, wipeG, atG, oIx, goNone, goSome, gSlice, oSl, cutG, sIxG, cLen, cMax2, cMin2, cAbs, cStr, cBool, cInt, cTuple, cList, cIsi, isiB, isiO, tyD_obj, tyD_non, tyD_bl, tyD_int, tyD_str, tyD_tup, tyD_rol, tyO, oOwn, oOwnB, oOwnU, cOwn, isBlD, isStrD, isLenD, cBoolO, cStrO, cLenO, oInO, gCallO, itemsD, gJoin, oJoin, cRepr1, tbs, oks, okK_self, okK_n1, okK_n2, okK_n3, okK_n4, okK_n5, okK_n6, okK_n7, sp1, sp2, sp3, oAddI, withM_dM, withM_lit, withI_of, withX_of, withO_of, withT_at, withT_at0, withTL_some, st_set_new, st_set_new0, st_get_new, st_get_new0, List.append_assoc, Nat.add_assoc, st_new, st_new0, stS_new, stS_new0, gsRaise0, gsRaise1, gsTryT, gFldE, cIsiE, isiEx, gDict0, gBM, isTupD, mSplit, mStarts, mTxt0, oRep, oMulS, gSliceK, oSlK, gRepl, ggUnl, gLam, gAct, gMakeV, gCon, gCallO, giEnumS, oInF, flatD, eqF, List.map_cons, List.map_nil, List.replicate, List.length_cons, List.length_nil, List.length_append, List.length_set, List.cons_append, List.nil_append, List.getElem?_cons_zero, List.getElem?_cons_succ, List.set_cons_zero, List.set_cons_succ, List.lookup, List.all_cons, List.all_nil, List.mem_cons, List.not_mem_nil, or_false, Nat.reduceAdd, Nat.reduceSub, Nat.zero_add, Nat.add_zero, beq_self_eq_true, Bool.and_true, Bool.true_and, Bool.not_true, Bool.not_false, if_true, if_false, Bool.false_eq_true, decide_true, decide_false, and_true, true_and, Nat.reduceLeDiff, String.reduceEq, String.reduceNe, String.reduceBEq, String.reduceBNe, Int.reduceNeg, Int.reduceLT, Int.reduceLE, Int.reduceAdd, Int.reduceMul, Int.reduceMod, Int.reducePow, reduceIte, false_or, true_or, or_true, or_self, false_and, and_false, Bool.or_false, Bool.false_or, Bool.true_or, Bool.or_true, Bool.and_false, Bool.false_and, decide_eq_true_eq, Bool.not_eq_true, Int.toNat_zero, Int.reduceToNat, Int.toNat_natCast, Int.reduceLE, Int.reduceLT, oEq_int, oNe_int, ↓reduceIte, Nat.lt_irrefl,  e_is_unit]
    refine .inr ⟨hn, ?_⟩
    exact cut_same h
theorem len_need_matrix (c : CA) (ds : List D) (S : SS) (Q : GQ) (G : GX) (h : sp_need_matrix c ds S Q G) : ds.length = 1 := sp1_len ds S Q G h
theorem vc_need_matrix (c : CA) (hc : ClsOk c) (ds : List D) (S : SS) (Q : GQ) (G : GX) (h : sp_need_matrix c ds S Q G) : Body (b_need_matrix c) N_need_matrix ds S Q G := by
  refine body1 h fun d h => ?_
  unfold b_need_matrix N_need_matrix
  rcases h with ⟨m, rfl, hz, h1, h2⟩ | ⟨hn, h⟩
  · simp only [Body, gsNx, gsSeq, gsAsg, gsPar2, gsRet, gsRetN, gsDrop, gsIf, gsBrk, gsCt, gsAug, gsFld, gsNever, gsFor, gC, gV, gNil, gCons, gTup, gLst, gBin, gUn, gChain, gAndV, gOrV, gNotV, gIfE, gCall, gBlt, gMake, gMeth, gFld, gProp, gtV, gtT, truD, gtAnd, gtOr, gtNot, gtYes, oAdd, oSub, oMul, oMod, oFdiv, oFdivW, oPow, oLt, oLe, oGt, oGe, uNeg, oIs, oIsNot, ggNil, ggCons, ggTup, ggP, ggSub, oSetIx, runP, runPs, putG, giLst, giTup, giStr, giRng1, giRng2, gLc, wipeG, atG, oIx, goNone, goSome, gSlice, oSl, cutG, sIxG, cLen, cMax2, cMin2, cAbs, cStr, cBool, cInt, cTuple, cList, cIsi, isiB, isiO, tyD_obj, tyD_non, tyD_bl, tyD_int, tyD_str, tyD_tup, tyD_rol, tyO, oOwn, oOwnB, oOwnU, cOwn, isBlD, isStrD, isLenD, cBoolO, cStrO, cLenO, oInO, gCallO, itemsD, gJoin, oJoin, cRepr1, tbs, oks, okK_self, okK_n1, okK_n2, okK_n3, okK_n4, okK_n5, okK_n6, okK_n7, sp1, sp2, sp3, oAddI, withM_dM, withM_lit, withI_of, withX_of, withO_of, withT_at, withT_at0, withTL_some, st_set_new, st_set_new0, st_get_new, st_get_new0, List.append_assoc, Nat.add_assoc, st_new, st_new0, stS_new, stS_new0, gsRaise0, gsRaise1, gsTryT, gFldE, cIsiE, isiEx, gDict0, gBM, isTupD, mSplit, mStarts, mTxt0, oRep, oMulS, gSliceK, oSlK, gRepl, ggUnl, gLam, gAct, gMakeV, gCon, gCallO, giEnumS, oInF, flatD, eqF, List.map_cons, List.map_nil, List.replicate, List.length_cons, List.length_nil, List.length_append, List.length_set, List.cons_append, List.nil_append, List.getElem?_cons_zero, List.getElem?_cons_succ, List.set_cons_zero, List.set_cons_succ, List.lookup, List.all_cons, List.all_nil, List.mem_cons, List.not_mem_nil, or_false, Nat.reduceAdd, Nat.reduceSub, Nat.zero_add, Nat.add_zero, beq_self_eq_true, Bool.and_true, Bool.true_and, Bool.not_true, Bool.not_false, if_true, if_false, Bool.false_eq_true, decide_true, decide_false, and_true, true_and, Nat.reduceLeDiff, String.reduceEq, String.reduceNe, String.reduceBEq, String.reduceBNe, Int.reduceNeg, Int.reduceLT, Int.reduceLE, Int.reduceAdd, Int.reduceMul, Int.reduceMod, Int.reducePow, reduceIte, false_or, true_or, or_true, or_self, false_and, and_false, Bool.or_false, Bool.false_or, Bool.true_or, Bool.or_true, Bool.and_false, Bool.false_and, decide_eq_true_eq, Bool.not_eq_true, Int.toNat_zero, Int.reduceToNat, Int.toNat_natCast, Int.reduceLE, Int.reduceLT, oEq_int, oNe_int, ↓reduceIte, Nat.lt_irrefl,  e_is_matrix]
    refine .inl ⟨m, rfl, hz, ?_⟩
    by_cases ho : m.ok
    · rw [decide_eq_true ho]
      simp only [Body, gsNx, gsSeq, gsAsg, gsPar2, gsRet, gsRetN, gsDrop, gsIf, gsBrk, gsCt, gsAug, gsFld, gsNever, gsFor, gC, gV, gNil, gCons, gTup, gLst, gBin, gUn, gChain, gAndV, gOrV, gNotV, gIfE, gCall, gBlt, gMake, gMeth, gFld, gProp, gtV, gtT, truD, gtAnd, gtOr, gtNot, gtYes, oAdd, oSub, oMul, oMod, oFdiv, oFdivW, oPow, oLt, oLe, oGt, oGe, uNeg, oIs, oIsNot, ggNil, ggCons, ggTup, ggP, ggSub, oSetIx, runP, runPs, putG, giLst, giTup, giStr, giRng1, giRng2, gLc, wipeG, atG, oIx, goNone, goSome, gSlice, oSl, cutG, sIxG, cLen, cMax2, cMin2, cAbs, cStr, cBool, cInt, cTuple, cList, cIsi, isiB, isiO, tyD_obj, tyD_non, tyD_bl, tyD_int, tyD_str, tyD_tup, tyD_rol, tyO, oOwn, oOwnB, oOwnU, cOwn, isBlD, isStrD, isLenD, cBoolO, cStrO, cLenO, oInO, gCallO, itemsD, gJoin, oJoin, cRepr1, tbs, oks, okK_self, okK_n1, okK_n2, okK_n3, okK_n4, okK_n5, okK_n6, okK_n7, sp1, sp2, sp3, oAddI, withM_dM, withM_lit, withI_of, withX_of, withO_of, withT_at, withT_at0, withTL_some, st_set_new, st_set_new0, st_get_new, st_get_new0, List.append_assoc, Nat.add_assoc, st_new, st_new0, stS_new, stS_new0, gsRaise0, gsRaise1, gsTryT, gFldE, cIsiE, isiEx, gDict0, gBM, isTupD, mSplit, mStarts, mTxt0, oRep, oMulS, gSliceK, oSlK, gRepl, ggUnl, gLam, gAct, gMakeV, gCon, gCallO, giEnumS, oInF, flatD, eqF, List.map_cons, List.map_nil, List.replicate, List.length_cons, List.length_nil, List.length_append, List.length_set, List.cons_append, List.nil_append, List.getElem?_cons_zero, List.getElem?_cons_succ, List.set_cons_zero, List.set_cons_succ, List.lookup, List.all_cons, List.all_nil, List.mem_cons, List.not_mem_nil, or_false, Nat.reduceAdd, Nat.reduceSub, Nat.zero_add, Nat.add_zero, beq_self_eq_true, Bool.and_true, Bool.true_and, Bool.not_true, Bool.not_false, if_true, if_false, Bool.false_eq_true, decide_true, decide_false, and_true, true_and, Nat.reduceLeDiff, String.reduceEq, String.reduceNe, String.reduceBEq, String.reduceBNe, Int.reduceNeg, Int.reduceLT, Int.reduceLE, Int.reduceAdd, Int.reduceMul, Int.reduceMod, Int.reducePow, reduceIte, false_or, true_or, or_true, or_self, false_and, and_false, Bool.or_false, Bool.false_or, Bool.true_or, Bool.or_true, Bool.and_false, Bool.false_and, decide_eq_true_eq, Bool.not_eq_true, Int.toNat_zero, Int.reduceToNat, Int.toNat_natCast, Int.reduceLE, Int.reduceLT, oEq_int, oNe_int, ↓reduceIte, Nat.lt_irrefl]
      exact cut_same (h1 ho)
    · rw [decide_eq_false ho]
      simp only [Body, gsNx, gsSeq, gsAsg, gsPar2, gsRet, gsRetN, gsDrop, gsIf, gsBrk, gsCt, gsAug, gsFld, gsNever, gsFor, gC, gV, gNil, gCons, gTup, gLst, gBin, gUn, gChain, gAndV, gOrV, gNotV, gIfE, gCall, gBlt, gMake, gMeth, gFld, gProp, gtV, gtT, truD, gtAnd, gtOr, gtNot, gtYes, oAdd, oSub, oMul, oMod, oFdiv, oFdivW, oPow, oLt, oLe, oGt, oGe, uNeg, oIs, oIsNot, ggNil, ggCons, ggTup, ggP, ggSub, oSetIx, runP, runPs, putG, giLst, giTup, giStr, giRng1, giRng2, gLc, wipeG, atG, oIx, goNone, goSome, gSlice, oSl, cutG, sIxG, cLen, cMax2, cMin2, cAbs, cStr, cBool, cInt, cTuple, cList, cIsi, isiB, isiO, tyD_obj, tyD_non, tyD_bl, tyD_int, tyD_str, tyD_tup, tyD_rol, tyO, oOwn, oOwnB, oOwnU, cOwn, isBlD, isStrD, isLenD, cBoolO, cStrO, cLenO, oInO, gCallO, itemsD, gJoin, oJoin, cRepr1, tbs, oks, okK_self, okK_n1, okK_n2, okK_n3, okK_n4, okK_n5, okK_n6, okK_n7, sp1, sp2, sp3, oAddI, withM_dM, withM_lit, withI_of, withX_of, withO_of, withT_at, withT_at0, withTL_some, st_set_new, st_set_new0, st_get_new, st_get_new0, List.append_assoc, Nat.add_assoc, st_new, st_new0, stS_new, stS_new0, gsRaise0, gsRaise1, gsTryT, gFldE, cIsiE, isiEx, gDict0, gBM, isTupD, mSplit, mStarts, mTxt0, oRep, oMulS, gSliceK, oSlK, gRepl, ggUnl, gLam, gAct, gMakeV, gCon, gCallO, giEnumS, oInF, flatD, eqF, List.map_cons, List.map_nil, List.replicate, List.length_cons, List.length_nil, List.length_append, List.length_set, List.cons_append, List.nil_append, List.getElem?_cons_zero, List.getElem?_cons_succ, List.set_cons_zero, List.set_cons_succ, List.lookup, List.all_cons, List.all_nil, List.mem_cons, List.not_mem_nil, or_false, Nat.reduceAdd, Nat.reduceSub, Nat.zero_add, Nat.add_zero, beq_self_eq_true, Bool.and_true, Bool.true_and, Bool.not_true, Bool.not_false, if_true, if_false, Bool.false_eq_true, decide_true, decide_false, and_true, true_and, Nat.reduceLeDiff, String.reduceEq, String.reduceNe, String.reduceBEq, String.reduceBNe, Int.reduceNeg, Int.reduceLT, Int.reduceLE, Int.reduceAdd, Int.reduceMul, Int.reduceMod, Int.reducePow, reduceIte, false_or, true_or, or_true, or_self, false_and, and_false, Bool.or_false, Bool.false_or, Bool.true_or, Bool.or_true, Bool.and_false, Bool.false_and, decide_eq_true_eq, Bool.not_eq_true, Int.toNat_zero, Int.reduceToNat, Int.toNat_natCast, Int.reduceLE, Int.reduceLT, oEq_int, oNe_int, ↓reduceIte, Nat.lt_irrefl]
      exact cutX_same (h2 ho)
  · simp only [Body, gsNx, gsSeq, gsAsg, gsPar2, gsRet, gsRetN, gsDrop, gsIf, gsBrk, gsCt, gsAug, gsFld, gsNever, gsFor, gC, gV, gNil, gCons, gTup, gLst, gBin, gUn, gChain, gAndV, gOrV, gNotV, gIfE, gCall, gBlt, gMake, gMeth, gFld, gProp, gtV, gtT, truD, gtAnd, gtOr, gtNot, gtYes, oAdd, oSub, oMul, oMod, oFdiv, oFdivW, oPow, oLt, oLe, oGt, oGe, uNeg, oIs, oIsNot, ggNil, ggCons, ggTup, ggP, ggSub, oSetIx, runP, runPs, putG, giLst, giTup, giStr, giRng1, giRng2, gLc, wipeG, atG, oIx, goNone, goSome, gSlice, oSl, cutG, sIxG, cLen, cMax2, cMin2, cAbs, cStr, cBool, cInt, cTuple, cList, cIsi, isiB, isiO, tyD_obj, tyD_non, tyD_bl, tyD_int, tyD_str, tyD_tup, tyD_rol, tyO, oOwn, oOwnB, oOwnU, cOwn, isBlD, isStrD, isLenD, cBoolO, cStrO, cLenO, oInO, gCallO, itemsD, gJoin, oJoin, cRepr1, tbs, oks, okK_self, okK_n1, okK_n2, okK_n3, okK_n4, okK_n5, okK_n6, okK_n7, sp1, sp2, sp3, oAddI, withM_dM, withM_lit, withI_of, withX_of, withO_of, withT_at, withT_at0, withTL_some, st_set_new, st_set_new0, st_get_new, st_get_new0, List.append_assoc, Nat.add_assoc, st_new, st_new0, stS_new, stS_new0, gsRaise0, gsRaise1, gsTryT, gFldE, cIsiE, isiEx, gDict0, gBM, isTupD, mSplit, mStarts, mTxt0, oRep, oMulS, gSliceK, oSlK, gRepl, ggUnl, gLam, gAct, gMakeV, gCon, gCallO, giEnumS, oInF, flatD, eqF, List.map_cons, List.map_nil, List.replicate, List.length_cons, List.length_nil, List.length_append, List.length_set, List.cons_append, List.nil_append, List.getElem?_cons_zero, List.getElem?_cons_succ, List.set_cons_zero, List.set_cons_succ, List.lookup, List.all_cons, List.all_nil, List.mem_cons, List.not_mem_nil, or_false, Nat.reduceAdd, Nat.reduceSub, Nat.zero_add, Nat.add_zero, beq_self_eq_true, Bool.and_true, Bool.true_and, Bool.not_true, Bool.not_false, if_true, if_false, Bool.false_eq_true, decide_true, decide_false, and_true, true_and, Nat.reduceLeDiff, String.reduceEq, String.reduceNe, String.reduceBEq, String.reduceBNe, Int.reduceNeg, Int.reduceLT, Int.reduceLE, Int.reduceAdd, Int.reduceMul, Int.reduceMod, Int.reducePow, reduceIte, false_or, true_or, or_true, or_self, false_and, and_false, Bool.or_false, Bool.false_or, Bool.true_or, Bool.or_true, Bool.and_false, Bool.false_and, decide_eq_true_eq, Bool.not_eq_true, Int.toNat_zero, Int.reduceToNat, Int.toNat_natCast, Int.reduceLE, Int.reduceLT, oEq_int, oNe_int, ↓reduceIte, Nat.lt_irrefl,  e_is_matrix]
    exact .inr ⟨hn, cutX_same h⟩
theorem len_Turn___init__ (c : CA) (ds : List D) (S : SS) (Q : GQ) (G : GX) (h : sp_Turn___init__ c ds S Q G) : ds.length = 2 := sp2_len ds S Q G h
theorem vc_Turn___init__ (c : CA) (hc : ClsOk c) (ds : List D) (S : SS) (Q : GQ) (G : GX) (h : sp_Turn___init__ c ds S Q G) : Body (b_Turn___init__ c) N_Turn___init__ ds S Q G := by
  refine body2 h fun s d h => ?_
  obtain ⟨k, rfl, h⟩ := withO_inv h
  unfold b_Turn___init__ N_Turn___init__
  rcases h with ⟨m, rfl, hz, h1, h2⟩ | ⟨hn, h⟩
  · simp only [Body, gsNx, gsSeq, gsAsg, gsPar2, gsRet, gsRetN, gsDrop, gsIf, gsBrk, gsCt, gsAug, gsFld, gsNever, gsFor, gC, gV, gNil, gCons, gTup, gLst, gBin, gUn, gChain, gAndV, gOrV, gNotV, gIfE, gCall, gBlt, gMake, gMeth, gFld, gProp, gtV, gtT, truD, gtAnd, gtOr, gtNot, gtYes, oAdd, oSub, oMul, oMod, oFdiv, oFdivW, oPow, oLt, oLe, oGt, oGe, uNeg, oIs, oIsNot, ggNil, ggCons, ggTup, ggP, ggSub, oSetIx, runP, runPs, putG, giLst, giTup, giStr, giRng1, giRng2, gLc, wipeG, atG, oIx, goNone, goSome, gSlice, oSl, cutG, sIxG, cLen, cMax2, cMin2, cAbs, cStr, cBool, cInt, cTuple, cList, cIsi, isiB, isiO, tyD_obj, tyD_non, tyD_bl, tyD_int, tyD_str, tyD_tup, tyD_rol, tyO, oOwn, oOwnB, oOwnU, cOwn, isBlD, isStrD, isLenD, cBoolO, cStrO, cLenO, oInO, gCallO, itemsD, gJoin, oJoin, cRepr1, tbs, oks, okK_self, okK_n1, okK_n2, okK_n3, okK_n4, okK_n5, okK_n6, okK_n7, sp1, sp2, sp3, oAddI, withM_dM, withM_lit, withI_of, withX_of, withO_of, withT_at, withT_at0, withTL_some, st_set_new, st_set_new0, st_get_new, st_get_new0, List.append_assoc, Nat.add_assoc, st_new, st_new0, stS_new, stS_new0, gsRaise0, gsRaise1, gsTryT, gFldE, cIsiE, isiEx, gDict0, gBM, isTupD, mSplit, mStarts, mTxt0, oRep, oMulS, gSliceK, oSlK, gRepl, ggUnl, gLam, gAct, gMakeV, gCon, gCallO, giEnumS, oInF, flatD, eqF, List.map_cons, List.map_nil, List.replicate, List.length_cons, List.length_nil, List.length_append, List.length_set, List.cons_append, List.nil_append, List.getElem?_cons_zero, List.getElem?_cons_succ, List.set_cons_zero, List.set_cons_succ, List.lookup, List.all_cons, List.all_nil, List.mem_cons, List.not_mem_nil, or_false, Nat.reduceAdd, Nat.reduceSub, Nat.zero_add, Nat.add_zero, beq_self_eq_true, Bool.and_true, Bool.true_and, Bool.not_true, Bool.not_false, if_true, if_false, Bool.false_eq_true, decide_true, decide_false, and_true, true_and, Nat.reduceLeDiff, String.reduceEq, String.reduceNe, String.reduceBEq, String.reduceBNe, Int.reduceNeg, Int.reduceLT, Int.reduceLE, Int.reduceAdd, Int.reduceMul, Int.reduceMod, Int.reducePow, reduceIte, false_or, true_or, or_true, or_self, false_and, and_false, Bool.or_false, Bool.false_or, Bool.true_or, Bool.or_true, Bool.and_false, Bool.false_and, decide_eq_true_eq, Bool.not_eq_true, Int.toNat_zero, Int.reduceToNat, Int.toNat_natCast, Int.reduceLE, Int.reduceLT, oEq_int, oNe_int, ↓reduceIte, Nat.lt_irrefl,  e_need_matrix]
    refine .inl ⟨m, rfl, hz, fun ho => ?_, fun ho => cutX_same (h2 ho)⟩
    obtain ⟨hk, h⟩ := h1 ho
    simp only [Body, gsNx, gsSeq, gsAsg, gsPar2, gsRet, gsRetN, gsDrop, gsIf, gsBrk, gsCt, gsAug, gsFld, gsNever, gsFor, gC, gV, gNil, gCons, gTup, gLst, gBin, gUn, gChain, gAndV, gOrV, gNotV, gIfE, gCall, gBlt, gMake, gMeth, gFld, gProp, gtV, gtT, truD, gtAnd, gtOr, gtNot, gtYes, oAdd, oSub, oMul, oMod, oFdiv, oFdivW, oPow, oLt, oLe, oGt, oGe, uNeg, oIs, oIsNot, ggNil, ggCons, ggTup, ggP, ggSub, oSetIx, runP, runPs, putG, giLst, giTup, giStr, giRng1, giRng2, gLc, wipeG, atG, oIx, goNone, goSome, gSlice, oSl, cutG, sIxG, cLen, cMax2, cMin2, cAbs, cStr, cBool, cInt, cTuple, cList, cIsi, isiB, isiO, tyD_obj, tyD_non, tyD_bl, tyD_int, tyD_str, tyD_tup, tyD_rol, tyO, oOwn, oOwnB, oOwnU, cOwn, isBlD, isStrD, isLenD, cBoolO, cStrO, cLenO, oInO, gCallO, itemsD, gJoin, oJoin, cRepr1, tbs, oks, okK_self, okK_n1, okK_n2, okK_n3, okK_n4, okK_n5, okK_n6, okK_n7, sp1, sp2, sp3, oAddI, withM_dM, withM_lit, withI_of, withX_of, withO_of, withT_at, withT_at0, withTL_some, st_set_new, st_set_new0, st_get_new, st_get_new0, List.append_assoc, Nat.add_assoc, st_new, st_new0, stS_new, stS_new0, gsRaise0, gsRaise1, gsTryT, gFldE, cIsiE, isiEx, gDict0, gBM, isTupD, mSplit, mStarts, mTxt0, oRep, oMulS, gSliceK, oSlK, gRepl, ggUnl, gLam, gAct, gMakeV, gCon, gCallO, giEnumS, oInF, flatD, eqF, List.map_cons, List.map_nil, List.replicate, List.length_cons, List.length_nil, List.length_append, List.length_set, List.cons_append, List.nil_append, List.getElem?_cons_zero, List.getElem?_cons_succ, List.set_cons_zero, List.set_cons_succ, List.lookup, List.all_cons, List.all_nil, List.mem_cons, List.not_mem_nil, or_false, Nat.reduceAdd, Nat.reduceSub, Nat.zero_add, Nat.add_zero, beq_self_eq_true, Bool.and_true, Bool.true_and, Bool.not_true, Bool.not_false, if_true, if_false, Bool.false_eq_true, decide_true, decide_false, and_true, true_and, Nat.reduceLeDiff, String.reduceEq, String.reduceNe, String.reduceBEq, String.reduceBNe, Int.reduceNeg, Int.reduceLT, Int.reduceLE, Int.reduceAdd, Int.reduceMul, Int.reduceMod, Int.reducePow, reduceIte, false_or, true_or, or_true, or_self, false_and, and_false, Bool.or_false, Bool.false_or, Bool.true_or, Bool.or_true, Bool.and_false, Bool.false_and, decide_eq_true_eq, Bool.not_eq_true, Int.toNat_zero, Int.reduceToNat, Int.toNat_natCast, Int.reduceLE, Int.reduceLT, oEq_int, oNe_int, ↓reduceIte, Nat.lt_irrefl,  hk]
    exact ⟨by decide, cut_same h⟩
  · simp only [Body, gsNx, gsSeq, gsAsg, gsPar2, gsRet, gsRetN, gsDrop, gsIf, gsBrk, gsCt, gsAug, gsFld, gsNever, gsFor, gC, gV, gNil, gCons, gTup, gLst, gBin, gUn, gChain, gAndV, gOrV, gNotV, gIfE, gCall, gBlt, gMake, gMeth, gFld, gProp, gtV, gtT, truD, gtAnd, gtOr, gtNot, gtYes, oAdd, oSub, oMul, oMod, oFdiv, oFdivW, oPow, oLt, oLe, oGt, oGe, uNeg, oIs, oIsNot, ggNil, ggCons, ggTup, ggP, ggSub, oSetIx, runP, runPs, putG, giLst, giTup, giStr, giRng1, giRng2, gLc, wipeG, atG, oIx, goNone, goSome, gSlice, oSl, cutG, sIxG, cLen, cMax2, cMin2, cAbs, cStr, cBool, cInt, cTuple, cList, cIsi, isiB, isiO, tyD_obj, tyD_non, tyD_bl, tyD_int, tyD_str, tyD_tup, tyD_rol, tyO, oOwn, oOwnB, oOwnU, cOwn, isBlD, isStrD, isLenD, cBoolO, cStrO, cLenO, oInO, gCallO, itemsD, gJoin, oJoin, cRepr1, tbs, oks, okK_self, okK_n1, okK_n2, okK_n3, okK_n4, okK_n5, okK_n6, okK_n7, sp1, sp2, sp3, oAddI, withM_dM, withM_lit, withI_of, withX_of, withO_of, withT_at, withT_at0, withTL_some, st_set_new, st_set_new0, st_get_new, st_get_new0, List.append_assoc, Nat.add_assoc, st_new, st_new0, stS_new, stS_new0, gsRaise0, gsRaise1, gsTryT, gFldE, cIsiE, isiEx, gDict0, gBM, isTupD, mSplit, mStarts, mTxt0, oRep, oMulS, gSliceK, oSlK, gRepl, ggUnl, gLam, gAct, gMakeV, gCon, gCallO, giEnumS, oInF, flatD, eqF, List.map_cons, List.map_nil, List.replicate, List.length_cons, List.length_nil, List.length_append, List.length_set, List.cons_append, List.nil_append, List.getElem?_cons_zero, List.getElem?_cons_succ, List.set_cons_zero, List.set_cons_succ, List.lookup, List.all_cons, List.all_nil, List.mem_cons, List.not_mem_nil, or_false, Nat.reduceAdd, Nat.reduceSub, Nat.zero_add, Nat.add_zero, beq_self_eq_true, Bool.and_true, Bool.true_and, Bool.not_true, Bool.not_false, if_true, if_false, Bool.false_eq_true, decide_true, decide_false, and_true, true_and, Nat.reduceLeDiff, String.reduceEq, String.reduceNe, String.reduceBEq, String.reduceBNe, Int.reduceNeg, Int.reduceLT, Int.reduceLE, Int.reduceAdd, Int.reduceMul, Int.reduceMod, Int.reducePow, reduceIte, false_or, true_or, or_true, or_self, false_and, and_false, Bool.or_false, Bool.false_or, Bool.true_or, Bool.or_true, Bool.and_false, Bool.false_and, decide_eq_true_eq, Bool.not_eq_true, Int.toNat_zero, Int.reduceToNat, Int.toNat_natCast, Int.reduceLE, Int.reduceLT, oEq_int, oNe_int, ↓reduceIte, Nat.lt_irrefl,  e_need_matrix]
    exact .inr ⟨hn, cutX_same h⟩
theorem mk_turn {c : CA} {S : SS} {m : M} {Q : GQ} {X : GX} (hz : m.sz 3000) (ho : m.ok) (h : Q (.obj S.length) (S ++ [oT c m])) : sp_Turn___init__ c [.obj S.length, dM m] (S ++ [.ins c.Turn []]) (fun d S2 => d = .non ∧ Q (.obj S.length) S2) X := by
  rw [e_Turn___init__, withO_of]
  refine .inl ⟨m, rfl, hz, fun _ => ⟨st_new0, rfl, ?_⟩, fun n => absurd ho n⟩
  rw [st_set_new0]
  exact h
theorem len_Turn___mul__ (c : CA) (ds : List D) (S : SS) (Q : GQ) (G : GX) (h : sp_Turn___mul__ c ds S Q G) : ds.length = 2 := sp2_len ds S Q G h
theorem vc_Turn___mul__ (c : CA) (hc : ClsOk c) (ds : List D) (S : SS) (Q : GQ) (G : GX) (h : sp_Turn___mul__ c ds S Q G) : Body (b_Turn___mul__ c) N_Turn___mul__ ds S Q G := by
  refine body2 h fun d e h => ?_
  obtain ⟨k, m, rfl, hk, h⟩ := withT_inv h
  obtain ⟨j, n, rfl, hj, hm, hn, om, on, h⟩ := withT_inv h
  unfold b_Turn___mul__ N_Turn___mul__ sp_times
  unfold oT at hk hj
  simp only [Body, gsNx, gsSeq, gsAsg, gsPar2, gsRet, gsRetN, gsDrop, gsIf, gsBrk, gsCt, gsAug, gsFld, gsNever, gsFor, gC, gV, gNil, gCons, gTup, gLst, gBin, gUn, gChain, gAndV, gOrV, gNotV, gIfE, gCall, gBlt, gMake, gMeth, gFld, gProp, gtV, gtT, truD, gtAnd, gtOr, gtNot, gtYes, oAdd, oSub, oMul, oMod, oFdiv, oFdivW, oPow, oLt, oLe, oGt, oGe, uNeg, oIs, oIsNot, ggNil, ggCons, ggTup, ggP, ggSub, oSetIx, runP, runPs, putG, giLst, giTup, giStr, giRng1, giRng2, gLc, wipeG, atG, oIx, goNone, goSome, gSlice, oSl, cutG, sIxG, cLen, cMax2, cMin2, cAbs, cStr, cBool, cInt, cTuple, cList, cIsi, isiB, isiO, tyD_obj, tyD_non, tyD_bl, tyD_int, tyD_str, tyD_tup, tyD_rol, tyO, oOwn, oOwnB, oOwnU, cOwn, isBlD, isStrD, isLenD, cBoolO, cStrO, cLenO, oInO, gCallO, itemsD, gJoin, oJoin, cRepr1, tbs, oks, okK_self, okK_n1, okK_n2, okK_n3, okK_n4, okK_n5, okK_n6, okK_n7, sp1, sp2, sp3, oAddI, withM_dM, withM_lit, withI_of, withX_of, withO_of, withT_at, withT_at0, withTL_some, st_set_new, st_set_new0, st_get_new, st_get_new0, List.append_assoc, Nat.add_assoc, st_new, st_new0, stS_new, stS_new0, gsRaise0, gsRaise1, gsTryT, gFldE, cIsiE, isiEx, gDict0, gBM, isTupD, mSplit, mStarts, mTxt0, oRep, oMulS, gSliceK, oSlK, gRepl, ggUnl, gLam, gAct, gMakeV, gCon, gCallO, giEnumS, oInF, flatD, eqF, List.map_cons, List.map_nil, List.replicate, List.length_cons, List.length_nil, List.length_append, List.length_set, List.cons_append, List.nil_append, List.getElem?_cons_zero, List.getElem?_cons_succ, List.set_cons_zero, List.set_cons_succ, List.lookup, List.all_cons, List.all_nil, List.mem_cons, List.not_mem_nil, or_false, Nat.reduceAdd, Nat.reduceSub, Nat.zero_add, Nat.add_zero, beq_self_eq_true, Bool.and_true, Bool.true_and, Bool.not_true, Bool.not_false, if_true, if_false, Bool.false_eq_true, decide_true, decide_false, and_true, true_and, Nat.reduceLeDiff, String.reduceEq, String.reduceNe, String.reduceBEq, String.reduceBNe, Int.reduceNeg, Int.reduceLT, Int.reduceLE, Int.reduceAdd, Int.reduceMul, Int.reduceMod, Int.reducePow, reduceIte, false_or, true_or, or_true, or_self, false_and, and_false, Bool.or_false, Bool.false_or, Bool.true_or, Bool.or_true, Bool.and_false, Bool.false_and, decide_eq_true_eq, Bool.not_eq_true, Int.toNat_zero, Int.reduceToNat, Int.toNat_natCast, Int.reduceLE, Int.reduceLT, oEq_int, oNe_int, ↓reduceIte, Nat.lt_irrefl,  hk, hj, HELD]
  exact ⟨M.sz_mono hm (by decide), M.sz_mono hn (by decide), mk_turn (M.sz_mono (M.times_sz hm hn) (by decide)) (M.times_ok om on) (cut_same h)⟩
theorem len_Turn___invert__ (c : CA) (ds : List D) (S : SS) (Q : GQ) (G : GX) (h : sp_Turn___invert__ c ds S Q G) : ds.length = 1 := sp1_len ds S Q G h
theorem vc_Turn___invert__ (c : CA) (hc : ClsOk c) (ds : List D) (S : SS) (Q : GQ) (G : GX) (h : sp_Turn___invert__ c ds S Q G) : Body (b_Turn___invert__ c) N_Turn___invert__ ds S Q G := by
  refine body1 h fun d h => ?_
  obtain ⟨k, m, rfl, hk, ho, hm, h⟩ := withT_inv h
  unfold b_Turn___invert__ N_Turn___invert__ sp_inverse_of
  unfold oT at hk
  simp only [Body, gsNx, gsSeq, gsAsg, gsPar2, gsRet, gsRetN, gsDrop, gsIf, gsBrk, gsCt, gsAug, gsFld, gsNever, gsFor, gC, gV, gNil, gCons, gTup, gLst, gBin, gUn, gChain, gAndV, gOrV, gNotV, gIfE, gCall, gBlt, gMake, gMeth, gFld, gProp, gtV, gtT, truD, gtAnd, gtOr, gtNot, gtYes, oAdd, oSub, oMul, oMod, oFdiv, oFdivW, oPow, oLt, oLe, oGt, oGe, uNeg, oIs, oIsNot, ggNil, ggCons, ggTup, ggP, ggSub, oSetIx, runP, runPs, putG, giLst, giTup, giStr, giRng1, giRng2, gLc, wipeG, atG, oIx, goNone, goSome, gSlice, oSl, cutG, sIxG, cLen, cMax2, cMin2, cAbs, cStr, cBool, cInt, cTuple, cList, cIsi, isiB, isiO, tyD_obj, tyD_non, tyD_bl, tyD_int, tyD_str, tyD_tup, tyD_rol, tyO, oOwn, oOwnB, oOwnU, cOwn, isBlD, isStrD, isLenD, cBoolO, cStrO, cLenO, oInO, gCallO, itemsD, gJoin, oJoin, cRepr1, tbs, oks, okK_self, okK_n1, okK_n2, okK_n3, okK_n4, okK_n5, okK_n6, okK_n7, sp1, sp2, sp3, oAddI, withM_dM, withM_lit, withI_of, withX_of, withO_of, withT_at, withT_at0, withTL_some, st_set_new, st_set_new0, st_get_new, st_get_new0, List.append_assoc, Nat.add_assoc, st_new, st_new0, stS_new, stS_new0, gsRaise0, gsRaise1, gsTryT, gFldE, cIsiE, isiEx, gDict0, gBM, isTupD, mSplit, mStarts, mTxt0, oRep, oMulS, gSliceK, oSlK, gRepl, ggUnl, gLam, gAct, gMakeV, gCon, gCallO, giEnumS, oInF, flatD, eqF, List.map_cons, List.map_nil, List.replicate, List.length_cons, List.length_nil, List.length_append, List.length_set, List.cons_append, List.nil_append, List.getElem?_cons_zero, List.getElem?_cons_succ, List.set_cons_zero, List.set_cons_succ, List.lookup, List.all_cons, List.all_nil, List.mem_cons, List.not_mem_nil, or_false, Nat.reduceAdd, Nat.reduceSub, Nat.zero_add, Nat.add_zero, beq_self_eq_true, Bool.and_true, Bool.true_and, Bool.not_true, Bool.not_false, if_true, if_false, Bool.false_eq_true, decide_true, decide_false, and_true, true_and, Nat.reduceLeDiff, String.reduceEq, String.reduceNe, String.reduceBEq, String.reduceBNe, Int.reduceNeg, Int.reduceLT, Int.reduceLE, Int.reduceAdd, Int.reduceMul, Int.reduceMod, Int.reducePow, reduceIte, false_or, true_or, or_true, or_self, false_and, and_false, Bool.or_false, Bool.false_or, Bool.true_or, Bool.or_true, Bool.and_false, Bool.false_and, decide_eq_true_eq, Bool.not_eq_true, Int.toNat_zero, Int.reduceToNat, Int.toNat_natCast, Int.reduceLE, Int.reduceLT, oEq_int, oNe_int, ↓reduceIte, Nat.lt_irrefl,  hk, HELD]
  exact mk_turn (M.sz_mono (M.inv_sz hm) (by decide)) (M.inv_ok ho) (cut_same h)
end Gh

namespace Gh
open PySem
theorem len_matrix_of_letter (c : CA) (ds : List D) (S : SS) (Q : GQ) (G : GX) (h : sp_matrix_of_letter c ds S Q G) : ds.length = 1 := sp1_len ds S Q G h
theorem vc_matrix_of_letter (c : CA) (hc : ClsOk c) (ds : List D) (S : SS) (Q : GQ) (G : GX) (h : sp_matrix_of_letter c ds S Q G) : Body (b_matrix_of_letter c) N_matrix_of_letter ds S Q G := by
  refine body1 h fun d h => ?_
  obtain ⟨x, rfl, h⟩ := withX_inv h
  unfold b_matrix_of_letter N_matrix_of_letter
  simp only [Body, gsNx, gsSeq, gsAsg, gsPar2, gsRet, gsRetN, gsDrop, gsIf, gsBrk, gsCt, gsAug, gsFld, gsNever, gsFor, gC, gV, gNil, gCons, gTup, gLst, gBin, gUn, gChain, gAndV, gOrV, gNotV, gIfE, gCall, gBlt, gMake, gMeth, gFld, gProp, gtV, gtT, truD, gtAnd, gtOr, gtNot, gtYes, oAdd, oSub, oMul, oMod, oFdiv, oFdivW, oPow, oLt, oLe, oGt, oGe, uNeg, oIs, oIsNot, ggNil, ggCons, ggTup, ggP, ggSub, oSetIx, runP, runPs, putG, giLst, giTup, giStr, giRng1, giRng2, gLc, wipeG, atG, oIx, goNone, goSome, gSlice, oSl, cutG, sIxG, cLen, cMax2, cMin2, cAbs, cStr, cBool, cInt, cTuple, cList, cIsi, isiB, isiO, tyD_obj, tyD_non, tyD_bl, tyD_int, tyD_str, tyD_tup, tyD_rol, tyO, oOwn, oOwnB, oOwnU, cOwn, isBlD, isStrD, isLenD, cBoolO, cStrO, cLenO, oInO, gCallO, itemsD, gJoin, oJoin, cRepr1, tbs, oks, okK_self, okK_n1, okK_n2, okK_n3, okK_n4, okK_n5, okK_n6, okK_n7, sp1, sp2, sp3, oAddI, withM_dM, withM_lit, withI_of, withX_of, withO_of, withT_at, withT_at0, withTL_some, st_set_new, st_set_new0, st_get_new, st_get_new0, List.append_assoc, Nat.add_assoc, st_new, st_new0, stS_new, stS_new0, gsRaise0, gsRaise1, gsTryT, gFldE, cIsiE, isiEx, gDict0, gBM, isTupD, mSplit, mStarts, mTxt0, oRep, oMulS, gSliceK, oSlK, gRepl, ggUnl, gLam, gAct, gMakeV, gCon, gCallO, giEnumS, oInF, flatD, eqF, List.map_cons, List.map_nil, List.replicate, List.length_cons, List.length_nil, List.length_append, List.length_set, List.cons_append, List.nil_append, List.getElem?_cons_zero, List.getElem?_cons_succ, List.set_cons_zero, List.set_cons_succ, List.lookup, List.all_cons, List.all_nil, List.mem_cons, List.not_mem_nil, or_false, Nat.reduceAdd, Nat.reduceSub, Nat.zero_add, Nat.add_zero, beq_self_eq_true, Bool.and_true, Bool.true_and, Bool.not_true, Bool.not_false, if_true, if_false, Bool.false_eq_true, decide_true, decide_false, and_true, true_and, Nat.reduceLeDiff, String.reduceEq, String.reduceNe, String.reduceBEq, String.reduceBNe, Int.reduceNeg, Int.reduceLT, Int.reduceLE, Int.reduceAdd, Int.reduceMul, Int.reduceMod, Int.reducePow, reduceIte, false_or, true_or, or_true, or_self, false_and, and_false, Bool.or_false, Bool.false_or, Bool.true_or, Bool.or_true, Bool.and_false, Bool.false_and, decide_eq_true_eq, Bool.not_eq_true, Int.toNat_zero, Int.reduceToNat, Int.toNat_natCast, Int.reduceLE, Int.reduceLT, oEq_int, oNe_int, ↓reduceIte, Nat.lt_irrefl,  oEq_strs, e_inverse_of]
  unfold letM at h
  have e := cut_same (S := S) h
  have Ri : letR.inv = letr := by decide
  have eR : withM (D.tup [D.tup [D.int 0, D.int (-1)], D.tup [D.int 1, D.int 1]]) (fun m => gCut S Q (dM m.inv) S) = gCut S Q (dM letR.inv) S := rfl
  by_cases h1 : x = ⟨#[83]⟩
  · simpa [h1, letS, dM] using e
  · by_cases h2 : x = ⟨#[82]⟩
    · simpa [h1, h2, letR, dM] using e
    · rw [if_neg h1, if_neg h2] at e
      have f1 : (x == (⟨#[83]⟩ : Str)) = false := by simpa using h1
      have f2 : (x == (⟨#[82]⟩ : Str)) = false := by simpa using h2
      simp only [f1, f2]
      rw [← Ri] at e
      exact e
theorem len_matrix_of_text (c : CA) (ds : List D) (S : SS) (Q : GQ) (G : GX) (h : sp_matrix_of_text c ds S Q G) : ds.length = 1 := sp1_len ds S Q G h
theorem vc_matrix_of_text (c : CA) (hc : ClsOk c) (ds : List D) (S : SS) (Q : GQ) (G : GX) (h : sp_matrix_of_text c ds S Q G) : Body (b_matrix_of_text c) N_matrix_of_text ds S Q G := by
  refine body1 h fun d h => ?_
  obtain ⟨x, rfl, hl, h⟩ := withX_inv h
  unfold b_matrix_of_text N_matrix_of_text
  simp only [Body, gsNx, gsSeq, gsAsg, gsPar2, gsRet, gsRetN, gsDrop, gsIf, gsBrk, gsCt, gsAug, gsFld, gsNever, gsFor, gC, gV, gNil, gCons, gTup, gLst, gBin, gUn, gChain, gAndV, gOrV, gNotV, gIfE, gCall, gBlt, gMake, gMeth, gFld, gProp, gtV, gtT, truD, gtAnd, gtOr, gtNot, gtYes, oAdd, oSub, oMul, oMod, oFdiv, oFdivW, oPow, oLt, oLe, oGt, oGe, uNeg, oIs, oIsNot, ggNil, ggCons, ggTup, ggP, ggSub, oSetIx, runP, runPs, putG, giLst, giTup, giStr, giRng1, giRng2, gLc, wipeG, atG, oIx, goNone, goSome, gSlice, oSl, cutG, sIxG, cLen, cMax2, cMin2, cAbs, cStr, cBool, cInt, cTuple, cList, cIsi, isiB, isiO, tyD_obj, tyD_non, tyD_bl, tyD_int, tyD_str, tyD_tup, tyD_rol, tyO, oOwn, oOwnB, oOwnU, cOwn, isBlD, isStrD, isLenD, cBoolO, cStrO, cLenO, oInO, gCallO, itemsD, gJoin, oJoin, cRepr1, tbs, oks, okK_self, okK_n1, okK_n2, okK_n3, okK_n4, okK_n5, okK_n6, okK_n7, sp1, sp2, sp3, oAddI, withM_dM, withM_lit, withI_of, withX_of, withO_of, withT_at, withT_at0, withTL_some, st_set_new, st_set_new0, st_get_new, st_get_new0, List.append_assoc, Nat.add_assoc, st_new, st_new0, stS_new, stS_new0, gsRaise0, gsRaise1, gsTryT, gFldE, cIsiE, isiEx, gDict0, gBM, isTupD, mSplit, mStarts, mTxt0, oRep, oMulS, gSliceK, oSlK, gRepl, ggUnl, gLam, gAct, gMakeV, gCon, gCallO, giEnumS, oInF, flatD, eqF, List.map_cons, List.map_nil, List.replicate, List.length_cons, List.length_nil, List.length_append, List.length_set, List.cons_append, List.nil_append, List.getElem?_cons_zero, List.getElem?_cons_succ, List.set_cons_zero, List.set_cons_succ, List.lookup, List.all_cons, List.all_nil, List.mem_cons, List.not_mem_nil, or_false, Nat.reduceAdd, Nat.reduceSub, Nat.zero_add, Nat.add_zero, beq_self_eq_true, Bool.and_true, Bool.true_and, Bool.not_true, Bool.not_false, if_true, if_false, Bool.false_eq_true, decide_true, decide_false, and_true, true_and, Nat.reduceLeDiff, String.reduceEq, String.reduceNe, String.reduceBEq, String.reduceBNe, Int.reduceNeg, Int.reduceLT, Int.reduceLE, Int.reduceAdd, Int.reduceMul, Int.reduceMod, Int.reducePow, reduceIte, false_or, true_or, or_true, or_self, false_and, and_false, Bool.or_false, Bool.false_or, Bool.true_or, Bool.or_true, Bool.and_false, Bool.false_and, decide_eq_true_eq, Bool.not_eq_true, Int.toNat_zero, Int.reduceToNat, Int.toNat_natCast, Int.reduceLE, Int.reduceLT, oEq_int, oNe_int, ↓reduceIte, Nat.lt_irrefl]
  refine forL_inv (fun i σ S' => ∃ w, S' = S ∧ σ = [some (.str x), some (dM (matW (x.cps.toList.take i))), w]) ⟨none, rfl, rfl⟩ (fun i d σ S' N hd hI hN => ⟨trivial, ?_⟩) fun σ S' hI => ⟨trivial, ?_⟩
  · obtain ⟨w, rfl, rfl⟩ := hI
    simp only [signs, List.getElem?_map, Option.map_eq_some_iff] at hd
    obtain ⟨a, ha, rfl⟩ := hd
    simp only [Body, gsNx, gsSeq, gsAsg, gsPar2, gsRet, gsRetN, gsDrop, gsIf, gsBrk, gsCt, gsAug, gsFld, gsNever, gsFor, gC, gV, gNil, gCons, gTup, gLst, gBin, gUn, gChain, gAndV, gOrV, gNotV, gIfE, gCall, gBlt, gMake, gMeth, gFld, gProp, gtV, gtT, truD, gtAnd, gtOr, gtNot, gtYes, oAdd, oSub, oMul, oMod, oFdiv, oFdivW, oPow, oLt, oLe, oGt, oGe, uNeg, oIs, oIsNot, ggNil, ggCons, ggTup, ggP, ggSub, oSetIx, runP, runPs, putG, giLst, giTup, giStr, giRng1, giRng2, gLc, wipeG, atG, oIx, goNone, goSome, gSlice, oSl, cutG, sIxG, cLen, cMax2, cMin2, cAbs, cStr, cBool, cInt, cTuple, cList, cIsi, isiB, isiO, tyD_obj, tyD_non, tyD_bl, tyD_int, tyD_str, tyD_tup, tyD_rol, tyO, oOwn, oOwnB, oOwnU, cOwn, isBlD, isStrD, isLenD, cBoolO, cStrO, cLenO, oInO, gCallO, itemsD, gJoin, oJoin, cRepr1, tbs, oks, okK_self, okK_n1, okK_n2, okK_n3, okK_n4, okK_n5, okK_n6, okK_n7, sp1, sp2, sp3, oAddI, withM_dM, withM_lit, withI_of, withX_of, withO_of, withT_at, withT_at0, withTL_some, st_set_new, st_set_new0, st_get_new, st_get_new0, List.append_assoc, Nat.add_assoc, st_new, st_new0, stS_new, stS_new0, gsRaise0, gsRaise1, gsTryT, gFldE, cIsiE, isiEx, gDict0, gBM, isTupD, mSplit, mStarts, mTxt0, oRep, oMulS, gSliceK, oSlK, gRepl, ggUnl, gLam, gAct, gMakeV, gCon, gCallO, giEnumS, oInF, flatD, eqF, List.map_cons, List.map_nil, List.replicate, List.length_cons, List.length_nil, List.length_append, List.length_set, List.cons_append, List.nil_append, List.getElem?_cons_zero, List.getElem?_cons_succ, List.set_cons_zero, List.set_cons_succ, List.lookup, List.all_cons, List.all_nil, List.mem_cons, List.not_mem_nil, or_false, Nat.reduceAdd, Nat.reduceSub, Nat.zero_add, Nat.add_zero, beq_self_eq_true, Bool.and_true, Bool.true_and, Bool.not_true, Bool.not_false, if_true, if_false, Bool.false_eq_true, decide_true, decide_false, and_true, true_and, Nat.reduceLeDiff, String.reduceEq, String.reduceNe, String.reduceBEq, String.reduceBNe, Int.reduceNeg, Int.reduceLT, Int.reduceLE, Int.reduceAdd, Int.reduceMul, Int.reduceMod, Int.reducePow, reduceIte, false_or, true_or, or_true, or_self, false_and, and_false, Bool.or_false, Bool.false_or, Bool.true_or, Bool.or_true, Bool.and_false, Bool.false_and, decide_eq_true_eq, Bool.not_eq_true, Int.toNat_zero, Int.reduceToNat, Int.toNat_natCast, Int.reduceLE, Int.reduceLT, oEq_int, oNe_int, ↓reduceIte, Nat.lt_irrefl,  e_times, e_matrix_of_letter]
    have hm := matW_sz (x.cps.toList.take i)
    have hi : (x.cps.toList.take i).length ≤ 100 := by
      rw [List.length_take]
      have : x.cps.toList.length = x.length := by simp [Str.length]
      omega
    refine ⟨M.sz_mono hm (by omega), M.sz_mono (letM_sz _) (by decide), hN _ _ ⟨some (.str ⟨#[a]⟩), rfl, ?_⟩⟩
    have e : x.cps.toList.take (i + 1) = x.cps.toList.take i ++ [a] := by
      rw [List.take_add_one, ha]; rfl
    rw [e, matW_snoc]
  · obtain ⟨w, rfl, rfl⟩ := hI
    have e : x.cps.toList.take (signs x).length = x.cps.toList := List.take_of_length_le (by simp [signs])
    rw [e]
    simp only [Body, gsNx, gsSeq, gsAsg, gsPar2, gsRet, gsRetN, gsDrop, gsIf, gsBrk, gsCt, gsAug, gsFld, gsNever, gsFor, gC, gV, gNil, gCons, gTup, gLst, gBin, gUn, gChain, gAndV, gOrV, gNotV, gIfE, gCall, gBlt, gMake, gMeth, gFld, gProp, gtV, gtT, truD, gtAnd, gtOr, gtNot, gtYes, oAdd, oSub, oMul, oMod, oFdiv, oFdivW, oPow, oLt, oLe, oGt, oGe, uNeg, oIs, oIsNot, ggNil, ggCons, ggTup, ggP, ggSub, oSetIx, runP, runPs, putG, giLst, giTup, giStr, giRng1, giRng2, gLc, wipeG, atG, oIx, goNone, goSome, gSlice, oSl, cutG, sIxG, cLen, cMax2, cMin2, cAbs, cStr, cBool, cInt, cTuple, cList, cIsi, isiB, isiO, tyD_obj, tyD_non, tyD_bl, tyD_int, tyD_str, tyD_tup, tyD_rol, tyO, oOwn, oOwnB, oOwnU, cOwn, isBlD, isStrD, isLenD, cBoolO, cStrO, cLenO, oInO, gCallO, itemsD, gJoin, oJoin, cRepr1, tbs, oks, okK_self, okK_n1, okK_n2, okK_n3, okK_n4, okK_n5, okK_n6, okK_n7, sp1, sp2, sp3, oAddI, withM_dM, withM_lit, withI_of, withX_of, withO_of, withT_at, withT_at0, withTL_some, st_set_new, st_set_new0, st_get_new, st_get_new0, List.append_assoc, Nat.add_assoc, st_new, st_new0, stS_new, stS_new0, gsRaise0, gsRaise1, gsTryT, gFldE, cIsiE, isiEx, gDict0, gBM, isTupD, mSplit, mStarts, mTxt0, oRep, oMulS, gSliceK, oSlK, gRepl, ggUnl, gLam, gAct, gMakeV, gCon, gCallO, giEnumS, oInF, flatD, eqF, List.map_cons, List.map_nil, List.replicate, List.length_cons, List.length_nil, List.length_append, List.length_set, List.cons_append, List.nil_append, List.getElem?_cons_zero, List.getElem?_cons_succ, List.set_cons_zero, List.set_cons_succ, List.lookup, List.all_cons, List.all_nil, List.mem_cons, List.not_mem_nil, or_false, Nat.reduceAdd, Nat.reduceSub, Nat.zero_add, Nat.add_zero, beq_self_eq_true, Bool.and_true, Bool.true_and, Bool.not_true, Bool.not_false, if_true, if_false, Bool.false_eq_true, decide_true, decide_false, and_true, true_and, Nat.reduceLeDiff, String.reduceEq, String.reduceNe, String.reduceBEq, String.reduceBNe, Int.reduceNeg, Int.reduceLT, Int.reduceLE, Int.reduceAdd, Int.reduceMul, Int.reduceMod, Int.reducePow, reduceIte, false_or, true_or, or_true, or_self, false_and, and_false, Bool.or_false, Bool.false_or, Bool.true_or, Bool.or_true, Bool.and_false, Bool.false_and, decide_eq_true_eq, Bool.not_eq_true, Int.toNat_zero, Int.reduceToNat, Int.toNat_natCast, Int.reduceLE, Int.reduceLT, oEq_int, oNe_int, ↓reduceIte, Nat.lt_irrefl]
    exact cut_same h
theorem badW_some {l : List Nat} {i : Nat} (hi : i < l.length) (h : ∀ j, j < i → okAt l j = true) (n : okAt l i = false) : badW l = some i := by
  unfold badW
  rw [List.find?_range_eq_some]
  refine ⟨by rw [n]; rfl, by simpa using hi, fun j hj => by rw [h j hj]; rfl⟩
theorem badW_none {l : List Nat} (h : ∀ j, j < l.length → okAt l j = true) : badW l = none := by
  unfold badW
  rw [List.find?_eq_none]
  intro j hj
  rw [h j (by simpa using hj)]; simp
theorem badW_ok {x : Str} (h : WordOk x) : badW x.cps.toList = none := badW_none fun j _ => h j
theorem len_need_word (c : CA) (ds : List D) (S : SS) (Q : GQ) (G : GX) (h : sp_need_word c ds S Q G) : ds.length = 1 := sp1_len ds S Q G h
theorem one_str {a b : Nat} : ((⟨#[a]⟩ : Str) == ⟨#[b]⟩) = (a == b) := by
  rw [Bool.eq_iff_iff]; simp
theorem enumD_len : ∀ (ds : List D) (n : Nat), (enumD n ds).length = ds.length
  | [], _ => rfl
  | _ :: ds, n => by simp [enumD, enumD_len ds]
theorem oEq_bl {a b : Bool} {S : SS} {Q : GQ} (q : Q (.bl (a == b)) S) : oEq (.bl a) (.bl b) S Q :=
  .inl ⟨_, _, rfl, rfl, rfl, rfl, by cases a <;> cases b <;> exact q⟩
theorem enumD_get : ∀ (ds : List D) (n i : Nat) (d : D), (enumD n ds)[i]? = some d → ∃ e, ds[i]? = some e ∧ d = .tup [.int ((n + i : Nat) : Int), e]
  | [], n, i, d, h => by simp [enumD] at h
  | x :: ds, n, 0, d, h => by
    simp [enumD] at h
    exact ⟨x, rfl, h.symm⟩
  | x :: ds, n, i + 1, d, h => by
    simp only [enumD, List.getElem?_cons_succ] at h
    obtain ⟨e, he, rfl⟩ := enumD_get ds (n + 1) i d h
    exact ⟨e, by simpa using he, by rw [show n + 1 + i = n + (i + 1) by omega]⟩
theorem vc_need_word (c : CA) (hc : ClsOk c) (ds : List D) (S : SS) (Q : GQ) (G : GX) (h : sp_need_word c ds S Q G) : Body (b_need_word c) N_need_word ds S Q G := by
  refine body1 h fun d h => ?_
  obtain ⟨⟨t, h1, h2⟩, hl, h⟩ := h
  unfold b_need_word N_need_word
  by_cases ht : t = "str"
  · subst ht
    obtain ⟨x, rfl⟩ := tyD_str' h1
    have hl := hl x rfl
    simp only [badD] at h
    simp only [Body, gsNx, gsSeq, gsAsg, gsPar2, gsRet, gsRetN, gsDrop, gsIf, gsBrk, gsCt, gsAug, gsFld, gsNever, gsFor, gC, gV, gNil, gCons, gTup, gLst, gBin, gUn, gChain, gAndV, gOrV, gNotV, gIfE, gCall, gBlt, gMake, gMeth, gFld, gProp, gtV, gtT, truD, gtAnd, gtOr, gtNot, gtYes, oAdd, oSub, oMul, oMod, oFdiv, oFdivW, oPow, oLt, oLe, oGt, oGe, uNeg, oIs, oIsNot, ggNil, ggCons, ggTup, ggP, ggSub, oSetIx, runP, runPs, putG, giLst, giTup, giStr, giRng1, giRng2, gLc, wipeG, atG, oIx, goNone, goSome, gSlice, oSl, cutG, sIxG, cLen, cMax2, cMin2, cAbs, cStr, cBool, cInt, cTuple, cList, cIsi, isiB, isiO, tyD_obj, tyD_non, tyD_bl, tyD_int, tyD_str, tyD_tup, tyD_rol, tyO, oOwn, oOwnB, oOwnU, cOwn, isBlD, isStrD, isLenD, cBoolO, cStrO, cLenO, oInO, gCallO, itemsD, gJoin, oJoin, cRepr1, tbs, oks, okK_self, okK_n1, okK_n2, okK_n3, okK_n4, okK_n5, okK_n6, okK_n7, sp1, sp2, sp3, oAddI, withM_dM, withM_lit, withI_of, withX_of, withO_of, withT_at, withT_at0, withTL_some, st_set_new, st_set_new0, st_get_new, st_get_new0, List.append_assoc, Nat.add_assoc, st_new, st_new0, stS_new, stS_new0, gsRaise0, gsRaise1, gsTryT, gFldE, cIsiE, isiEx, gDict0, gBM, isTupD, mSplit, mStarts, mTxt0, oRep, oMulS, gSliceK, oSlK, gRepl, ggUnl, gLam, gAct, gMakeV, gCon, gCallO, giEnumS, oInF, flatD, eqF, List.map_cons, List.map_nil, List.replicate, List.length_cons, List.length_nil, List.length_append, List.length_set, List.cons_append, List.nil_append, List.getElem?_cons_zero, List.getElem?_cons_succ, List.set_cons_zero, List.set_cons_succ, List.lookup, List.all_cons, List.all_nil, List.mem_cons, List.not_mem_nil, or_false, Nat.reduceAdd, Nat.reduceSub, Nat.zero_add, Nat.add_zero, beq_self_eq_true, Bool.and_true, Bool.true_and, Bool.not_true, Bool.not_false, if_true, if_false, Bool.false_eq_true, decide_true, decide_false, and_true, true_and, Nat.reduceLeDiff, String.reduceEq, String.reduceNe, String.reduceBEq, String.reduceBNe, Int.reduceNeg, Int.reduceLT, Int.reduceLE, Int.reduceAdd, Int.reduceMul, Int.reduceMod, Int.reducePow, reduceIte, false_or, true_or, or_true, or_self, false_and, and_false, Bool.or_false, Bool.false_or, Bool.true_or, Bool.or_true, Bool.and_false, Bool.false_and, decide_eq_true_eq, Bool.not_eq_true, Int.toNat_zero, Int.reduceToNat, Int.toNat_natCast, Int.reduceLE, Int.reduceLT, oEq_int, oNe_int, ↓reduceIte, Nat.lt_irrefl,  h1]
    refine ⟨by omega, ?_⟩
    by_cases hx : x.length ≤ 2000
    · rw [if_neg (by omega)]
      rw [if_pos hx] at h
      have xl : x.cps.toList.length = x.length := by simp [Str.length]
      refine forL_inv (fun i σ S' => ∃ a b, S' = S ∧ σ = [some (.str x), a, b] ∧ ∀ j, j < i → okAt x.cps.toList j = true) ⟨none, none, rfl, rfl, fun j hj => absurd hj (Nat.not_lt_zero _)⟩ (fun i d σ S' N hd hI hN => ⟨trivial, ?_⟩) fun σ S' hI => ⟨trivial, ?_⟩
      · obtain ⟨a, b, rfl, rfl, hj⟩ := hI
        obtain ⟨e, he, rfl⟩ := enumD_get _ _ _ _ hd
        simp only [signs, List.getElem?_map, Option.map_eq_some_iff] at he
        obtain ⟨p, hp, rfl⟩ := he
        have hi : i < x.cps.toList.length := (List.getElem?_eq_some_iff.mp hp).1
        have bad : okAt x.cps.toList i = false → gCutX S' G c.BadWord [(Str.ofString "index", .int ((i : Nat) : Int))] S' := fun n => by
          rw [badW_some hi hj n] at h
          exact cutX_same h
        have good : okAt x.cps.toList i = true → ∀ j, j < i + 1 → okAt x.cps.toList j = true := fun n j hh => by
          rcases Nat.lt_or_ge j i with g | g
          · exact hj j g
          · obtain rfl : j = i := by omega
            exact n
        simp only [Body, gsNx, gsSeq, gsAsg, gsPar2, gsRet, gsRetN, gsDrop, gsIf, gsBrk, gsCt, gsAug, gsFld, gsNever, gsFor, gC, gV, gNil, gCons, gTup, gLst, gBin, gUn, gChain, gAndV, gOrV, gNotV, gIfE, gCall, gBlt, gMake, gMeth, gFld, gProp, gtV, gtT, truD, gtAnd, gtOr, gtNot, gtYes, oAdd, oSub, oMul, oMod, oFdiv, oFdivW, oPow, oLt, oLe, oGt, oGe, uNeg, oIs, oIsNot, ggNil, ggCons, ggTup, ggP, ggSub, oSetIx, runP, runPs, putG, giLst, giTup, giStr, giRng1, giRng2, gLc, wipeG, atG, oIx, goNone, goSome, gSlice, oSl, cutG, sIxG, cLen, cMax2, cMin2, cAbs, cStr, cBool, cInt, cTuple, cList, cIsi, isiB, isiO, tyD_obj, tyD_non, tyD_bl, tyD_int, tyD_str, tyD_tup, tyD_rol, tyO, oOwn, oOwnB, oOwnU, cOwn, isBlD, isStrD, isLenD, cBoolO, cStrO, cLenO, oInO, gCallO, itemsD, gJoin, oJoin, cRepr1, tbs, oks, okK_self, okK_n1, okK_n2, okK_n3, okK_n4, okK_n5, okK_n6, okK_n7, sp1, sp2, sp3, oAddI, withM_dM, withM_lit, withI_of, withX_of, withO_of, withT_at, withT_at0, withTL_some, st_set_new, st_set_new0, st_get_new, st_get_new0, List.append_assoc, Nat.add_assoc, st_new, st_new0, stS_new, stS_new0, gsRaise0, gsRaise1, gsTryT, gFldE, cIsiE, isiEx, gDict0, gBM, isTupD, mSplit, mStarts, mTxt0, oRep, oMulS, gSliceK, oSlK, gRepl, ggUnl, gLam, gAct, gMakeV, gCon, gCallO, giEnumS, oInF, flatD, eqF, List.map_cons, List.map_nil, List.replicate, List.length_cons, List.length_nil, List.length_append, List.length_set, List.cons_append, List.nil_append, List.getElem?_cons_zero, List.getElem?_cons_succ, List.set_cons_zero, List.set_cons_succ, List.lookup, List.all_cons, List.all_nil, List.mem_cons, List.not_mem_nil, or_false, Nat.reduceAdd, Nat.reduceSub, Nat.zero_add, Nat.add_zero, beq_self_eq_true, Bool.and_true, Bool.true_and, Bool.not_true, Bool.not_false, if_true, if_false, Bool.false_eq_true, decide_true, decide_false, and_true, true_and, Nat.reduceLeDiff, String.reduceEq, String.reduceNe, String.reduceBEq, String.reduceBNe, Int.reduceNeg, Int.reduceLT, Int.reduceLE, Int.reduceAdd, Int.reduceMul, Int.reduceMod, Int.reducePow, reduceIte, false_or, true_or, or_true, or_self, false_and, and_false, Bool.or_false, Bool.false_or, Bool.true_or, Bool.or_true, Bool.and_false, Bool.false_and, decide_eq_true_eq, Bool.not_eq_true, Int.toNat_zero, Int.reduceToNat, Int.toNat_natCast, Int.reduceLE, Int.reduceLT, oEq_int, oNe_int, ↓reduceIte, Nat.lt_irrefl,  oEq_strs, oEq_int, List.any_cons, List.any_nil, one_str]
        have eO : (83 == p || (82 == p || 114 == p)) = okC p := by
          unfold okC
          rw [Bool.eq_iff_iff]; simp; omega
        rw [eO]
        cases hO : okC p with
        | false =>
          refine bad ?_
          unfold okAt
          rw [hp]; simp [hO]
        | true =>
          simp only [Body, gsNx, gsSeq, gsAsg, gsPar2, gsRet, gsRetN, gsDrop, gsIf, gsBrk, gsCt, gsAug, gsFld, gsNever, gsFor, gC, gV, gNil, gCons, gTup, gLst, gBin, gUn, gChain, gAndV, gOrV, gNotV, gIfE, gCall, gBlt, gMake, gMeth, gFld, gProp, gtV, gtT, truD, gtAnd, gtOr, gtNot, gtYes, oAdd, oSub, oMul, oMod, oFdiv, oFdivW, oPow, oLt, oLe, oGt, oGe, uNeg, oIs, oIsNot, ggNil, ggCons, ggTup, ggP, ggSub, oSetIx, runP, runPs, putG, giLst, giTup, giStr, giRng1, giRng2, gLc, wipeG, atG, oIx, goNone, goSome, gSlice, oSl, cutG, sIxG, cLen, cMax2, cMin2, cAbs, cStr, cBool, cInt, cTuple, cList, cIsi, isiB, isiO, tyD_obj, tyD_non, tyD_bl, tyD_int, tyD_str, tyD_tup, tyD_rol, tyO, oOwn, oOwnB, oOwnU, cOwn, isBlD, isStrD, isLenD, cBoolO, cStrO, cLenO, oInO, gCallO, itemsD, gJoin, oJoin, cRepr1, tbs, oks, okK_self, okK_n1, okK_n2, okK_n3, okK_n4, okK_n5, okK_n6, okK_n7, sp1, sp2, sp3, oAddI, withM_dM, withM_lit, withI_of, withX_of, withO_of, withT_at, withT_at0, withTL_some, st_set_new, st_set_new0, st_get_new, st_get_new0, List.append_assoc, Nat.add_assoc, st_new, st_new0, stS_new, stS_new0, gsRaise0, gsRaise1, gsTryT, gFldE, cIsiE, isiEx, gDict0, gBM, isTupD, mSplit, mStarts, mTxt0, oRep, oMulS, gSliceK, oSlK, gRepl, ggUnl, gLam, gAct, gMakeV, gCon, gCallO, giEnumS, oInF, flatD, eqF, List.map_cons, List.map_nil, List.replicate, List.length_cons, List.length_nil, List.length_append, List.length_set, List.cons_append, List.nil_append, List.getElem?_cons_zero, List.getElem?_cons_succ, List.set_cons_zero, List.set_cons_succ, List.lookup, List.all_cons, List.all_nil, List.mem_cons, List.not_mem_nil, or_false, Nat.reduceAdd, Nat.reduceSub, Nat.zero_add, Nat.add_zero, beq_self_eq_true, Bool.and_true, Bool.true_and, Bool.not_true, Bool.not_false, if_true, if_false, Bool.false_eq_true, decide_true, decide_false, and_true, true_and, Nat.reduceLeDiff, String.reduceEq, String.reduceNe, String.reduceBEq, String.reduceBNe, Int.reduceNeg, Int.reduceLT, Int.reduceLE, Int.reduceAdd, Int.reduceMul, Int.reduceMod, Int.reducePow, reduceIte, false_or, true_or, or_true, or_self, false_and, and_false, Bool.or_false, Bool.false_or, Bool.true_or, Bool.or_true, Bool.and_false, Bool.false_and, decide_eq_true_eq, Bool.not_eq_true, Int.toNat_zero, Int.reduceToNat, Int.toNat_natCast, Int.reduceLE, Int.reduceLT, oEq_int, oNe_int, ↓reduceIte, Nat.lt_irrefl]
          cases i with
          | zero =>
            rw [if_neg (by omega)]
            refine hN _ _ ⟨_, _, rfl, rfl, good ?_⟩
            unfold okAt
            rw [hp]; simp [hO]
          | succ k =>
            rw [if_pos (by omega)]
            refine ⟨by omega, ?_⟩
            rw [if_pos (by omega), show ((((k + 1 : Nat) : Int)) - 1).toNat = k by omega]
            have hk : k < x.cps.toList.length := by omega
            rw [List.getElem?_eq_getElem hk]
            have hok : okAt x.cps.toList (k + 1) = ((p == 83) != (x.cps.toList[k] == 83)) := by
              unfold okAt
              rw [hp]
              simp only [hO, Bool.true_and, List.getElem?_eq_getElem hk]
            refine oEq_bl ?_
            cases hb : (p == 83) == (x.cps.toList[k] == 83) with
            | true =>
              exact bad (by rw [hok, bne, hb]; rfl)
            | false =>
              exact hN _ _ ⟨_, _, rfl, rfl, good (by rw [hok, bne, hb]; rfl)⟩
      · obtain ⟨a, b, rfl, rfl, hj⟩ := hI
        have e : badW x.cps.toList = none := badW_none fun j hh => hj j (by rw [enumD_len]; simpa [signs] using hh)
        rw [e] at h
        simp only [Body, gsNx, gsSeq, gsAsg, gsPar2, gsRet, gsRetN, gsDrop, gsIf, gsBrk, gsCt, gsAug, gsFld, gsNever, gsFor, gC, gV, gNil, gCons, gTup, gLst, gBin, gUn, gChain, gAndV, gOrV, gNotV, gIfE, gCall, gBlt, gMake, gMeth, gFld, gProp, gtV, gtT, truD, gtAnd, gtOr, gtNot, gtYes, oAdd, oSub, oMul, oMod, oFdiv, oFdivW, oPow, oLt, oLe, oGt, oGe, uNeg, oIs, oIsNot, ggNil, ggCons, ggTup, ggP, ggSub, oSetIx, runP, runPs, putG, giLst, giTup, giStr, giRng1, giRng2, gLc, wipeG, atG, oIx, goNone, goSome, gSlice, oSl, cutG, sIxG, cLen, cMax2, cMin2, cAbs, cStr, cBool, cInt, cTuple, cList, cIsi, isiB, isiO, tyD_obj, tyD_non, tyD_bl, tyD_int, tyD_str, tyD_tup, tyD_rol, tyO, oOwn, oOwnB, oOwnU, cOwn, isBlD, isStrD, isLenD, cBoolO, cStrO, cLenO, oInO, gCallO, itemsD, gJoin, oJoin, cRepr1, tbs, oks, okK_self, okK_n1, okK_n2, okK_n3, okK_n4, okK_n5, okK_n6, okK_n7, sp1, sp2, sp3, oAddI, withM_dM, withM_lit, withI_of, withX_of, withO_of, withT_at, withT_at0, withTL_some, st_set_new, st_set_new0, st_get_new, st_get_new0, List.append_assoc, Nat.add_assoc, st_new, st_new0, stS_new, stS_new0, gsRaise0, gsRaise1, gsTryT, gFldE, cIsiE, isiEx, gDict0, gBM, isTupD, mSplit, mStarts, mTxt0, oRep, oMulS, gSliceK, oSlK, gRepl, ggUnl, gLam, gAct, gMakeV, gCon, gCallO, giEnumS, oInF, flatD, eqF, List.map_cons, List.map_nil, List.replicate, List.length_cons, List.length_nil, List.length_append, List.length_set, List.cons_append, List.nil_append, List.getElem?_cons_zero, List.getElem?_cons_succ, List.set_cons_zero, List.set_cons_succ, List.lookup, List.all_cons, List.all_nil, List.mem_cons, List.not_mem_nil, or_false, Nat.reduceAdd, Nat.reduceSub, Nat.zero_add, Nat.add_zero, beq_self_eq_true, Bool.and_true, Bool.true_and, Bool.not_true, Bool.not_false, if_true, if_false, Bool.false_eq_true, decide_true, decide_false, and_true, true_and, Nat.reduceLeDiff, String.reduceEq, String.reduceNe, String.reduceBEq, String.reduceBNe, Int.reduceNeg, Int.reduceLT, Int.reduceLE, Int.reduceAdd, Int.reduceMul, Int.reduceMod, Int.reducePow, reduceIte, false_or, true_or, or_true, or_self, false_and, and_false, Bool.or_false, Bool.false_or, Bool.true_or, Bool.or_true, Bool.and_false, Bool.false_and, decide_eq_true_eq, Bool.not_eq_true, Int.toNat_zero, Int.reduceToNat, Int.toNat_natCast, Int.reduceLE, Int.reduceLT, oEq_int, oNe_int, ↓reduceIte, Nat.lt_irrefl]
        exact cut_same h
    · rw [if_pos (by omega)]
      rw [if_neg hx] at h
      exact cutX_same h
  · have e : badD d = some .non := by
      cases d <;> first | rfl | (simp only [tyD, Option.some.injEq, Sum.inl.injEq] at h1; exact absurd h1.symm ht)
    rw [e] at h
    have e : (t == "str") = false := by simpa using ht
    simp only [Body, gsNx, gsSeq, gsAsg, gsPar2, gsRet, gsRetN, gsDrop, gsIf, gsBrk, gsCt, gsAug, gsFld, gsNever, gsFor, gC, gV, gNil, gCons, gTup, gLst, gBin, gUn, gChain, gAndV, gOrV, gNotV, gIfE, gCall, gBlt, gMake, gMeth, gFld, gProp, gtV, gtT, truD, gtAnd, gtOr, gtNot, gtYes, oAdd, oSub, oMul, oMod, oFdiv, oFdivW, oPow, oLt, oLe, oGt, oGe, uNeg, oIs, oIsNot, ggNil, ggCons, ggTup, ggP, ggSub, oSetIx, runP, runPs, putG, giLst, giTup, giStr, giRng1, giRng2, gLc, wipeG, atG, oIx, goNone, goSome, gSlice, oSl, cutG, sIxG, cLen, cMax2, cMin2, cAbs, cStr, cBool, cInt, cTuple, cList, cIsi, isiB, isiO, tyD_obj, tyD_non, tyD_bl, tyD_int, tyD_str, tyD_tup, tyD_rol, tyO, oOwn, oOwnB, oOwnU, cOwn, isBlD, isStrD, isLenD, cBoolO, cStrO, cLenO, oInO, gCallO, itemsD, gJoin, oJoin, cRepr1, tbs, oks, okK_self, okK_n1, okK_n2, okK_n3, okK_n4, okK_n5, okK_n6, okK_n7, sp1, sp2, sp3, oAddI, withM_dM, withM_lit, withI_of, withX_of, withO_of, withT_at, withT_at0, withTL_some, st_set_new, st_set_new0, st_get_new, st_get_new0, List.append_assoc, Nat.add_assoc, st_new, st_new0, stS_new, stS_new0, gsRaise0, gsRaise1, gsTryT, gFldE, cIsiE, isiEx, gDict0, gBM, isTupD, mSplit, mStarts, mTxt0, oRep, oMulS, gSliceK, oSlK, gRepl, ggUnl, gLam, gAct, gMakeV, gCon, gCallO, giEnumS, oInF, flatD, eqF, List.map_cons, List.map_nil, List.replicate, List.length_cons, List.length_nil, List.length_append, List.length_set, List.cons_append, List.nil_append, List.getElem?_cons_zero, List.getElem?_cons_succ, List.set_cons_zero, List.set_cons_succ, List.lookup, List.all_cons, List.all_nil, List.mem_cons, List.not_mem_nil, or_false, Nat.reduceAdd, Nat.reduceSub, Nat.zero_add, Nat.add_zero, beq_self_eq_true, Bool.and_true, Bool.true_and, Bool.not_true, Bool.not_false, if_true, if_false, Bool.false_eq_true, decide_true, decide_false, and_true, true_and, Nat.reduceLeDiff, String.reduceEq, String.reduceNe, String.reduceBEq, String.reduceBNe, Int.reduceNeg, Int.reduceLT, Int.reduceLE, Int.reduceAdd, Int.reduceMul, Int.reduceMod, Int.reducePow, reduceIte, false_or, true_or, or_true, or_self, false_and, and_false, Bool.or_false, Bool.false_or, Bool.true_or, Bool.or_true, Bool.and_false, Bool.false_and, decide_eq_true_eq, Bool.not_eq_true, Int.toNat_zero, Int.reduceToNat, Int.toNat_natCast, Int.reduceLE, Int.reduceLT, oEq_int, oNe_int, ↓reduceIte, Nat.lt_irrefl,  h1]
    simp only [tyNames, List.mem_cons, List.not_mem_nil, or_false] at h2
    simp only [h2, if_true, e, Bool.false_or]
    exact cutX_same h
theorem badW_inv {l : List Nat} (h : badW l = none) : ∀ c ∈ l, okC c = true := by
  intro c hc
  obtain ⟨i, hi, rfl⟩ := List.mem_iff_getElem.mp hc
  unfold badW at h
  rw [List.find?_eq_none] at h
  have := h i (by simpa using hi)
  unfold okAt at this
  rw [List.getElem?_eq_getElem hi] at this
  simp only [Bool.not_eq_true', Bool.not_eq_false] at this
  cases hO : okC l[i] with
  | true => rfl
  | false => rw [hO] at this; simp at this
theorem len_Turn_of_word (c : CA) (ds : List D) (S : SS) (Q : GQ) (G : GX) (h : sp_Turn_of_word c ds S Q G) : ds.length = 2 := sp2_len ds S Q G h
theorem vc_Turn_of_word (c : CA) (hc : ClsOk c) (ds : List D) (S : SS) (Q : GQ) (G : GX) (h : sp_Turn_of_word c ds S Q G) : Body (b_Turn_of_word c) N_Turn_of_word ds S Q G := by
  refine body2 h fun s d h => ?_
  obtain ⟨rfl, hp, hl, h⟩ := h
  unfold b_Turn_of_word N_Turn_of_word
  simp only [Body, gsNx, gsSeq, gsAsg, gsPar2, gsRet, gsRetN, gsDrop, gsIf, gsBrk, gsCt, gsAug, gsFld, gsNever, gsFor, gC, gV, gNil, gCons, gTup, gLst, gBin, gUn, gChain, gAndV, gOrV, gNotV, gIfE, gCall, gBlt, gMake, gMeth, gFld, gProp, gtV, gtT, truD, gtAnd, gtOr, gtNot, gtYes, oAdd, oSub, oMul, oMod, oFdiv, oFdivW, oPow, oLt, oLe, oGt, oGe, uNeg, oIs, oIsNot, ggNil, ggCons, ggTup, ggP, ggSub, oSetIx, runP, runPs, putG, giLst, giTup, giStr, giRng1, giRng2, gLc, wipeG, atG, oIx, goNone, goSome, gSlice, oSl, cutG, sIxG, cLen, cMax2, cMin2, cAbs, cStr, cBool, cInt, cTuple, cList, cIsi, isiB, isiO, tyD_obj, tyD_non, tyD_bl, tyD_int, tyD_str, tyD_tup, tyD_rol, tyO, oOwn, oOwnB, oOwnU, cOwn, isBlD, isStrD, isLenD, cBoolO, cStrO, cLenO, oInO, gCallO, itemsD, gJoin, oJoin, cRepr1, tbs, oks, okK_self, okK_n1, okK_n2, okK_n3, okK_n4, okK_n5, okK_n6, okK_n7, sp1, sp2, sp3, oAddI, withM_dM, withM_lit, withI_of, withX_of, withO_of, withT_at, withT_at0, withTL_some, st_set_new, st_set_new0, st_get_new, st_get_new0, List.append_assoc, Nat.add_assoc, st_new, st_new0, stS_new, stS_new0, gsRaise0, gsRaise1, gsTryT, gFldE, cIsiE, isiEx, gDict0, gBM, isTupD, mSplit, mStarts, mTxt0, oRep, oMulS, gSliceK, oSlK, gRepl, ggUnl, gLam, gAct, gMakeV, gCon, gCallO, giEnumS, oInF, flatD, eqF, List.map_cons, List.map_nil, List.replicate, List.length_cons, List.length_nil, List.length_append, List.length_set, List.cons_append, List.nil_append, List.getElem?_cons_zero, List.getElem?_cons_succ, List.set_cons_zero, List.set_cons_succ, List.lookup, List.all_cons, List.all_nil, List.mem_cons, List.not_mem_nil, or_false, Nat.reduceAdd, Nat.reduceSub, Nat.zero_add, Nat.add_zero, beq_self_eq_true, Bool.and_true, Bool.true_and, Bool.not_true, Bool.not_false, if_true, if_false, Bool.false_eq_true, decide_true, decide_false, and_true, true_and, Nat.reduceLeDiff, String.reduceEq, String.reduceNe, String.reduceBEq, String.reduceBNe, Int.reduceNeg, Int.reduceLT, Int.reduceLE, Int.reduceAdd, Int.reduceMul, Int.reduceMod, Int.reducePow, reduceIte, false_or, true_or, or_true, or_self, false_and, and_false, Bool.or_false, Bool.false_or, Bool.true_or, Bool.or_true, Bool.and_false, Bool.false_and, decide_eq_true_eq, Bool.not_eq_true, Int.toNat_zero, Int.reduceToNat, Int.toNat_natCast, Int.reduceLE, Int.reduceLT, oEq_int, oNe_int, ↓reduceIte, Nat.lt_irrefl,  e_need_word]
  refine ⟨hp, fun x e => by have := hl x e; omega, ?_⟩
  cases hb : badD d with
  | some e =>
    rw [hb] at h
    exact cutX_same h
  | none =>
    rw [hb] at h
    obtain ⟨x, rfl, h⟩ := withX_inv h
    have hl := hl x rfl
    simp only [Body, gsNx, gsSeq, gsAsg, gsPar2, gsRet, gsRetN, gsDrop, gsIf, gsBrk, gsCt, gsAug, gsFld, gsNever, gsFor, gC, gV, gNil, gCons, gTup, gLst, gBin, gUn, gChain, gAndV, gOrV, gNotV, gIfE, gCall, gBlt, gMake, gMeth, gFld, gProp, gtV, gtT, truD, gtAnd, gtOr, gtNot, gtYes, oAdd, oSub, oMul, oMod, oFdiv, oFdivW, oPow, oLt, oLe, oGt, oGe, uNeg, oIs, oIsNot, ggNil, ggCons, ggTup, ggP, ggSub, oSetIx, runP, runPs, putG, giLst, giTup, giStr, giRng1, giRng2, gLc, wipeG, atG, oIx, goNone, goSome, gSlice, oSl, cutG, sIxG, cLen, cMax2, cMin2, cAbs, cStr, cBool, cInt, cTuple, cList, cIsi, isiB, isiO, tyD_obj, tyD_non, tyD_bl, tyD_int, tyD_str, tyD_tup, tyD_rol, tyO, oOwn, oOwnB, oOwnU, cOwn, isBlD, isStrD, isLenD, cBoolO, cStrO, cLenO, oInO, gCallO, itemsD, gJoin, oJoin, cRepr1, tbs, oks, okK_self, okK_n1, okK_n2, okK_n3, okK_n4, okK_n5, okK_n6, okK_n7, sp1, sp2, sp3, oAddI, withM_dM, withM_lit, withI_of, withX_of, withO_of, withT_at, withT_at0, withTL_some, st_set_new, st_set_new0, st_get_new, st_get_new0, List.append_assoc, Nat.add_assoc, st_new, st_new0, stS_new, stS_new0, gsRaise0, gsRaise1, gsTryT, gFldE, cIsiE, isiEx, gDict0, gBM, isTupD, mSplit, mStarts, mTxt0, oRep, oMulS, gSliceK, oSlK, gRepl, ggUnl, gLam, gAct, gMakeV, gCon, gCallO, giEnumS, oInF, flatD, eqF, List.map_cons, List.map_nil, List.replicate, List.length_cons, List.length_nil, List.length_append, List.length_set, List.cons_append, List.nil_append, List.getElem?_cons_zero, List.getElem?_cons_succ, List.set_cons_zero, List.set_cons_succ, List.lookup, List.all_cons, List.all_nil, List.mem_cons, List.not_mem_nil, or_false, Nat.reduceAdd, Nat.reduceSub, Nat.zero_add, Nat.add_zero, beq_self_eq_true, Bool.and_true, Bool.true_and, Bool.not_true, Bool.not_false, if_true, if_false, Bool.false_eq_true, decide_true, decide_false, and_true, true_and, Nat.reduceLeDiff, String.reduceEq, String.reduceNe, String.reduceBEq, String.reduceBNe, Int.reduceNeg, Int.reduceLT, Int.reduceLE, Int.reduceAdd, Int.reduceMul, Int.reduceMod, Int.reducePow, reduceIte, false_or, true_or, or_true, or_self, false_and, and_false, Bool.or_false, Bool.false_or, Bool.true_or, Bool.or_true, Bool.and_false, Bool.false_and, decide_eq_true_eq, Bool.not_eq_true, Int.toNat_zero, Int.reduceToNat, Int.toNat_natCast, Int.reduceLE, Int.reduceLT, oEq_int, oNe_int, ↓reduceIte, Nat.lt_irrefl,  e_matrix_of_text]
    refine ⟨hl, mk_turn ?_ (matW_ok _) (cut_same h)⟩
    have xl : x.cps.toList.length = x.length := by simp [Str.length]
    exact M.sz_mono (matW_sz _) (by omega)
end Gh

namespace Gh
open PySem
theorem abs_nat (p : Int) : (if p < 0 then -p else p) = ((p.natAbs : Nat) : Int) := by split <;> omega
theorem len_common_divisor (c : CA) (ds : List D) (S : SS) (Q : GQ) (G : GX) (h : sp_common_divisor c ds S Q G) : ds.length = 2 := sp2_len ds S Q G h
theorem vc_common_divisor (c : CA) (hc : ClsOk c) (ds : List D) (S : SS) (Q : GQ) (G : GX) (h : sp_common_divisor c ds S Q G) : Body (b_common_divisor c) N_common_divisor ds S Q G := by
  refine body2 h fun d e h => ?_
  obtain ⟨p, rfl, h2⟩ := withI_inv h
  obtain ⟨q, rfl, h⟩ := withI_inv h2
  unfold b_common_divisor N_common_divisor
  simp only [Body, gsNx, gsSeq, gsAsg, gsPar2, gsRet, gsRetN, gsDrop, gsIf, gsBrk, gsCt, gsAug, gsFld, gsNever, gsFor, gC, gV, gNil, gCons, gTup, gLst, gBin, gUn, gChain, gAndV, gOrV, gNotV, gIfE, gCall, gBlt, gMake, gMeth, gFld, gProp, gtV, gtT, truD, gtAnd, gtOr, gtNot, gtYes, oAdd, oSub, oMul, oMod, oFdiv, oFdivW, oPow, oLt, oLe, oGt, oGe, uNeg, oIs, oIsNot, ggNil, ggCons, ggTup, ggP, ggSub, oSetIx, runP, runPs, putG, giLst, giTup, giStr, giRng1, giRng2, gLc, wipeG, atG, oIx, goNone, goSome, gSlice, oSl, cutG, sIxG, cLen, cMax2, cMin2, cAbs, cStr, cBool, cInt, cTuple, cList, cIsi, isiB, isiO, tyD_obj, tyD_non, tyD_bl, tyD_int, tyD_str, tyD_tup, tyD_rol, tyO, oOwn, oOwnB, oOwnU, cOwn, isBlD, isStrD, isLenD, cBoolO, cStrO, cLenO, oInO, gCallO, itemsD, gJoin, oJoin, cRepr1, tbs, oks, okK_self, okK_n1, okK_n2, okK_n3, okK_n4, okK_n5, okK_n6, okK_n7, sp1, sp2, sp3, oAddI, withM_dM, withM_lit, withI_of, withX_of, withO_of, withT_at, withT_at0, withTL_some, st_set_new, st_set_new0, st_get_new, st_get_new0, List.append_assoc, Nat.add_assoc, st_new, st_new0, stS_new, stS_new0, gsRaise0, gsRaise1, gsTryT, gFldE, cIsiE, isiEx, gDict0, gBM, isTupD, mSplit, mStarts, mTxt0, oRep, oMulS, gSliceK, oSlK, gRepl, ggUnl, gLam, gAct, gMakeV, gCon, gCallO, giEnumS, oInF, flatD, eqF, List.map_cons, List.map_nil, List.replicate, List.length_cons, List.length_nil, List.length_append, List.length_set, List.cons_append, List.nil_append, List.getElem?_cons_zero, List.getElem?_cons_succ, List.set_cons_zero, List.set_cons_succ, List.lookup, List.all_cons, List.all_nil, List.mem_cons, List.not_mem_nil, or_false, Nat.reduceAdd, Nat.reduceSub, Nat.zero_add, Nat.add_zero, beq_self_eq_true, Bool.and_true, Bool.true_and, Bool.not_true, Bool.not_false, if_true, if_false, Bool.false_eq_true, decide_true, decide_false, and_true, true_and, Nat.reduceLeDiff, String.reduceEq, String.reduceNe, String.reduceBEq, String.reduceBNe, Int.reduceNeg, Int.reduceLT, Int.reduceLE, Int.reduceAdd, Int.reduceMul, Int.reduceMod, Int.reducePow, reduceIte, false_or, true_or, or_true, or_self, false_and, and_false, Bool.or_false, Bool.false_or, Bool.true_or, Bool.or_true, Bool.and_false, Bool.false_and, decide_eq_true_eq, Bool.not_eq_true, Int.toNat_zero, Int.reduceToNat, Int.toNat_natCast, Int.reduceLE, Int.reduceLT, oEq_int, oNe_int, ↓reduceIte, Nat.lt_irrefl,  gsWhile, abs_nat]
  refine ⟨fun m σ S' => ∃ x y : Nat, S' = S ∧ σ = [some (.int (x : Int)), some (.int (y : Int))] ∧ Nat.gcd x y = Int.gcd p q ∧ m = y, ⟨_, _, _, rfl, rfl, rfl, rfl⟩, ?_⟩
  rintro m σ S' ⟨x, y, rfl, rfl, hg, rfl⟩
  simp only [Body, gsNx, gsSeq, gsAsg, gsPar2, gsRet, gsRetN, gsDrop, gsIf, gsBrk, gsCt, gsAug, gsFld, gsNever, gsFor, gC, gV, gNil, gCons, gTup, gLst, gBin, gUn, gChain, gAndV, gOrV, gNotV, gIfE, gCall, gBlt, gMake, gMeth, gFld, gProp, gtV, gtT, truD, gtAnd, gtOr, gtNot, gtYes, oAdd, oSub, oMul, oMod, oFdiv, oFdivW, oPow, oLt, oLe, oGt, oGe, uNeg, oIs, oIsNot, ggNil, ggCons, ggTup, ggP, ggSub, oSetIx, runP, runPs, putG, giLst, giTup, giStr, giRng1, giRng2, gLc, wipeG, atG, oIx, goNone, goSome, gSlice, oSl, cutG, sIxG, cLen, cMax2, cMin2, cAbs, cStr, cBool, cInt, cTuple, cList, cIsi, isiB, isiO, tyD_obj, tyD_non, tyD_bl, tyD_int, tyD_str, tyD_tup, tyD_rol, tyO, oOwn, oOwnB, oOwnU, cOwn, isBlD, isStrD, isLenD, cBoolO, cStrO, cLenO, oInO, gCallO, itemsD, gJoin, oJoin, cRepr1, tbs, oks, okK_self, okK_n1, okK_n2, okK_n3, okK_n4, okK_n5, okK_n6, okK_n7, sp1, sp2, sp3, oAddI, withM_dM, withM_lit, withI_of, withX_of, withO_of, withT_at, withT_at0, withTL_some, st_set_new, st_set_new0, st_get_new, st_get_new0, List.append_assoc, Nat.add_assoc, st_new, st_new0, stS_new, stS_new0, gsRaise0, gsRaise1, gsTryT, gFldE, cIsiE, isiEx, gDict0, gBM, isTupD, mSplit, mStarts, mTxt0, oRep, oMulS, gSliceK, oSlK, gRepl, ggUnl, gLam, gAct, gMakeV, gCon, gCallO, giEnumS, oInF, flatD, eqF, List.map_cons, List.map_nil, List.replicate, List.length_cons, List.length_nil, List.length_append, List.length_set, List.cons_append, List.nil_append, List.getElem?_cons_zero, List.getElem?_cons_succ, List.set_cons_zero, List.set_cons_succ, List.lookup, List.all_cons, List.all_nil, List.mem_cons, List.not_mem_nil, or_false, Nat.reduceAdd, Nat.reduceSub, Nat.zero_add, Nat.add_zero, beq_self_eq_true, Bool.and_true, Bool.true_and, Bool.not_true, Bool.not_false, if_true, if_false, Bool.false_eq_true, decide_true, decide_false, and_true, true_and, Nat.reduceLeDiff, String.reduceEq, String.reduceNe, String.reduceBEq, String.reduceBNe, Int.reduceNeg, Int.reduceLT, Int.reduceLE, Int.reduceAdd, Int.reduceMul, Int.reduceMod, Int.reducePow, reduceIte, false_or, true_or, or_true, or_self, false_and, and_false, Bool.or_false, Bool.false_or, Bool.true_or, Bool.or_true, Bool.and_false, Bool.false_and, decide_eq_true_eq, Bool.not_eq_true, Int.toNat_zero, Int.reduceToNat, Int.toNat_natCast, Int.reduceLE, Int.reduceLT, oEq_int, oNe_int, ↓reduceIte, Nat.lt_irrefl]
  by_cases hy : 0 < m
  · rw [if_pos (by omega)]
    refine ⟨fun σ' S'' => ∃ m', m' < m ∧ ∃ x y : Nat, S'' = S' ∧ σ' = [some (.int (x : Int)), some (.int (y : Int))] ∧ Nat.gcd x y = Int.gcd p q ∧ m' = y, fun σ' S'' h => h, by omega, x % m, Nat.mod_lt _ hy, m, x % m, rfl, ?_, ?_, rfl⟩
    · rw [Int.natCast_emod]
    · rw [← hg, Nat.gcd_comm x m, Nat.gcd_rec m x, Nat.gcd_comm]
  · rw [if_neg (by omega)]
    obtain rfl : m = 0 := by omega
    have e : x = Int.gcd p q := by rw [← hg, Nat.gcd_zero_right]
    rw [e]
    exact cut_same h
theorem len_is_fraction (c : CA) (ds : List D) (S : SS) (Q : GQ) (G : GX) (h : sp_is_fraction c ds S Q G) : ds.length = 1 := sp1_len ds S Q G h
theorem oEq_F {p q u v : Int} {S : SS} {Q : GQ} (h : Q (.bl (decide (p = u ∧ q = v))) S) : oEq (.tup [.int p, .int q]) (.tup [.int u, .int v]) S Q := by
  have e : PyData.eqv (.tuple [.int p, .int q]) (.tuple [.int u, .int v]) = decide (p = u ∧ q = v) := by
    rw [Bool.eq_iff_iff]
    simp [PyData.eqv, PyData.eqvAll]
  exact .inl ⟨.tuple [.int p, .int q], .tuple [.int u, .int v], rfl, rfl, rfl, rfl, by rw [e]; exact h⟩
theorem oNe_F {p q u v : Int} {S : SS} {Q : GQ} (h : Q (.bl (!decide (p = u ∧ q = v))) S) : oNe (.tup [.int p, .int q]) (.tup [.int u, .int v]) S Q := by
  have e : PyData.eqv (.tuple [.int p, .int q]) (.tuple [.int u, .int v]) = decide (p = u ∧ q = v) := by
    rw [Bool.eq_iff_iff]
    simp [PyData.eqv, PyData.eqvAll]
  exact .inl ⟨.tuple [.int p, .int q], .tuple [.int u, .int v], rfl, rfl, rfl, rfl, by rw [e]; exact h⟩
theorem vc_is_fraction (c : CA) (hc : ClsOk c) (ds : List D) (S : SS) (Q : GQ) (G : GX) (h : sp_is_fraction c ds S Q G) : Body (b_is_fraction c) N_is_fraction ds S Q G := by
  refine body1 h fun d h => ?_
  unfold b_is_fraction N_is_fraction
  rcases h with ⟨p, q, rfl, h⟩ | ⟨⟨hw, hn⟩, h⟩
  · unfold dF
    simp only [Body, gsNx, gsSeq, gsAsg, gsPar2, gsRet, gsRetN, gsDrop, gsIf, gsBrk, gsCt, gsAug, gsFld, gsNever, gsFor, gC, gV, gNil, gCons, gTup, gLst, gBin, gUn, gChain, gAndV, gOrV, gNotV, gIfE, gCall, gBlt, gMake, gMeth, gFld, gProp, gtV, gtT, truD, gtAnd, gtOr, gtNot, gtYes, oAdd, oSub, oMul, oMod, oFdiv, oFdivW, oPow, oLt, oLe, oGt, oGe, uNeg, oIs, oIsNot, ggNil, ggCons, ggTup, ggP, ggSub, oSetIx, runP, runPs, putG, giLst, giTup, giStr, giRng1, giRng2, gLc, wipeG, atG, oIx, goNone, goSome, gSlice, oSl, cutG, sIxG, cLen, cMax2, cMin2, cAbs, cStr, cBool, cInt, cTuple, cList, cIsi, isiB, isiO, tyD_obj, tyD_non, tyD_bl, tyD_int, tyD_str, tyD_tup, tyD_rol, tyO, oOwn, oOwnB, oOwnU, cOwn, isBlD, isStrD, isLenD, cBoolO, cStrO, cLenO, oInO, gCallO, itemsD, gJoin, oJoin, cRepr1, tbs, oks, okK_self, okK_n1, okK_n2, okK_n3, okK_n4, okK_n5, okK_n6, okK_n7, sp1, sp2, sp3, oAddI, withM_dM, withM_lit, withI_of, withX_of, withO_of, withT_at, withT_at0, withTL_some, st_set_new, st_set_new0, st_get_new, st_get_new0, List.append_assoc, Nat.add_assoc, st_new, st_new0, stS_new, stS_new0, gsRaise0, gsRaise1, gsTryT, gFldE, cIsiE, isiEx, gDict0, gBM, isTupD, mSplit, mStarts, mTxt0, oRep, oMulS, gSliceK, oSlK, gRepl, ggUnl, gLam, gAct, gMakeV, gCon, gCallO, giEnumS, oInF, flatD, eqF, List.map_cons, List.map_nil, List.replicate, List.length_cons, List.length_nil, List.length_append, List.length_set, List.cons_append, List.nil_append, List.getElem?_cons_zero, List.getElem?_cons_succ, List.set_cons_zero, List.set_cons_succ, List.lookup, List.all_cons, List.all_nil, List.mem_cons, List.not_mem_nil, or_false, Nat.reduceAdd, Nat.reduceSub, Nat.zero_add, Nat.add_zero, beq_self_eq_true, Bool.and_true, Bool.true_and, Bool.not_true, Bool.not_false, if_true, if_false, Bool.false_eq_true, decide_true, decide_false, and_true, true_and, Nat.reduceLeDiff, String.reduceEq, String.reduceNe, String.reduceBEq, String.reduceBNe, Int.reduceNeg, Int.reduceLT, Int.reduceLE, Int.reduceAdd, Int.reduceMul, Int.reduceMod, Int.reducePow, reduceIte, false_or, true_or, or_true, or_self, false_and, and_false, Bool.or_false, Bool.false_or, Bool.true_or, Bool.or_true, Bool.and_false, Bool.false_and, decide_eq_true_eq, Bool.not_eq_true, Int.toNat_zero, Int.reduceToNat, Int.toNat_natCast, Int.reduceLE, Int.reduceLT, oEq_int, oNe_int, ↓reduceIte, Nat.lt_irrefl,  e_is_pair, isP, isI]
    refine ⟨wf1_int, oEq_F ?_⟩
    by_cases h1 : p = 1 ∧ q = 0
    · rw [decide_eq_true h1]
      exact cut_same (h true ⟨fun _ => .inl h1, fun _ => rfl⟩)
    · rw [decide_eq_false h1]
      simp only [Body, gsNx, gsSeq, gsAsg, gsPar2, gsRet, gsRetN, gsDrop, gsIf, gsBrk, gsCt, gsAug, gsFld, gsNever, gsFor, gC, gV, gNil, gCons, gTup, gLst, gBin, gUn, gChain, gAndV, gOrV, gNotV, gIfE, gCall, gBlt, gMake, gMeth, gFld, gProp, gtV, gtT, truD, gtAnd, gtOr, gtNot, gtYes, oAdd, oSub, oMul, oMod, oFdiv, oFdivW, oPow, oLt, oLe, oGt, oGe, uNeg, oIs, oIsNot, ggNil, ggCons, ggTup, ggP, ggSub, oSetIx, runP, runPs, putG, giLst, giTup, giStr, giRng1, giRng2, gLc, wipeG, atG, oIx, goNone, goSome, gSlice, oSl, cutG, sIxG, cLen, cMax2, cMin2, cAbs, cStr, cBool, cInt, cTuple, cList, cIsi, isiB, isiO, tyD_obj, tyD_non, tyD_bl, tyD_int, tyD_str, tyD_tup, tyD_rol, tyO, oOwn, oOwnB, oOwnU, cOwn, isBlD, isStrD, isLenD, cBoolO, cStrO, cLenO, oInO, gCallO, itemsD, gJoin, oJoin, cRepr1, tbs, oks, okK_self, okK_n1, okK_n2, okK_n3, okK_n4, okK_n5, okK_n6, okK_n7, sp1, sp2, sp3, oAddI, withM_dM, withM_lit, withI_of, withX_of, withO_of, withT_at, withT_at0, withTL_some, st_set_new, st_set_new0, st_get_new, st_get_new0, List.append_assoc, Nat.add_assoc, st_new, st_new0, stS_new, stS_new0, gsRaise0, gsRaise1, gsTryT, gFldE, cIsiE, isiEx, gDict0, gBM, isTupD, mSplit, mStarts, mTxt0, oRep, oMulS, gSliceK, oSlK, gRepl, ggUnl, gLam, gAct, gMakeV, gCon, gCallO, giEnumS, oInF, flatD, eqF, List.map_cons, List.map_nil, List.replicate, List.length_cons, List.length_nil, List.length_append, List.length_set, List.cons_append, List.nil_append, List.getElem?_cons_zero, List.getElem?_cons_succ, List.set_cons_zero, List.set_cons_succ, List.lookup, List.all_cons, List.all_nil, List.mem_cons, List.not_mem_nil, or_false, Nat.reduceAdd, Nat.reduceSub, Nat.zero_add, Nat.add_zero, beq_self_eq_true, Bool.and_true, Bool.true_and, Bool.not_true, Bool.not_false, if_true, if_false, Bool.false_eq_true, decide_true, decide_false, and_true, true_and, Nat.reduceLeDiff, String.reduceEq, String.reduceNe, String.reduceBEq, String.reduceBNe, Int.reduceNeg, Int.reduceLT, Int.reduceLE, Int.reduceAdd, Int.reduceMul, Int.reduceMod, Int.reducePow, reduceIte, false_or, true_or, or_true, or_self, false_and, and_false, Bool.or_false, Bool.false_or, Bool.true_or, Bool.or_true, Bool.and_false, Bool.false_and, decide_eq_true_eq, Bool.not_eq_true, Int.toNat_zero, Int.reduceToNat, Int.toNat_natCast, Int.reduceLE, Int.reduceLT, oEq_int, oNe_int, ↓reduceIte, Nat.lt_irrefl]
      by_cases h2 : 0 < q
      · rw [decide_eq_true h2]
        simp only [Body, gsNx, gsSeq, gsAsg, gsPar2, gsRet, gsRetN, gsDrop, gsIf, gsBrk, gsCt, gsAug, gsFld, gsNever, gsFor, gC, gV, gNil, gCons, gTup, gLst, gBin, gUn, gChain, gAndV, gOrV, gNotV, gIfE, gCall, gBlt, gMake, gMeth, gFld, gProp, gtV, gtT, truD, gtAnd, gtOr, gtNot, gtYes, oAdd, oSub, oMul, oMod, oFdiv, oFdivW, oPow, oLt, oLe, oGt, oGe, uNeg, oIs, oIsNot, ggNil, ggCons, ggTup, ggP, ggSub, oSetIx, runP, runPs, putG, giLst, giTup, giStr, giRng1, giRng2, gLc, wipeG, atG, oIx, goNone, goSome, gSlice, oSl, cutG, sIxG, cLen, cMax2, cMin2, cAbs, cStr, cBool, cInt, cTuple, cList, cIsi, isiB, isiO, tyD_obj, tyD_non, tyD_bl, tyD_int, tyD_str, tyD_tup, tyD_rol, tyO, oOwn, oOwnB, oOwnU, cOwn, isBlD, isStrD, isLenD, cBoolO, cStrO, cLenO, oInO, gCallO, itemsD, gJoin, oJoin, cRepr1, tbs, oks, okK_self, okK_n1, okK_n2, okK_n3, okK_n4, okK_n5, okK_n6, okK_n7, sp1, sp2, sp3, oAddI, withM_dM, withM_lit, withI_of, withX_of, withO_of, withT_at, withT_at0, withTL_some, st_set_new, st_set_new0, st_get_new, st_get_new0, List.append_assoc, Nat.add_assoc, st_new, st_new0, stS_new, stS_new0, gsRaise0, gsRaise1, gsTryT, gFldE, cIsiE, isiEx, gDict0, gBM, isTupD, mSplit, mStarts, mTxt0, oRep, oMulS, gSliceK, oSlK, gRepl, ggUnl, gLam, gAct, gMakeV, gCon, gCallO, giEnumS, oInF, flatD, eqF, List.map_cons, List.map_nil, List.replicate, List.length_cons, List.length_nil, List.length_append, List.length_set, List.cons_append, List.nil_append, List.getElem?_cons_zero, List.getElem?_cons_succ, List.set_cons_zero, List.set_cons_succ, List.lookup, List.all_cons, List.all_nil, List.mem_cons, List.not_mem_nil, or_false, Nat.reduceAdd, Nat.reduceSub, Nat.zero_add, Nat.add_zero, beq_self_eq_true, Bool.and_true, Bool.true_and, Bool.not_true, Bool.not_false, if_true, if_false, Bool.false_eq_true, decide_true, decide_false, and_true, true_and, Nat.reduceLeDiff, String.reduceEq, String.reduceNe, String.reduceBEq, String.reduceBNe, Int.reduceNeg, Int.reduceLT, Int.reduceLE, Int.reduceAdd, Int.reduceMul, Int.reduceMod, Int.reducePow, reduceIte, false_or, true_or, or_true, or_self, false_and, and_false, Bool.or_false, Bool.false_or, Bool.true_or, Bool.or_true, Bool.and_false, Bool.false_and, decide_eq_true_eq, Bool.not_eq_true, Int.toNat_zero, Int.reduceToNat, Int.toNat_natCast, Int.reduceLE, Int.reduceLT, oEq_int, oNe_int, ↓reduceIte, Nat.lt_irrefl,  e_common_divisor]
        refine cut_same (h _ ?_)
        rw [decide_eq_true_eq]
        constructor
        · intro e; exact .inr ⟨h2, by omega⟩
        · rintro (e | ⟨_, e⟩)
          · exact absurd e h1
          · omega
      · rw [decide_eq_false h2]
        simp only [Body, gsNx, gsSeq, gsAsg, gsPar2, gsRet, gsRetN, gsDrop, gsIf, gsBrk, gsCt, gsAug, gsFld, gsNever, gsFor, gC, gV, gNil, gCons, gTup, gLst, gBin, gUn, gChain, gAndV, gOrV, gNotV, gIfE, gCall, gBlt, gMake, gMeth, gFld, gProp, gtV, gtT, truD, gtAnd, gtOr, gtNot, gtYes, oAdd, oSub, oMul, oMod, oFdiv, oFdivW, oPow, oLt, oLe, oGt, oGe, uNeg, oIs, oIsNot, ggNil, ggCons, ggTup, ggP, ggSub, oSetIx, runP, runPs, putG, giLst, giTup, giStr, giRng1, giRng2, gLc, wipeG, atG, oIx, goNone, goSome, gSlice, oSl, cutG, sIxG, cLen, cMax2, cMin2, cAbs, cStr, cBool, cInt, cTuple, cList, cIsi, isiB, isiO, tyD_obj, tyD_non, tyD_bl, tyD_int, tyD_str, tyD_tup, tyD_rol, tyO, oOwn, oOwnB, oOwnU, cOwn, isBlD, isStrD, isLenD, cBoolO, cStrO, cLenO, oInO, gCallO, itemsD, gJoin, oJoin, cRepr1, tbs, oks, okK_self, okK_n1, okK_n2, okK_n3, okK_n4, okK_n5, okK_n6, okK_n7, sp1, sp2, sp3, oAddI, withM_dM, withM_lit, withI_of, withX_of, withO_of, withT_at, withT_at0, withTL_some, st_set_new, st_set_new0, st_get_new, st_get_new0, List.append_assoc, Nat.add_assoc, st_new, st_new0, stS_new, stS_new0, gsRaise0, gsRaise1, gsTryT, gFldE, cIsiE, isiEx, gDict0, gBM, isTupD, mSplit, mStarts, mTxt0, oRep, oMulS, gSliceK, oSlK, gRepl, ggUnl, gLam, gAct, gMakeV, gCon, gCallO, giEnumS, oInF, flatD, eqF, List.map_cons, List.map_nil, List.replicate, List.length_cons, List.length_nil, List.length_append, List.length_set, List.cons_append, List.nil_append, List.getElem?_cons_zero, List.getElem?_cons_succ, List.set_cons_zero, List.set_cons_succ, List.lookup, List.all_cons, List.all_nil, List.mem_cons, List.not_mem_nil, or_false, Nat.reduceAdd, Nat.reduceSub, Nat.zero_add, Nat.add_zero, beq_self_eq_true, Bool.and_true, Bool.true_and, Bool.not_true, Bool.not_false, if_true, if_false, Bool.false_eq_true, decide_true, decide_false, and_true, true_and, Nat.reduceLeDiff, String.reduceEq, String.reduceNe, String.reduceBEq, String.reduceBNe, Int.reduceNeg, Int.reduceLT, Int.reduceLE, Int.reduceAdd, Int.reduceMul, Int.reduceMod, Int.reducePow, reduceIte, false_or, true_or, or_true, or_self, false_and, and_false, Bool.or_false, Bool.false_or, Bool.true_or, Bool.or_true, Bool.and_false, Bool.false_and, decide_eq_true_eq, Bool.not_eq_true, Int.toNat_zero, Int.reduceToNat, Int.toNat_natCast, Int.reduceLE, Int.reduceLT, oEq_int, oNe_int, ↓reduceIte, Nat.lt_irrefl]
        refine cut_same (h false ⟨(fun e => nomatch e), fun e => ?_⟩)
        rcases e with e | ⟨e, _⟩
        · exact absurd e h1
        · exact absurd e h2
  · simp only [Body, gsNx, gsSeq, gsAsg, gsPar2, gsRet, gsRetN, gsDrop, gsIf, gsBrk, gsCt, gsAug, gsFld, gsNever, gsFor, gC, gV, gNil, gCons, gTup, gLst, gBin, gUn, gChain, gAndV, gOrV, gNotV, gIfE, gCall, gBlt, gMake, gMeth, gFld, gProp, gtV, gtT, truD, gtAnd, gtOr, gtNot, gtYes, oAdd, oSub, oMul, oMod, oFdiv, oFdivW, oPow, oLt, oLe, oGt, oGe, uNeg, oIs, oIsNot, ggNil, ggCons, ggTup, ggP, ggSub, oSetIx, runP, runPs, putG, giLst, giTup, giStr, giRng1, giRng2, gLc, wipeG, atG, oIx, goNone, goSome, gSlice, oSl, cutG, sIxG, cLen, cMax2, cMin2, cAbs, cStr, cBool, cInt, cTuple, cList, cIsi, isiB, isiO, tyD_obj, tyD_non, tyD_bl, tyD_int, tyD_str, tyD_tup, tyD_rol, tyO, oOwn, oOwnB, oOwnU, cOwn, isBlD, isStrD, isLenD, cBoolO, cStrO, cLenO, oInO, gCallO, itemsD, gJoin, oJoin, cRepr1, tbs, oks, okK_self, okK_n1, okK_n2, okK_n3, okK_n4, okK_n5, okK_n6, okK_n7, sp1, sp2, sp3, oAddI, withM_dM, withM_lit, withI_of, withX_of, withO_of, withT_at, withT_at0, withTL_some, st_set_new, st_set_new0, st_get_new, st_get_new0, List.append_assoc, Nat.add_assoc, st_new, st_new0, stS_new, stS_new0, gsRaise0, gsRaise1, gsTryT, gFldE, cIsiE, isiEx, gDict0, gBM, isTupD, mSplit, mStarts, mTxt0, oRep, oMulS, gSliceK, oSlK, gRepl, ggUnl, gLam, gAct, gMakeV, gCon, gCallO, giEnumS, oInF, flatD, eqF, List.map_cons, List.map_nil, List.replicate, List.length_cons, List.length_nil, List.length_append, List.length_set, List.cons_append, List.nil_append, List.getElem?_cons_zero, List.getElem?_cons_succ, List.set_cons_zero, List.set_cons_succ, List.lookup, List.all_cons, List.all_nil, List.mem_cons, List.not_mem_nil, or_false, Nat.reduceAdd, Nat.reduceSub, Nat.zero_add, Nat.add_zero, beq_self_eq_true, Bool.and_true, Bool.true_and, Bool.not_true, Bool.not_false, if_true, if_false, Bool.false_eq_true, decide_true, decide_false, and_true, true_and, Nat.reduceLeDiff, String.reduceEq, String.reduceNe, String.reduceBEq, String.reduceBNe, Int.reduceNeg, Int.reduceLT, Int.reduceLE, Int.reduceAdd, Int.reduceMul, Int.reduceMod, Int.reducePow, reduceIte, false_or, true_or, or_true, or_self, false_and, and_false, Bool.or_false, Bool.false_or, Bool.true_or, Bool.or_true, Bool.and_false, Bool.false_and, decide_eq_true_eq, Bool.not_eq_true, Int.toNat_zero, Int.reduceToNat, Int.toNat_natCast, Int.reduceLE, Int.reduceLT, oEq_int, oNe_int, ↓reduceIte, Nat.lt_irrefl,  e_is_pair]
    refine ⟨hw, ?_⟩
    have e : isP d = false := by
      cases hp : isP d with
      | false => rfl
      | true =>
        obtain ⟨a, b, rfl⟩ := isP_inv hp
        exact absurd rfl (hn a b)
    rw [e]
    exact cut_same h
theorem len_need_fraction (c : CA) (ds : List D) (S : SS) (Q : GQ) (G : GX) (h : sp_need_fraction c ds S Q G) : ds.length = 1 := sp1_len ds S Q G h
theorem vc_need_fraction (c : CA) (hc : ClsOk c) (ds : List D) (S : SS) (Q : GQ) (G : GX) (h : sp_need_fraction c ds S Q G) : Body (b_need_fraction c) N_need_fraction ds S Q G := by
  refine body1 h fun d h => ?_
  unfold b_need_fraction N_need_fraction
  rcases h with ⟨p, q, rfl, h1, h2⟩ | ⟨hn, h⟩
  · simp only [Body, gsNx, gsSeq, gsAsg, gsPar2, gsRet, gsRetN, gsDrop, gsIf, gsBrk, gsCt, gsAug, gsFld, gsNever, gsFor, gC, gV, gNil, gCons, gTup, gLst, gBin, gUn, gChain, gAndV, gOrV, gNotV, gIfE, gCall, gBlt, gMake, gMeth, gFld, gProp, gtV, gtT, truD, gtAnd, gtOr, gtNot, gtYes, oAdd, oSub, oMul, oMod, oFdiv, oFdivW, oPow, oLt, oLe, oGt, oGe, uNeg, oIs, oIsNot, ggNil, ggCons, ggTup, ggP, ggSub, oSetIx, runP, runPs, putG, giLst, giTup, giStr, giRng1, giRng2, gLc, wipeG, atG, oIx, goNone, goSome, gSlice, oSl, cutG, sIxG, cLen, cMax2, cMin2, cAbs, cStr, cBool, cInt, cTuple, cList, cIsi, isiB, isiO, tyD_obj, tyD_non, tyD_bl, tyD_int, tyD_str, tyD_tup, tyD_rol, tyO, oOwn, oOwnB, oOwnU, cOwn, isBlD, isStrD, isLenD, cBoolO, cStrO, cLenO, oInO, gCallO, itemsD, gJoin, oJoin, cRepr1, tbs, oks, okK_self, okK_n1, okK_n2, okK_n3, okK_n4, okK_n5, okK_n6, okK_n7, sp1, sp2, sp3, oAddI, withM_dM, withM_lit, withI_of, withX_of, withO_of, withT_at, withT_at0, withTL_some, st_set_new, st_set_new0, st_get_new, st_get_new0, List.append_assoc, Nat.add_assoc, st_new, st_new0, stS_new, stS_new0, gsRaise0, gsRaise1, gsTryT, gFldE, cIsiE, isiEx, gDict0, gBM, isTupD, mSplit, mStarts, mTxt0, oRep, oMulS, gSliceK, oSlK, gRepl, ggUnl, gLam, gAct, gMakeV, gCon, gCallO, giEnumS, oInF, flatD, eqF, List.map_cons, List.map_nil, List.replicate, List.length_cons, List.length_nil, List.length_append, List.length_set, List.cons_append, List.nil_append, List.getElem?_cons_zero, List.getElem?_cons_succ, List.set_cons_zero, List.set_cons_succ, List.lookup, List.all_cons, List.all_nil, List.mem_cons, List.not_mem_nil, or_false, Nat.reduceAdd, Nat.reduceSub, Nat.zero_add, Nat.add_zero, beq_self_eq_true, Bool.and_true, Bool.true_and, Bool.not_true, Bool.not_false, if_true, if_false, Bool.false_eq_true, decide_true, decide_false, and_true, true_and, Nat.reduceLeDiff, String.reduceEq, String.reduceNe, String.reduceBEq, String.reduceBNe, Int.reduceNeg, Int.reduceLT, Int.reduceLE, Int.reduceAdd, Int.reduceMul, Int.reduceMod, Int.reducePow, reduceIte, false_or, true_or, or_true, or_self, false_and, and_false, Bool.or_false, Bool.false_or, Bool.true_or, Bool.or_true, Bool.and_false, Bool.false_and, decide_eq_true_eq, Bool.not_eq_true, Int.toNat_zero, Int.reduceToNat, Int.toNat_natCast, Int.reduceLE, Int.reduceLT, oEq_int, oNe_int, ↓reduceIte, Nat.lt_irrefl,  e_is_fraction]
    refine .inl ⟨p, q, rfl, fun b hb => ?_⟩
    cases b with
    | true =>
      simp only [Body, gsNx, gsSeq, gsAsg, gsPar2, gsRet, gsRetN, gsDrop, gsIf, gsBrk, gsCt, gsAug, gsFld, gsNever, gsFor, gC, gV, gNil, gCons, gTup, gLst, gBin, gUn, gChain, gAndV, gOrV, gNotV, gIfE, gCall, gBlt, gMake, gMeth, gFld, gProp, gtV, gtT, truD, gtAnd, gtOr, gtNot, gtYes, oAdd, oSub, oMul, oMod, oFdiv, oFdivW, oPow, oLt, oLe, oGt, oGe, uNeg, oIs, oIsNot, ggNil, ggCons, ggTup, ggP, ggSub, oSetIx, runP, runPs, putG, giLst, giTup, giStr, giRng1, giRng2, gLc, wipeG, atG, oIx, goNone, goSome, gSlice, oSl, cutG, sIxG, cLen, cMax2, cMin2, cAbs, cStr, cBool, cInt, cTuple, cList, cIsi, isiB, isiO, tyD_obj, tyD_non, tyD_bl, tyD_int, tyD_str, tyD_tup, tyD_rol, tyO, oOwn, oOwnB, oOwnU, cOwn, isBlD, isStrD, isLenD, cBoolO, cStrO, cLenO, oInO, gCallO, itemsD, gJoin, oJoin, cRepr1, tbs, oks, okK_self, okK_n1, okK_n2, okK_n3, okK_n4, okK_n5, okK_n6, okK_n7, sp1, sp2, sp3, oAddI, withM_dM, withM_lit, withI_of, withX_of, withO_of, withT_at, withT_at0, withTL_some, st_set_new, st_set_new0, st_get_new, st_get_new0, List.append_assoc, Nat.add_assoc, st_new, st_new0, stS_new, stS_new0, gsRaise0, gsRaise1, gsTryT, gFldE, cIsiE, isiEx, gDict0, gBM, isTupD, mSplit, mStarts, mTxt0, oRep, oMulS, gSliceK, oSlK, gRepl, ggUnl, gLam, gAct, gMakeV, gCon, gCallO, giEnumS, oInF, flatD, eqF, List.map_cons, List.map_nil, List.replicate, List.length_cons, List.length_nil, List.length_append, List.length_set, List.cons_append, List.nil_append, List.getElem?_cons_zero, List.getElem?_cons_succ, List.set_cons_zero, List.set_cons_succ, List.lookup, List.all_cons, List.all_nil, List.mem_cons, List.not_mem_nil, or_false, Nat.reduceAdd, Nat.reduceSub, Nat.zero_add, Nat.add_zero, beq_self_eq_true, Bool.and_true, Bool.true_and, Bool.not_true, Bool.not_false, if_true, if_false, Bool.false_eq_true, decide_true, decide_false, and_true, true_and, Nat.reduceLeDiff, String.reduceEq, String.reduceNe, String.reduceBEq, String.reduceBNe, Int.reduceNeg, Int.reduceLT, Int.reduceLE, Int.reduceAdd, Int.reduceMul, Int.reduceMod, Int.reducePow, reduceIte, false_or, true_or, or_true, or_self, false_and, and_false, Bool.or_false, Bool.false_or, Bool.true_or, Bool.or_true, Bool.and_false, Bool.false_and, decide_eq_true_eq, Bool.not_eq_true, Int.toNat_zero, Int.reduceToNat, Int.toNat_natCast, Int.reduceLE, Int.reduceLT, oEq_int, oNe_int, ↓reduceIte, Nat.lt_irrefl]
      exact cut_same (h1 (hb.mp rfl))
    | false =>
      simp only [Body, gsNx, gsSeq, gsAsg, gsPar2, gsRet, gsRetN, gsDrop, gsIf, gsBrk, gsCt, gsAug, gsFld, gsNever, gsFor, gC, gV, gNil, gCons, gTup, gLst, gBin, gUn, gChain, gAndV, gOrV, gNotV, gIfE, gCall, gBlt, gMake, gMeth, gFld, gProp, gtV, gtT, truD, gtAnd, gtOr, gtNot, gtYes, oAdd, oSub, oMul, oMod, oFdiv, oFdivW, oPow, oLt, oLe, oGt, oGe, uNeg, oIs, oIsNot, ggNil, ggCons, ggTup, ggP, ggSub, oSetIx, runP, runPs, putG, giLst, giTup, giStr, giRng1, giRng2, gLc, wipeG, atG, oIx, goNone, goSome, gSlice, oSl, cutG, sIxG, cLen, cMax2, cMin2, cAbs, cStr, cBool, cInt, cTuple, cList, cIsi, isiB, isiO, tyD_obj, tyD_non, tyD_bl, tyD_int, tyD_str, tyD_tup, tyD_rol, tyO, oOwn, oOwnB, oOwnU, cOwn, isBlD, isStrD, isLenD, cBoolO, cStrO, cLenO, oInO, gCallO, itemsD, gJoin, oJoin, cRepr1, tbs, oks, okK_self, okK_n1, okK_n2, okK_n3, okK_n4, okK_n5, okK_n6, okK_n7, sp1, sp2, sp3, oAddI, withM_dM, withM_lit, withI_of, withX_of, withO_of, withT_at, withT_at0, withTL_some, st_set_new, st_set_new0, st_get_new, st_get_new0, List.append_assoc, Nat.add_assoc, st_new, st_new0, stS_new, stS_new0, gsRaise0, gsRaise1, gsTryT, gFldE, cIsiE, isiEx, gDict0, gBM, isTupD, mSplit, mStarts, mTxt0, oRep, oMulS, gSliceK, oSlK, gRepl, ggUnl, gLam, gAct, gMakeV, gCon, gCallO, giEnumS, oInF, flatD, eqF, List.map_cons, List.map_nil, List.replicate, List.length_cons, List.length_nil, List.length_append, List.length_set, List.cons_append, List.nil_append, List.getElem?_cons_zero, List.getElem?_cons_succ, List.set_cons_zero, List.set_cons_succ, List.lookup, List.all_cons, List.all_nil, List.mem_cons, List.not_mem_nil, or_false, Nat.reduceAdd, Nat.reduceSub, Nat.zero_add, Nat.add_zero, beq_self_eq_true, Bool.and_true, Bool.true_and, Bool.not_true, Bool.not_false, if_true, if_false, Bool.false_eq_true, decide_true, decide_false, and_true, true_and, Nat.reduceLeDiff, String.reduceEq, String.reduceNe, String.reduceBEq, String.reduceBNe, Int.reduceNeg, Int.reduceLT, Int.reduceLE, Int.reduceAdd, Int.reduceMul, Int.reduceMod, Int.reducePow, reduceIte, false_or, true_or, or_true, or_self, false_and, and_false, Bool.or_false, Bool.false_or, Bool.true_or, Bool.or_true, Bool.and_false, Bool.false_and, decide_eq_true_eq, Bool.not_eq_true, Int.toNat_zero, Int.reduceToNat, Int.toNat_natCast, Int.reduceLE, Int.reduceLT, oEq_int, oNe_int, ↓reduceIte, Nat.lt_irrefl]
      exact cutX_same (h2 fun e => nomatch hb.mpr e)
  · simp only [Body, gsNx, gsSeq, gsAsg, gsPar2, gsRet, gsRetN, gsDrop, gsIf, gsBrk, gsCt, gsAug, gsFld, gsNever, gsFor, gC, gV, gNil, gCons, gTup, gLst, gBin, gUn, gChain, gAndV, gOrV, gNotV, gIfE, gCall, gBlt, gMake, gMeth, gFld, gProp, gtV, gtT, truD, gtAnd, gtOr, gtNot, gtYes, oAdd, oSub, oMul, oMod, oFdiv, oFdivW, oPow, oLt, oLe, oGt, oGe, uNeg, oIs, oIsNot, ggNil, ggCons, ggTup, ggP, ggSub, oSetIx, runP, runPs, putG, giLst, giTup, giStr, giRng1, giRng2, gLc, wipeG, atG, oIx, goNone, goSome, gSlice, oSl, cutG, sIxG, cLen, cMax2, cMin2, cAbs, cStr, cBool, cInt, cTuple, cList, cIsi, isiB, isiO, tyD_obj, tyD_non, tyD_bl, tyD_int, tyD_str, tyD_tup, tyD_rol, tyO, oOwn, oOwnB, oOwnU, cOwn, isBlD, isStrD, isLenD, cBoolO, cStrO, cLenO, oInO, gCallO, itemsD, gJoin, oJoin, cRepr1, tbs, oks, okK_self, okK_n1, okK_n2, okK_n3, okK_n4, okK_n5, okK_n6, okK_n7, sp1, sp2, sp3, oAddI, withM_dM, withM_lit, withI_of, withX_of, withO_of, withT_at, withT_at0, withTL_some, st_set_new, st_set_new0, st_get_new, st_get_new0, List.append_assoc, Nat.add_assoc, st_new, st_new0, stS_new, stS_new0, gsRaise0, gsRaise1, gsTryT, gFldE, cIsiE, isiEx, gDict0, gBM, isTupD, mSplit, mStarts, mTxt0, oRep, oMulS, gSliceK, oSlK, gRepl, ggUnl, gLam, gAct, gMakeV, gCon, gCallO, giEnumS, oInF, flatD, eqF, List.map_cons, List.map_nil, List.replicate, List.length_cons, List.length_nil, List.length_append, List.length_set, List.cons_append, List.nil_append, List.getElem?_cons_zero, List.getElem?_cons_succ, List.set_cons_zero, List.set_cons_succ, List.lookup, List.all_cons, List.all_nil, List.mem_cons, List.not_mem_nil, or_false, Nat.reduceAdd, Nat.reduceSub, Nat.zero_add, Nat.add_zero, beq_self_eq_true, Bool.and_true, Bool.true_and, Bool.not_true, Bool.not_false, if_true, if_false, Bool.false_eq_true, decide_true, decide_false, and_true, true_and, Nat.reduceLeDiff, String.reduceEq, String.reduceNe, String.reduceBEq, String.reduceBNe, Int.reduceNeg, Int.reduceLT, Int.reduceLE, Int.reduceAdd, Int.reduceMul, Int.reduceMod, Int.reducePow, reduceIte, false_or, true_or, or_true, or_self, false_and, and_false, Bool.or_false, Bool.false_or, Bool.true_or, Bool.or_true, Bool.and_false, Bool.false_and, decide_eq_true_eq, Bool.not_eq_true, Int.toNat_zero, Int.reduceToNat, Int.toNat_natCast, Int.reduceLE, Int.reduceLT, oEq_int, oNe_int, ↓reduceIte, Nat.lt_irrefl,  e_is_fraction]
    exact .inr ⟨hn, cutX_same h⟩
theorem szF_ok {p q : Int} (h : szF (p, q)) : szOk p ∧ szOk q := by
  have e : 2 ^ 3000 ≤ 2 ^ 400000 := Nat.pow_le_pow_right (by decide) (by decide)
  exact ⟨Nat.lt_of_lt_of_le h.1 e, Nat.lt_of_lt_of_le h.2 e⟩
theorem len_taken_to (c : CA) (ds : List D) (S : SS) (Q : GQ) (G : GX) (h : sp_taken_to c ds S Q G) : ds.length = 2 := sp2_len ds S Q G h
theorem vc_taken_to (c : CA) (hc : ClsOk c) (ds : List D) (S : SS) (Q : GQ) (G : GX) (h : sp_taken_to c ds S Q G) : Body (b_taken_to c) N_taken_to ds S Q G := by
  refine body2 h fun d e h => ?_
  obtain ⟨m, rfl, p, q, rfl, hm, hz, h⟩ := withM_inv h
  have e : gCut S Q (dFp (tk m (p, q))) S := cut_same h
  unfold b_taken_to N_taken_to dM dF
  unfold tk sgnF dFp dF at e
  simp only [Body, gsNx, gsSeq, gsAsg, gsPar2, gsRet, gsRetN, gsDrop, gsIf, gsBrk, gsCt, gsAug, gsFld, gsNever, gsFor, gC, gV, gNil, gCons, gTup, gLst, gBin, gUn, gChain, gAndV, gOrV, gNotV, gIfE, gCall, gBlt, gMake, gMeth, gFld, gProp, gtV, gtT, truD, gtAnd, gtOr, gtNot, gtYes, oAdd, oSub, oMul, oMod, oFdiv, oFdivW, oPow, oLt, oLe, oGt, oGe, uNeg, oIs, oIsNot, ggNil, ggCons, ggTup, ggP, ggSub, oSetIx, runP, runPs, putG, giLst, giTup, giStr, giRng1, giRng2, gLc, wipeG, atG, oIx, goNone, goSome, gSlice, oSl, cutG, sIxG, cLen, cMax2, cMin2, cAbs, cStr, cBool, cInt, cTuple, cList, cIsi, isiB, isiO, tyD_obj, tyD_non, tyD_bl, tyD_int, tyD_str, tyD_tup, tyD_rol, tyO, oOwn, oOwnB, oOwnU, cOwn, isBlD, isStrD, isLenD, cBoolO, cStrO, cLenO, oInO, gCallO, itemsD, gJoin, oJoin, cRepr1, tbs, oks, okK_self, okK_n1, okK_n2, okK_n3, okK_n4, okK_n5, okK_n6, okK_n7, sp1, sp2, sp3, oAddI, withM_dM, withM_lit, withI_of, withX_of, withO_of, withT_at, withT_at0, withTL_some, st_set_new, st_set_new0, st_get_new, st_get_new0, List.append_assoc, Nat.add_assoc, st_new, st_new0, stS_new, stS_new0, gsRaise0, gsRaise1, gsTryT, gFldE, cIsiE, isiEx, gDict0, gBM, isTupD, mSplit, mStarts, mTxt0, oRep, oMulS, gSliceK, oSlK, gRepl, ggUnl, gLam, gAct, gMakeV, gCon, gCallO, giEnumS, oInF, flatD, eqF, List.map_cons, List.map_nil, List.replicate, List.length_cons, List.length_nil, List.length_append, List.length_set, List.cons_append, List.nil_append, List.getElem?_cons_zero, List.getElem?_cons_succ, List.set_cons_zero, List.set_cons_succ, List.lookup, List.all_cons, List.all_nil, List.mem_cons, List.not_mem_nil, or_false, Nat.reduceAdd, Nat.reduceSub, Nat.zero_add, Nat.add_zero, beq_self_eq_true, Bool.and_true, Bool.true_and, Bool.not_true, Bool.not_false, if_true, if_false, Bool.false_eq_true, decide_true, decide_false, and_true, true_and, Nat.reduceLeDiff, String.reduceEq, String.reduceNe, String.reduceBEq, String.reduceBNe, Int.reduceNeg, Int.reduceLT, Int.reduceLE, Int.reduceAdd, Int.reduceMul, Int.reduceMod, Int.reducePow, reduceIte, false_or, true_or, or_true, or_self, false_and, and_false, Bool.or_false, Bool.false_or, Bool.true_or, Bool.or_true, Bool.and_false, Bool.false_and, decide_eq_true_eq, Bool.not_eq_true, Int.toNat_zero, Int.reduceToNat, Int.toNat_natCast, Int.reduceLE, Int.reduceLT, oEq_int, oNe_int, ↓reduceIte, Nat.lt_irrefl]
  obtain ⟨z1, z2, z3, z4⟩ := M.sz_ok hm (by decide)
  obtain ⟨y1, y2⟩ := szF_ok hz
  refine ⟨z1, y1, z2, y2, z3, y1, z4, y2, ?_⟩
  generalize m.a * p + m.b * q = A at e ⊢
  generalize m.c * p + m.d * q = B at e ⊢
  by_cases h1 : 0 < B
  · simpa [h1] using e
  · by_cases h2 : B = 0 <;> by_cases h3 : 0 < A <;> simpa [h1, h2, h3] using e
theorem len__law_moved (c : CA) (ds : List D) (S : SS) (Q : GQ) (G : GX) (h : sp__law_moved c ds S Q G) : ds.length = 2 := sp2_len ds S Q G h
theorem vc__law_moved (c : CA) (hc : ClsOk c) (ds : List D) (S : SS) (Q : GQ) (G : GX) (h : sp__law_moved c ds S Q G) : Body (b__law_moved c) N__law_moved ds S Q G := by
  refine body2 h fun d e h => ?_
  obtain ⟨m, rfl, p, q, rfl, hm, hz, h⟩ := withM_inv h
  have e : gCut S Q (dFp (tk m (p, q))) S := cut_same h
  unfold b__law_moved N__law_moved dM dF
  unfold tk sgnF dFp dF at e
  simp only [Body, gsNx, gsSeq, gsAsg, gsPar2, gsRet, gsRetN, gsDrop, gsIf, gsBrk, gsCt, gsAug, gsFld, gsNever, gsFor, gC, gV, gNil, gCons, gTup, gLst, gBin, gUn, gChain, gAndV, gOrV, gNotV, gIfE, gCall, gBlt, gMake, gMeth, gFld, gProp, gtV, gtT, truD, gtAnd, gtOr, gtNot, gtYes, oAdd, oSub, oMul, oMod, oFdiv, oFdivW, oPow, oLt, oLe, oGt, oGe, uNeg, oIs, oIsNot, ggNil, ggCons, ggTup, ggP, ggSub, oSetIx, runP, runPs, putG, giLst, giTup, giStr, giRng1, giRng2, gLc, wipeG, atG, oIx, goNone, goSome, gSlice, oSl, cutG, sIxG, cLen, cMax2, cMin2, cAbs, cStr, cBool, cInt, cTuple, cList, cIsi, isiB, isiO, tyD_obj, tyD_non, tyD_bl, tyD_int, tyD_str, tyD_tup, tyD_rol, tyO, oOwn, oOwnB, oOwnU, cOwn, isBlD, isStrD, isLenD, cBoolO, cStrO, cLenO, oInO, gCallO, itemsD, gJoin, oJoin, cRepr1, tbs, oks, okK_self, okK_n1, okK_n2, okK_n3, okK_n4, okK_n5, okK_n6, okK_n7, sp1, sp2, sp3, oAddI, withM_dM, withM_lit, withI_of, withX_of, withO_of, withT_at, withT_at0, withTL_some, st_set_new, st_set_new0, st_get_new, st_get_new0, List.append_assoc, Nat.add_assoc, st_new, st_new0, stS_new, stS_new0, gsRaise0, gsRaise1, gsTryT, gFldE, cIsiE, isiEx, gDict0, gBM, isTupD, mSplit, mStarts, mTxt0, oRep, oMulS, gSliceK, oSlK, gRepl, ggUnl, gLam, gAct, gMakeV, gCon, gCallO, giEnumS, oInF, flatD, eqF, List.map_cons, List.map_nil, List.replicate, List.length_cons, List.length_nil, List.length_append, List.length_set, List.cons_append, List.nil_append, List.getElem?_cons_zero, List.getElem?_cons_succ, List.set_cons_zero, List.set_cons_succ, List.lookup, List.all_cons, List.all_nil, List.mem_cons, List.not_mem_nil, or_false, Nat.reduceAdd, Nat.reduceSub, Nat.zero_add, Nat.add_zero, beq_self_eq_true, Bool.and_true, Bool.true_and, Bool.not_true, Bool.not_false, if_true, if_false, Bool.false_eq_true, decide_true, decide_false, and_true, true_and, Nat.reduceLeDiff, String.reduceEq, String.reduceNe, String.reduceBEq, String.reduceBNe, Int.reduceNeg, Int.reduceLT, Int.reduceLE, Int.reduceAdd, Int.reduceMul, Int.reduceMod, Int.reducePow, reduceIte, false_or, true_or, or_true, or_self, false_and, and_false, Bool.or_false, Bool.false_or, Bool.true_or, Bool.or_true, Bool.and_false, Bool.false_and, decide_eq_true_eq, Bool.not_eq_true, Int.toNat_zero, Int.reduceToNat, Int.toNat_natCast, Int.reduceLE, Int.reduceLT, oEq_int, oNe_int, ↓reduceIte, Nat.lt_irrefl]
  obtain ⟨z1, z2, z3, z4⟩ := M.sz_ok hm (by decide)
  obtain ⟨y1, y2⟩ := szF_ok hz
  refine ⟨z1, y1, z2, y2, z3, y1, z4, y2, ?_⟩
  generalize m.a * p + m.b * q = A at e ⊢
  generalize m.c * p + m.d * q = B at e ⊢
  by_cases h1 : 0 < B
  · simpa [h1] using e
  · by_cases h2 : B = 0 <;> by_cases h3 : 0 < A <;> simpa [h1, h2, h3] using e
theorem len_Turn___call__ (c : CA) (ds : List D) (S : SS) (Q : GQ) (G : GX) (h : sp_Turn___call__ c ds S Q G) : ds.length = 2 := sp2_len ds S Q G h
theorem vc_Turn___call__ (c : CA) (hc : ClsOk c) (ds : List D) (S : SS) (Q : GQ) (G : GX) (h : sp_Turn___call__ c ds S Q G) : Body (b_Turn___call__ c) N_Turn___call__ ds S Q G := by
  refine body2 h fun s d h => ?_
  obtain ⟨k, m, rfl, hk, hz, h⟩ := withT_inv h
  unfold b_Turn___call__ N_Turn___call__
  unfold oT at hk
  rcases h with ⟨p, q, rfl, hf, h1, h2⟩ | ⟨hn, h⟩
  · simp only [Body, gsNx, gsSeq, gsAsg, gsPar2, gsRet, gsRetN, gsDrop, gsIf, gsBrk, gsCt, gsAug, gsFld, gsNever, gsFor, gC, gV, gNil, gCons, gTup, gLst, gBin, gUn, gChain, gAndV, gOrV, gNotV, gIfE, gCall, gBlt, gMake, gMeth, gFld, gProp, gtV, gtT, truD, gtAnd, gtOr, gtNot, gtYes, oAdd, oSub, oMul, oMod, oFdiv, oFdivW, oPow, oLt, oLe, oGt, oGe, uNeg, oIs, oIsNot, ggNil, ggCons, ggTup, ggP, ggSub, oSetIx, runP, runPs, putG, giLst, giTup, giStr, giRng1, giRng2, gLc, wipeG, atG, oIx, goNone, goSome, gSlice, oSl, cutG, sIxG, cLen, cMax2, cMin2, cAbs, cStr, cBool, cInt, cTuple, cList, cIsi, isiB, isiO, tyD_obj, tyD_non, tyD_bl, tyD_int, tyD_str, tyD_tup, tyD_rol, tyO, oOwn, oOwnB, oOwnU, cOwn, isBlD, isStrD, isLenD, cBoolO, cStrO, cLenO, oInO, gCallO, itemsD, gJoin, oJoin, cRepr1, tbs, oks, okK_self, okK_n1, okK_n2, okK_n3, okK_n4, okK_n5, okK_n6, okK_n7, sp1, sp2, sp3, oAddI, withM_dM, withM_lit, withI_of, withX_of, withO_of, withT_at, withT_at0, withTL_some, st_set_new, st_set_new0, st_get_new, st_get_new0, List.append_assoc, Nat.add_assoc, st_new, st_new0, stS_new, stS_new0, gsRaise0, gsRaise1, gsTryT, gFldE, cIsiE, isiEx, gDict0, gBM, isTupD, mSplit, mStarts, mTxt0, oRep, oMulS, gSliceK, oSlK, gRepl, ggUnl, gLam, gAct, gMakeV, gCon, gCallO, giEnumS, oInF, flatD, eqF, List.map_cons, List.map_nil, List.replicate, List.length_cons, List.length_nil, List.length_append, List.length_set, List.cons_append, List.nil_append, List.getElem?_cons_zero, List.getElem?_cons_succ, List.set_cons_zero, List.set_cons_succ, List.lookup, List.all_cons, List.all_nil, List.mem_cons, List.not_mem_nil, or_false, Nat.reduceAdd, Nat.reduceSub, Nat.zero_add, Nat.add_zero, beq_self_eq_true, Bool.and_true, Bool.true_and, Bool.not_true, Bool.not_false, if_true, if_false, Bool.false_eq_true, decide_true, decide_false, and_true, true_and, Nat.reduceLeDiff, String.reduceEq, String.reduceNe, String.reduceBEq, String.reduceBNe, Int.reduceNeg, Int.reduceLT, Int.reduceLE, Int.reduceAdd, Int.reduceMul, Int.reduceMod, Int.reducePow, reduceIte, false_or, true_or, or_true, or_self, false_and, and_false, Bool.or_false, Bool.false_or, Bool.true_or, Bool.or_true, Bool.and_false, Bool.false_and, decide_eq_true_eq, Bool.not_eq_true, Int.toNat_zero, Int.reduceToNat, Int.toNat_natCast, Int.reduceLE, Int.reduceLT, oEq_int, oNe_int, ↓reduceIte, Nat.lt_irrefl,  hk, HELD, e_need_fraction]
    refine .inl ⟨p, q, rfl, fun ho => ?_, fun ho => cutX_same (h2 ho)⟩
    simp only [Body, gsNx, gsSeq, gsAsg, gsPar2, gsRet, gsRetN, gsDrop, gsIf, gsBrk, gsCt, gsAug, gsFld, gsNever, gsFor, gC, gV, gNil, gCons, gTup, gLst, gBin, gUn, gChain, gAndV, gOrV, gNotV, gIfE, gCall, gBlt, gMake, gMeth, gFld, gProp, gtV, gtT, truD, gtAnd, gtOr, gtNot, gtYes, oAdd, oSub, oMul, oMod, oFdiv, oFdivW, oPow, oLt, oLe, oGt, oGe, uNeg, oIs, oIsNot, ggNil, ggCons, ggTup, ggP, ggSub, oSetIx, runP, runPs, putG, giLst, giTup, giStr, giRng1, giRng2, gLc, wipeG, atG, oIx, goNone, goSome, gSlice, oSl, cutG, sIxG, cLen, cMax2, cMin2, cAbs, cStr, cBool, cInt, cTuple, cList, cIsi, isiB, isiO, tyD_obj, tyD_non, tyD_bl, tyD_int, tyD_str, tyD_tup, tyD_rol, tyO, oOwn, oOwnB, oOwnU, cOwn, isBlD, isStrD, isLenD, cBoolO, cStrO, cLenO, oInO, gCallO, itemsD, gJoin, oJoin, cRepr1, tbs, oks, okK_self, okK_n1, okK_n2, okK_n3, okK_n4, okK_n5, okK_n6, okK_n7, sp1, sp2, sp3, oAddI, withM_dM, withM_lit, withI_of, withX_of, withO_of, withT_at, withT_at0, withTL_some, st_set_new, st_set_new0, st_get_new, st_get_new0, List.append_assoc, Nat.add_assoc, st_new, st_new0, stS_new, stS_new0, gsRaise0, gsRaise1, gsTryT, gFldE, cIsiE, isiEx, gDict0, gBM, isTupD, mSplit, mStarts, mTxt0, oRep, oMulS, gSliceK, oSlK, gRepl, ggUnl, gLam, gAct, gMakeV, gCon, gCallO, giEnumS, oInF, flatD, eqF, List.map_cons, List.map_nil, List.replicate, List.length_cons, List.length_nil, List.length_append, List.length_set, List.cons_append, List.nil_append, List.getElem?_cons_zero, List.getElem?_cons_succ, List.set_cons_zero, List.set_cons_succ, List.lookup, List.all_cons, List.all_nil, List.mem_cons, List.not_mem_nil, or_false, Nat.reduceAdd, Nat.reduceSub, Nat.zero_add, Nat.add_zero, beq_self_eq_true, Bool.and_true, Bool.true_and, Bool.not_true, Bool.not_false, if_true, if_false, Bool.false_eq_true, decide_true, decide_false, and_true, true_and, Nat.reduceLeDiff, String.reduceEq, String.reduceNe, String.reduceBEq, String.reduceBNe, Int.reduceNeg, Int.reduceLT, Int.reduceLE, Int.reduceAdd, Int.reduceMul, Int.reduceMod, Int.reducePow, reduceIte, false_or, true_or, or_true, or_self, false_and, and_false, Bool.or_false, Bool.false_or, Bool.true_or, Bool.or_true, Bool.and_false, Bool.false_and, decide_eq_true_eq, Bool.not_eq_true, Int.toNat_zero, Int.reduceToNat, Int.toNat_natCast, Int.reduceLE, Int.reduceLT, oEq_int, oNe_int, ↓reduceIte, Nat.lt_irrefl,  hk, HELD, e_taken_to]
    exact ⟨p, q, rfl, hz, hf, cut_same (h1 ho)⟩
  · simp only [Body, gsNx, gsSeq, gsAsg, gsPar2, gsRet, gsRetN, gsDrop, gsIf, gsBrk, gsCt, gsAug, gsFld, gsNever, gsFor, gC, gV, gNil, gCons, gTup, gLst, gBin, gUn, gChain, gAndV, gOrV, gNotV, gIfE, gCall, gBlt, gMake, gMeth, gFld, gProp, gtV, gtT, truD, gtAnd, gtOr, gtNot, gtYes, oAdd, oSub, oMul, oMod, oFdiv, oFdivW, oPow, oLt, oLe, oGt, oGe, uNeg, oIs, oIsNot, ggNil, ggCons, ggTup, ggP, ggSub, oSetIx, runP, runPs, putG, giLst, giTup, giStr, giRng1, giRng2, gLc, wipeG, atG, oIx, goNone, goSome, gSlice, oSl, cutG, sIxG, cLen, cMax2, cMin2, cAbs, cStr, cBool, cInt, cTuple, cList, cIsi, isiB, isiO, tyD_obj, tyD_non, tyD_bl, tyD_int, tyD_str, tyD_tup, tyD_rol, tyO, oOwn, oOwnB, oOwnU, cOwn, isBlD, isStrD, isLenD, cBoolO, cStrO, cLenO, oInO, gCallO, itemsD, gJoin, oJoin, cRepr1, tbs, oks, okK_self, okK_n1, okK_n2, okK_n3, okK_n4, okK_n5, okK_n6, okK_n7, sp1, sp2, sp3, oAddI, withM_dM, withM_lit, withI_of, withX_of, withO_of, withT_at, withT_at0, withTL_some, st_set_new, st_set_new0, st_get_new, st_get_new0, List.append_assoc, Nat.add_assoc, st_new, st_new0, stS_new, stS_new0, gsRaise0, gsRaise1, gsTryT, gFldE, cIsiE, isiEx, gDict0, gBM, isTupD, mSplit, mStarts, mTxt0, oRep, oMulS, gSliceK, oSlK, gRepl, ggUnl, gLam, gAct, gMakeV, gCon, gCallO, giEnumS, oInF, flatD, eqF, List.map_cons, List.map_nil, List.replicate, List.length_cons, List.length_nil, List.length_append, List.length_set, List.cons_append, List.nil_append, List.getElem?_cons_zero, List.getElem?_cons_succ, List.set_cons_zero, List.set_cons_succ, List.lookup, List.all_cons, List.all_nil, List.mem_cons, List.not_mem_nil, or_false, Nat.reduceAdd, Nat.reduceSub, Nat.zero_add, Nat.add_zero, beq_self_eq_true, Bool.and_true, Bool.true_and, Bool.not_true, Bool.not_false, if_true, if_false, Bool.false_eq_true, decide_true, decide_false, and_true, true_and, Nat.reduceLeDiff, String.reduceEq, String.reduceNe, String.reduceBEq, String.reduceBNe, Int.reduceNeg, Int.reduceLT, Int.reduceLE, Int.reduceAdd, Int.reduceMul, Int.reduceMod, Int.reducePow, reduceIte, false_or, true_or, or_true, or_self, false_and, and_false, Bool.or_false, Bool.false_or, Bool.true_or, Bool.or_true, Bool.and_false, Bool.false_and, decide_eq_true_eq, Bool.not_eq_true, Int.toNat_zero, Int.reduceToNat, Int.toNat_natCast, Int.reduceLE, Int.reduceLT, oEq_int, oNe_int, ↓reduceIte, Nat.lt_irrefl,  hk, HELD, e_need_fraction]
    exact .inr ⟨hn, cutX_same h⟩
end Gh

namespace Gh
open PySem
namespace M
theorem times_assoc {m n o : M} (hm : m.det = 1) (hn : n.det = 1) (ho : o.det = 1) : (m.times n).times o = m.times (n.times o) := by
  unfold times
  rw [nf_mul (by rw [det_mul, hm, hn]; rfl) ho, mul_nf hm (by rw [det_mul, hn, ho]; rfl), mul_assoc]
theorem times_one {m : M} (h : m.ok) : m.times one = m := by
  unfold times
  have e : m.mul one = m := by
    cases m; simp [mul, one]
  rw [e, ok_nf h]
theorem one_times {m : M} (h : m.ok) : one.times m = m := by
  unfold times
  have e : one.mul m = m := by
    cases m; simp [mul, one]
  rw [e, ok_nf h]
theorem pw_ok {m : M} (h : m.ok) : ∀ n, (m.pw n).ok
  | 0 => one_ok
  | n + 1 => times_ok (pw_ok h n) h
theorem pw_one {m : M} (h : m.ok) : m.pw 1 = m := one_times h
theorem pw_sz {m : M} {s : Nat} (h : m.sz s) : ∀ n, (m.pw n).sz (n * (s + 1) + 1)
  | 0 => by
    have : one.sz 1 := ⟨by decide, by decide, by decide, by decide⟩
    simpa [pw] using this
  | n + 1 => by
    have := times_sz (pw_sz h n) h
    rw [show n * (s + 1) + 1 + s + 1 = (n + 1) * (s + 1) + 1 by rw [Nat.add_mul]; omega] at this
    exact this
theorem pw_add {m : M} (h : m.ok) (a : Nat) : ∀ b, (m.pw a).times (m.pw b) = m.pw (a + b)
  | 0 => times_one (pw_ok h a)
  | b + 1 => by
    show (m.pw a).times ((m.pw b).times m) = (m.pw (a + b)).times m
    rw [← times_assoc (pw_ok h a).1 (pw_ok h b).1 h.1, pw_add h a b]
end M
theorem len_power_of (c : CA) (ds : List D) (S : SS) (Q : GQ) (G : GX) (h : sp_power_of c ds S Q G) : ds.length = 2 := sp2_len ds S Q G h
theorem vc_power_of (c : CA) (hc : ClsOk c) (ds : List D) (S : SS) (Q : GQ) (G : GX) (h : sp_power_of c ds S Q G) : Body (b_power_of c) N_power_of ds S Q G := by
  refine body2 h fun d e h => ?_
  obtain ⟨m, rfl, h2⟩ := withM_inv h
  obtain ⟨n, rfl, h⟩ := withI_inv h2
  have h : ∃ s, 0 ≤ n ∧ n.toNat * (s + 1) + 1 ≤ 5000 ∧ n ≤ 200 ∧ m.ok ∧ m.sz s ∧ Q (dM (m.pw n.toNat)) S := by
    rcases h with ⟨h0, h1, ho, hz, h⟩ | ⟨h0, h1, ho, hz, h⟩
    · exact ⟨4, h0, by omega, h1, ho, hz, h⟩
    · exact ⟨40, h0, by omega, by omega, ho, hz, h⟩
  obtain ⟨s, n0, hs, n1, ho, hz, h⟩ := h
  have hsz : ∀ j, j ≤ n.toNat → (m.pw j).sz 5000 := fun j hj => M.sz_mono (M.pw_sz hz j) (by
    have := Nat.mul_le_mul_right (s + 1) hj
    omega)
  unfold b_power_of N_power_of
  simp only [Body, gsNx, gsSeq, gsAsg, gsPar2, gsRet, gsRetN, gsDrop, gsIf, gsBrk, gsCt, gsAug, gsFld, gsNever, gsFor, gC, gV, gNil, gCons, gTup, gLst, gBin, gUn, gChain, gAndV, gOrV, gNotV, gIfE, gCall, gBlt, gMake, gMeth, gFld, gProp, gtV, gtT, truD, gtAnd, gtOr, gtNot, gtYes, oAdd, oSub, oMul, oMod, oFdiv, oFdivW, oPow, oLt, oLe, oGt, oGe, uNeg, oIs, oIsNot, ggNil, ggCons, ggTup, ggP, ggSub, oSetIx, runP, runPs, putG, giLst, giTup, giStr, giRng1, giRng2, gLc, wipeG, atG, oIx, goNone, goSome, gSlice, oSl, cutG, sIxG, cLen, cMax2, cMin2, cAbs, cStr, cBool, cInt, cTuple, cList, cIsi, isiB, isiO, tyD_obj, tyD_non, tyD_bl, tyD_int, tyD_str, tyD_tup, tyD_rol, tyO, oOwn, oOwnB, oOwnU, cOwn, isBlD, isStrD, isLenD, cBoolO, cStrO, cLenO, oInO, gCallO, itemsD, gJoin, oJoin, cRepr1, tbs, oks, okK_self, okK_n1, okK_n2, okK_n3, okK_n4, okK_n5, okK_n6, okK_n7, sp1, sp2, sp3, oAddI, withM_dM, withM_lit, withI_of, withX_of, withO_of, withT_at, withT_at0, withTL_some, st_set_new, st_set_new0, st_get_new, st_get_new0, List.append_assoc, Nat.add_assoc, st_new, st_new0, stS_new, stS_new0, gsRaise0, gsRaise1, gsTryT, gFldE, cIsiE, isiEx, gDict0, gBM, isTupD, mSplit, mStarts, mTxt0, oRep, oMulS, gSliceK, oSlK, gRepl, ggUnl, gLam, gAct, gMakeV, gCon, gCallO, giEnumS, oInF, flatD, eqF, List.map_cons, List.map_nil, List.replicate, List.length_cons, List.length_nil, List.length_append, List.length_set, List.cons_append, List.nil_append, List.getElem?_cons_zero, List.getElem?_cons_succ, List.set_cons_zero, List.set_cons_succ, List.lookup, List.all_cons, List.all_nil, List.mem_cons, List.not_mem_nil, or_false, Nat.reduceAdd, Nat.reduceSub, Nat.zero_add, Nat.add_zero, beq_self_eq_true, Bool.and_true, Bool.true_and, Bool.not_true, Bool.not_false, if_true, if_false, Bool.false_eq_true, decide_true, decide_false, and_true, true_and, Nat.reduceLeDiff, String.reduceEq, String.reduceNe, String.reduceBEq, String.reduceBNe, Int.reduceNeg, Int.reduceLT, Int.reduceLE, Int.reduceAdd, Int.reduceMul, Int.reduceMod, Int.reducePow, reduceIte, false_or, true_or, or_true, or_self, false_and, and_false, Bool.or_false, Bool.false_or, Bool.true_or, Bool.or_true, Bool.and_false, Bool.false_and, decide_eq_true_eq, Bool.not_eq_true, Int.toNat_zero, Int.reduceToNat, Int.toNat_natCast, Int.reduceLE, Int.reduceLT, oEq_int, oNe_int, ↓reduceIte, Nat.lt_irrefl,  gsWhile]
  have e1 : dM m = dM (m.pw 1) := by rw [M.pw_one ho]
  refine ⟨fun k σ S' => ∃ j f : Nat, S' = S ∧ σ = [some (dM m), some (.int (k : Int)), some (dM (m.pw j)), some (dM (m.pw f))] ∧ j + f * k = n.toNat, ⟨n.toNat, 0, 1, rfl, ?_, by omega⟩, ?_⟩
  · rw [← e1, Int.toNat_of_nonneg n0]
    rfl
  · rintro k σ S' ⟨j, f, rfl, rfl, hj⟩
    simp only [Body, gsNx, gsSeq, gsAsg, gsPar2, gsRet, gsRetN, gsDrop, gsIf, gsBrk, gsCt, gsAug, gsFld, gsNever, gsFor, gC, gV, gNil, gCons, gTup, gLst, gBin, gUn, gChain, gAndV, gOrV, gNotV, gIfE, gCall, gBlt, gMake, gMeth, gFld, gProp, gtV, gtT, truD, gtAnd, gtOr, gtNot, gtYes, oAdd, oSub, oMul, oMod, oFdiv, oFdivW, oPow, oLt, oLe, oGt, oGe, uNeg, oIs, oIsNot, ggNil, ggCons, ggTup, ggP, ggSub, oSetIx, runP, runPs, putG, giLst, giTup, giStr, giRng1, giRng2, gLc, wipeG, atG, oIx, goNone, goSome, gSlice, oSl, cutG, sIxG, cLen, cMax2, cMin2, cAbs, cStr, cBool, cInt, cTuple, cList, cIsi, isiB, isiO, tyD_obj, tyD_non, tyD_bl, tyD_int, tyD_str, tyD_tup, tyD_rol, tyO, oOwn, oOwnB, oOwnU, cOwn, isBlD, isStrD, isLenD, cBoolO, cStrO, cLenO, oInO, gCallO, itemsD, gJoin, oJoin, cRepr1, tbs, oks, okK_self, okK_n1, okK_n2, okK_n3, okK_n4, okK_n5, okK_n6, okK_n7, sp1, sp2, sp3, oAddI, withM_dM, withM_lit, withI_of, withX_of, withO_of, withT_at, withT_at0, withTL_some, st_set_new, st_set_new0, st_get_new, st_get_new0, List.append_assoc, Nat.add_assoc, st_new, st_new0, stS_new, stS_new0, gsRaise0, gsRaise1, gsTryT, gFldE, cIsiE, isiEx, gDict0, gBM, isTupD, mSplit, mStarts, mTxt0, oRep, oMulS, gSliceK, oSlK, gRepl, ggUnl, gLam, gAct, gMakeV, gCon, gCallO, giEnumS, oInF, flatD, eqF, List.map_cons, List.map_nil, List.replicate, List.length_cons, List.length_nil, List.length_append, List.length_set, List.cons_append, List.nil_append, List.getElem?_cons_zero, List.getElem?_cons_succ, List.set_cons_zero, List.set_cons_succ, List.lookup, List.all_cons, List.all_nil, List.mem_cons, List.not_mem_nil, or_false, Nat.reduceAdd, Nat.reduceSub, Nat.zero_add, Nat.add_zero, beq_self_eq_true, Bool.and_true, Bool.true_and, Bool.not_true, Bool.not_false, if_true, if_false, Bool.false_eq_true, decide_true, decide_false, and_true, true_and, Nat.reduceLeDiff, String.reduceEq, String.reduceNe, String.reduceBEq, String.reduceBNe, Int.reduceNeg, Int.reduceLT, Int.reduceLE, Int.reduceAdd, Int.reduceMul, Int.reduceMod, Int.reducePow, reduceIte, false_or, true_or, or_true, or_self, false_and, and_false, Bool.or_false, Bool.false_or, Bool.true_or, Bool.or_true, Bool.and_false, Bool.false_and, decide_eq_true_eq, Bool.not_eq_true, Int.toNat_zero, Int.reduceToNat, Int.toNat_natCast, Int.reduceLE, Int.reduceLT, oEq_int, oNe_int, ↓reduceIte, Nat.lt_irrefl]
    by_cases hk : 0 < k
    · rw [if_pos (by omega)]
      have hf : f ≤ n.toNat := by
        have := Nat.le_mul_of_pos_right f hk
        omega
      have hd : k = 2 * (k / 2) + k % 2 := by omega
      refine ⟨fun σ' S'' => ∃ m', m' < k ∧ ∃ j f : Nat, S'' = S' ∧ σ' = [some (dM m), some (.int (m' : Int)), some (dM (m.pw j)), some (dM (m.pw f))] ∧ j + f * m' = n.toNat, fun σ' S'' h => h, ?_⟩
      have hlt : k / 2 < k := by omega
      simp only [e_times, withM_dM, M.pw_add ho]
      by_cases hp : k % 2 = 1
      · rw [if_pos (by omega)]
        have hj2 : j + f ≤ n.toNat := by
          have := Nat.le_mul_of_pos_right f hk
          omega
        refine ⟨hsz j (by omega), hsz f hf, hsz f hf, hsz f hf, k / 2, hlt, j + f, f + f, trivial, ?_, ?_⟩
        · rw [Int.natCast_ediv]; rfl
        · rw [← hj, Nat.add_assoc, ← Nat.two_mul, Nat.mul_assoc 2, Nat.mul_left_comm, ]
          have : f * k = f * (2 * (k / 2)) + f := by
            rw [← Nat.mul_succ]; congr 1; omega
          omega
      · rw [if_neg (by omega)]
        refine ⟨hsz f hf, hsz f hf, k / 2, hlt, j, f + f, trivial, ?_, ?_⟩
        · rw [Int.natCast_ediv]; rfl
        · rw [← hj, ← Nat.two_mul, Nat.mul_assoc 2, Nat.mul_left_comm]
          have : f * k = f * (2 * (k / 2)) := by
            congr 1; omega
          omega
    · rw [if_neg (by omega)]
      obtain rfl : k = 0 := by omega
      have e : j = n.toNat := by omega
      rw [e]
      exact cut_same h
theorem len_Turn_raised (c : CA) (ds : List D) (S : SS) (Q : GQ) (G : GX) (h : sp_Turn_raised c ds S Q G) : ds.length = 2 := sp2_len ds S Q G h
theorem most_held : (Str.ofString "MOST_EXPONENT" == Str.ofString "held") = false := by decide
theorem raised_held : (Str.ofString "raised" == Str.ofString "held") = false := by decide
theorem vc_Turn_raised (c : CA) (hc : ClsOk c) (ds : List D) (S : SS) (Q : GQ) (G : GX) (h : sp_Turn_raised c ds S Q G) : Body (b_Turn_raised c) N_Turn_raised ds S Q G := by
  refine body2 h fun s d h => ?_
  obtain ⟨k, m, rfl, hk, hp, ho, h⟩ := withT_inv h
  unfold b_Turn_raised N_Turn_raised
  unfold oT at hk
  simp only [Body, gsNx, gsSeq, gsAsg, gsPar2, gsRet, gsRetN, gsDrop, gsIf, gsBrk, gsCt, gsAug, gsFld, gsNever, gsFor, gC, gV, gNil, gCons, gTup, gLst, gBin, gUn, gChain, gAndV, gOrV, gNotV, gIfE, gCall, gBlt, gMake, gMeth, gFld, gProp, gtV, gtT, truD, gtAnd, gtOr, gtNot, gtYes, oAdd, oSub, oMul, oMod, oFdiv, oFdivW, oPow, oLt, oLe, oGt, oGe, uNeg, oIs, oIsNot, ggNil, ggCons, ggTup, ggP, ggSub, oSetIx, runP, runPs, putG, giLst, giTup, giStr, giRng1, giRng2, gLc, wipeG, atG, oIx, goNone, goSome, gSlice, oSl, cutG, sIxG, cLen, cMax2, cMin2, cAbs, cStr, cBool, cInt, cTuple, cList, cIsi, isiB, isiO, tyD_obj, tyD_non, tyD_bl, tyD_int, tyD_str, tyD_tup, tyD_rol, tyO, oOwn, oOwnB, oOwnU, cOwn, isBlD, isStrD, isLenD, cBoolO, cStrO, cLenO, oInO, gCallO, itemsD, gJoin, oJoin, cRepr1, tbs, oks, okK_self, okK_n1, okK_n2, okK_n3, okK_n4, okK_n5, okK_n6, okK_n7, sp1, sp2, sp3, oAddI, withM_dM, withM_lit, withI_of, withX_of, withO_of, withT_at, withT_at0, withTL_some, st_set_new, st_set_new0, st_get_new, st_get_new0, List.append_assoc, Nat.add_assoc, st_new, st_new0, stS_new, stS_new0, gsRaise0, gsRaise1, gsTryT, gFldE, cIsiE, isiEx, gDict0, gBM, isTupD, mSplit, mStarts, mTxt0, oRep, oMulS, gSliceK, oSlK, gRepl, ggUnl, gLam, gAct, gMakeV, gCon, gCallO, giEnumS, oInF, flatD, eqF, List.map_cons, List.map_nil, List.replicate, List.length_cons, List.length_nil, List.length_append, List.length_set, List.cons_append, List.nil_append, List.getElem?_cons_zero, List.getElem?_cons_succ, List.set_cons_zero, List.set_cons_succ, List.lookup, List.all_cons, List.all_nil, List.mem_cons, List.not_mem_nil, or_false, Nat.reduceAdd, Nat.reduceSub, Nat.zero_add, Nat.add_zero, beq_self_eq_true, Bool.and_true, Bool.true_and, Bool.not_true, Bool.not_false, if_true, if_false, Bool.false_eq_true, decide_true, decide_false, and_true, true_and, Nat.reduceLeDiff, String.reduceEq, String.reduceNe, String.reduceBEq, String.reduceBNe, Int.reduceNeg, Int.reduceLT, Int.reduceLE, Int.reduceAdd, Int.reduceMul, Int.reduceMod, Int.reducePow, reduceIte, false_or, true_or, or_true, or_self, false_and, and_false, Bool.or_false, Bool.false_or, Bool.true_or, Bool.or_true, Bool.and_false, Bool.false_and, decide_eq_true_eq, Bool.not_eq_true, Int.toNat_zero, Int.reduceToNat, Int.toNat_natCast, Int.reduceLE, Int.reduceLT, oEq_int, oNe_int, ↓reduceIte, Nat.lt_irrefl,  hk, HELD, e_is_integer, most_held]
  refine ⟨hp, ?_⟩
  rcases h with ⟨n, rfl, n0, n1, hz, h⟩ | ⟨hn, h⟩
  · simp only [Body, gsNx, gsSeq, gsAsg, gsPar2, gsRet, gsRetN, gsDrop, gsIf, gsBrk, gsCt, gsAug, gsFld, gsNever, gsFor, gC, gV, gNil, gCons, gTup, gLst, gBin, gUn, gChain, gAndV, gOrV, gNotV, gIfE, gCall, gBlt, gMake, gMeth, gFld, gProp, gtV, gtT, truD, gtAnd, gtOr, gtNot, gtYes, oAdd, oSub, oMul, oMod, oFdiv, oFdivW, oPow, oLt, oLe, oGt, oGe, uNeg, oIs, oIsNot, ggNil, ggCons, ggTup, ggP, ggSub, oSetIx, runP, runPs, putG, giLst, giTup, giStr, giRng1, giRng2, gLc, wipeG, atG, oIx, goNone, goSome, gSlice, oSl, cutG, sIxG, cLen, cMax2, cMin2, cAbs, cStr, cBool, cInt, cTuple, cList, cIsi, isiB, isiO, tyD_obj, tyD_non, tyD_bl, tyD_int, tyD_str, tyD_tup, tyD_rol, tyO, oOwn, oOwnB, oOwnU, cOwn, isBlD, isStrD, isLenD, cBoolO, cStrO, cLenO, oInO, gCallO, itemsD, gJoin, oJoin, cRepr1, tbs, oks, okK_self, okK_n1, okK_n2, okK_n3, okK_n4, okK_n5, okK_n6, okK_n7, sp1, sp2, sp3, oAddI, withM_dM, withM_lit, withI_of, withX_of, withO_of, withT_at, withT_at0, withTL_some, st_set_new, st_set_new0, st_get_new, st_get_new0, List.append_assoc, Nat.add_assoc, st_new, st_new0, stS_new, stS_new0, gsRaise0, gsRaise1, gsTryT, gFldE, cIsiE, isiEx, gDict0, gBM, isTupD, mSplit, mStarts, mTxt0, oRep, oMulS, gSliceK, oSlK, gRepl, ggUnl, gLam, gAct, gMakeV, gCon, gCallO, giEnumS, oInF, flatD, eqF, List.map_cons, List.map_nil, List.replicate, List.length_cons, List.length_nil, List.length_append, List.length_set, List.cons_append, List.nil_append, List.getElem?_cons_zero, List.getElem?_cons_succ, List.set_cons_zero, List.set_cons_succ, List.lookup, List.all_cons, List.all_nil, List.mem_cons, List.not_mem_nil, or_false, Nat.reduceAdd, Nat.reduceSub, Nat.zero_add, Nat.add_zero, beq_self_eq_true, Bool.and_true, Bool.true_and, Bool.not_true, Bool.not_false, if_true, if_false, Bool.false_eq_true, decide_true, decide_false, and_true, true_and, Nat.reduceLeDiff, String.reduceEq, String.reduceNe, String.reduceBEq, String.reduceBNe, Int.reduceNeg, Int.reduceLT, Int.reduceLE, Int.reduceAdd, Int.reduceMul, Int.reduceMod, Int.reducePow, reduceIte, false_or, true_or, or_true, or_self, false_and, and_false, Bool.or_false, Bool.false_or, Bool.true_or, Bool.or_true, Bool.and_false, Bool.false_and, decide_eq_true_eq, Bool.not_eq_true, Int.toNat_zero, Int.reduceToNat, Int.toNat_natCast, Int.reduceLE, Int.reduceLT, oEq_int, oNe_int, ↓reduceIte, Nat.lt_irrefl,  hk, HELD, e_is_integer, most_held, isI, e_power_of, e_inverse_of]
    rw [decide_eq_true n0]
    simp only [Body, gsNx, gsSeq, gsAsg, gsPar2, gsRet, gsRetN, gsDrop, gsIf, gsBrk, gsCt, gsAug, gsFld, gsNever, gsFor, gC, gV, gNil, gCons, gTup, gLst, gBin, gUn, gChain, gAndV, gOrV, gNotV, gIfE, gCall, gBlt, gMake, gMeth, gFld, gProp, gtV, gtT, truD, gtAnd, gtOr, gtNot, gtYes, oAdd, oSub, oMul, oMod, oFdiv, oFdivW, oPow, oLt, oLe, oGt, oGe, uNeg, oIs, oIsNot, ggNil, ggCons, ggTup, ggP, ggSub, oSetIx, runP, runPs, putG, giLst, giTup, giStr, giRng1, giRng2, gLc, wipeG, atG, oIx, goNone, goSome, gSlice, oSl, cutG, sIxG, cLen, cMax2, cMin2, cAbs, cStr, cBool, cInt, cTuple, cList, cIsi, isiB, isiO, tyD_obj, tyD_non, tyD_bl, tyD_int, tyD_str, tyD_tup, tyD_rol, tyO, oOwn, oOwnB, oOwnU, cOwn, isBlD, isStrD, isLenD, cBoolO, cStrO, cLenO, oInO, gCallO, itemsD, gJoin, oJoin, cRepr1, tbs, oks, okK_self, okK_n1, okK_n2, okK_n3, okK_n4, okK_n5, okK_n6, okK_n7, sp1, sp2, sp3, oAddI, withM_dM, withM_lit, withI_of, withX_of, withO_of, withT_at, withT_at0, withTL_some, st_set_new, st_set_new0, st_get_new, st_get_new0, List.append_assoc, Nat.add_assoc, st_new, st_new0, stS_new, stS_new0, gsRaise0, gsRaise1, gsTryT, gFldE, cIsiE, isiEx, gDict0, gBM, isTupD, mSplit, mStarts, mTxt0, oRep, oMulS, gSliceK, oSlK, gRepl, ggUnl, gLam, gAct, gMakeV, gCon, gCallO, giEnumS, oInF, flatD, eqF, List.map_cons, List.map_nil, List.replicate, List.length_cons, List.length_nil, List.length_append, List.length_set, List.cons_append, List.nil_append, List.getElem?_cons_zero, List.getElem?_cons_succ, List.set_cons_zero, List.set_cons_succ, List.lookup, List.all_cons, List.all_nil, List.mem_cons, List.not_mem_nil, or_false, Nat.reduceAdd, Nat.reduceSub, Nat.zero_add, Nat.add_zero, beq_self_eq_true, Bool.and_true, Bool.true_and, Bool.not_true, Bool.not_false, if_true, if_false, Bool.false_eq_true, decide_true, decide_false, and_true, true_and, Nat.reduceLeDiff, String.reduceEq, String.reduceNe, String.reduceBEq, String.reduceBNe, Int.reduceNeg, Int.reduceLT, Int.reduceLE, Int.reduceAdd, Int.reduceMul, Int.reduceMod, Int.reducePow, reduceIte, false_or, true_or, or_true, or_self, false_and, and_false, Bool.or_false, Bool.false_or, Bool.true_or, Bool.or_true, Bool.and_false, Bool.false_and, decide_eq_true_eq, Bool.not_eq_true, Int.toNat_zero, Int.reduceToNat, Int.toNat_natCast, Int.reduceLE, Int.reduceLT, oEq_int, oNe_int, ↓reduceIte, Nat.lt_irrefl]
    rw [decide_eq_true n1]
    simp only [Body, gsNx, gsSeq, gsAsg, gsPar2, gsRet, gsRetN, gsDrop, gsIf, gsBrk, gsCt, gsAug, gsFld, gsNever, gsFor, gC, gV, gNil, gCons, gTup, gLst, gBin, gUn, gChain, gAndV, gOrV, gNotV, gIfE, gCall, gBlt, gMake, gMeth, gFld, gProp, gtV, gtT, truD, gtAnd, gtOr, gtNot, gtYes, oAdd, oSub, oMul, oMod, oFdiv, oFdivW, oPow, oLt, oLe, oGt, oGe, uNeg, oIs, oIsNot, ggNil, ggCons, ggTup, ggP, ggSub, oSetIx, runP, runPs, putG, giLst, giTup, giStr, giRng1, giRng2, gLc, wipeG, atG, oIx, goNone, goSome, gSlice, oSl, cutG, sIxG, cLen, cMax2, cMin2, cAbs, cStr, cBool, cInt, cTuple, cList, cIsi, isiB, isiO, tyD_obj, tyD_non, tyD_bl, tyD_int, tyD_str, tyD_tup, tyD_rol, tyO, oOwn, oOwnB, oOwnU, cOwn, isBlD, isStrD, isLenD, cBoolO, cStrO, cLenO, oInO, gCallO, itemsD, gJoin, oJoin, cRepr1, tbs, oks, okK_self, okK_n1, okK_n2, okK_n3, okK_n4, okK_n5, okK_n6, okK_n7, sp1, sp2, sp3, oAddI, withM_dM, withM_lit, withI_of, withX_of, withO_of, withT_at, withT_at0, withTL_some, st_set_new, st_set_new0, st_get_new, st_get_new0, List.append_assoc, Nat.add_assoc, st_new, st_new0, stS_new, stS_new0, gsRaise0, gsRaise1, gsTryT, gFldE, cIsiE, isiEx, gDict0, gBM, isTupD, mSplit, mStarts, mTxt0, oRep, oMulS, gSliceK, oSlK, gRepl, ggUnl, gLam, gAct, gMakeV, gCon, gCallO, giEnumS, oInF, flatD, eqF, List.map_cons, List.map_nil, List.replicate, List.length_cons, List.length_nil, List.length_append, List.length_set, List.cons_append, List.nil_append, List.getElem?_cons_zero, List.getElem?_cons_succ, List.set_cons_zero, List.set_cons_succ, List.lookup, List.all_cons, List.all_nil, List.mem_cons, List.not_mem_nil, or_false, Nat.reduceAdd, Nat.reduceSub, Nat.zero_add, Nat.add_zero, beq_self_eq_true, Bool.and_true, Bool.true_and, Bool.not_true, Bool.not_false, if_true, if_false, Bool.false_eq_true, decide_true, decide_false, and_true, true_and, Nat.reduceLeDiff, String.reduceEq, String.reduceNe, String.reduceBEq, String.reduceBNe, Int.reduceNeg, Int.reduceLT, Int.reduceLE, Int.reduceAdd, Int.reduceMul, Int.reduceMod, Int.reducePow, reduceIte, false_or, true_or, or_true, or_self, false_and, and_false, Bool.or_false, Bool.false_or, Bool.true_or, Bool.or_true, Bool.and_false, Bool.false_and, decide_eq_true_eq, Bool.not_eq_true, Int.toNat_zero, Int.reduceToNat, Int.toNat_natCast, Int.reduceLE, Int.reduceLT, oEq_int, oNe_int, ↓reduceIte, Nat.lt_irrefl]
    have fin : ∀ (u : M) (x : Int), u.ok → (u.sz 4 ∨ u.sz 40 ∧ -13 ≤ n ∧ n ≤ 13) → (x = n ∨ x = -n) → 0 ≤ x → gCut S Q (.obj S.length) (S ++ [oT c (u.pw x.toNat)]) →
        0 ≤ x ∧ x ≤ 200 ∧ u.ok ∧ u.sz 4 ∧ sp_Turn___init__ c [D.obj (List.length S), dM (u.pw x.toNat)] (S ++ [GO.ins c.Turn []]) (fun d S2 => d = D.non ∧ gCut S Q (D.obj (List.length S)) S2) (gCutX S G) ∨
        0 ≤ x ∧ x ≤ 13 ∧ u.ok ∧ u.sz 40 ∧ sp_Turn___init__ c [D.obj (List.length S), dM (u.pw x.toNat)] (S ++ [GO.ins c.Turn []]) (fun d S2 => d = D.non ∧ gCut S Q (D.obj (List.length S)) S2) (gCutX S G) := by
      intro u x uo uz hx x0 hq
      rcases uz with uz | ⟨uz, l1, l2⟩
      · exact .inl ⟨x0, by omega, uo, uz, mk_turn (M.sz_mono (M.pw_sz uz _) (by omega)) (M.pw_ok uo _) hq⟩
      · exact .inr ⟨x0, by omega, uo, uz, mk_turn (M.sz_mono (M.pw_sz uz _) (by omega)) (M.pw_ok uo _) hq⟩
    have hh := cut_same (S := S) h
    by_cases hn : 0 ≤ n
    · have e : (if n < 0 then -n else n) = n := if_neg (by omega)
      rw [if_pos hn, e]
      rw [if_pos hn] at hh
      exact fin m n ho hz (.inl rfl) hn hh
    · have e : (if n < 0 then -n else n) = -n := if_pos (by omega)
      rw [if_neg hn, e]
      rw [if_neg hn] at hh
      exact fin m.inv (-n) (M.inv_ok ho) (hz.imp M.inv_sz fun z => ⟨M.inv_sz z.1, z.2⟩) (.inr rfl) (by omega) hh
  · cases d with
    | int n =>
      have hn := hn n rfl
      simp only [Body, gsNx, gsSeq, gsAsg, gsPar2, gsRet, gsRetN, gsDrop, gsIf, gsBrk, gsCt, gsAug, gsFld, gsNever, gsFor, gC, gV, gNil, gCons, gTup, gLst, gBin, gUn, gChain, gAndV, gOrV, gNotV, gIfE, gCall, gBlt, gMake, gMeth, gFld, gProp, gtV, gtT, truD, gtAnd, gtOr, gtNot, gtYes, oAdd, oSub, oMul, oMod, oFdiv, oFdivW, oPow, oLt, oLe, oGt, oGe, uNeg, oIs, oIsNot, ggNil, ggCons, ggTup, ggP, ggSub, oSetIx, runP, runPs, putG, giLst, giTup, giStr, giRng1, giRng2, gLc, wipeG, atG, oIx, goNone, goSome, gSlice, oSl, cutG, sIxG, cLen, cMax2, cMin2, cAbs, cStr, cBool, cInt, cTuple, cList, cIsi, isiB, isiO, tyD_obj, tyD_non, tyD_bl, tyD_int, tyD_str, tyD_tup, tyD_rol, tyO, oOwn, oOwnB, oOwnU, cOwn, isBlD, isStrD, isLenD, cBoolO, cStrO, cLenO, oInO, gCallO, itemsD, gJoin, oJoin, cRepr1, tbs, oks, okK_self, okK_n1, okK_n2, okK_n3, okK_n4, okK_n5, okK_n6, okK_n7, sp1, sp2, sp3, oAddI, withM_dM, withM_lit, withI_of, withX_of, withO_of, withT_at, withT_at0, withTL_some, st_set_new, st_set_new0, st_get_new, st_get_new0, List.append_assoc, Nat.add_assoc, st_new, st_new0, stS_new, stS_new0, gsRaise0, gsRaise1, gsTryT, gFldE, cIsiE, isiEx, gDict0, gBM, isTupD, mSplit, mStarts, mTxt0, oRep, oMulS, gSliceK, oSlK, gRepl, ggUnl, gLam, gAct, gMakeV, gCon, gCallO, giEnumS, oInF, flatD, eqF, List.map_cons, List.map_nil, List.replicate, List.length_cons, List.length_nil, List.length_append, List.length_set, List.cons_append, List.nil_append, List.getElem?_cons_zero, List.getElem?_cons_succ, List.set_cons_zero, List.set_cons_succ, List.lookup, List.all_cons, List.all_nil, List.mem_cons, List.not_mem_nil, or_false, Nat.reduceAdd, Nat.reduceSub, Nat.zero_add, Nat.add_zero, beq_self_eq_true, Bool.and_true, Bool.true_and, Bool.not_true, Bool.not_false, if_true, if_false, Bool.false_eq_true, decide_true, decide_false, and_true, true_and, Nat.reduceLeDiff, String.reduceEq, String.reduceNe, String.reduceBEq, String.reduceBNe, Int.reduceNeg, Int.reduceLT, Int.reduceLE, Int.reduceAdd, Int.reduceMul, Int.reduceMod, Int.reducePow, reduceIte, false_or, true_or, or_true, or_self, false_and, and_false, Bool.or_false, Bool.false_or, Bool.true_or, Bool.or_true, Bool.and_false, Bool.false_and, decide_eq_true_eq, Bool.not_eq_true, Int.toNat_zero, Int.reduceToNat, Int.toNat_natCast, Int.reduceLE, Int.reduceLT, oEq_int, oNe_int, ↓reduceIte, Nat.lt_irrefl,  isI]
      have fin : gCutX S G c.BadNumber [(Str.ofString "value", .int n)] S := cutX_same h
      by_cases h1 : -200 ≤ n
      · rw [decide_eq_true h1, decide_eq_false (show ¬ n ≤ 200 by omega)]
        exact fin
      · rw [decide_eq_false h1]
        exact fin
    | _ => exact cutX_same h
theorem len__law_repeated (c : CA) (ds : List D) (S : SS) (Q : GQ) (G : GX) (h : sp__law_repeated c ds S Q G) : ds.length = 2 := sp2_len ds S Q G h
theorem vc__law_repeated (c : CA) (hc : ClsOk c) (ds : List D) (S : SS) (Q : GQ) (G : GX) (h : sp__law_repeated c ds S Q G) : Body (b__law_repeated c) N__law_repeated ds S Q G := by
  refine body2 h fun d e h => ?_
  obtain ⟨m, rfl, h2⟩ := withM_inv h
  obtain ⟨n, rfl, n0, n1, hz, h⟩ := withI_inv h2
  unfold b__law_repeated N__law_repeated
  simp only [Body, gsNx, gsSeq, gsAsg, gsPar2, gsRet, gsRetN, gsDrop, gsIf, gsBrk, gsCt, gsAug, gsFld, gsNever, gsFor, gC, gV, gNil, gCons, gTup, gLst, gBin, gUn, gChain, gAndV, gOrV, gNotV, gIfE, gCall, gBlt, gMake, gMeth, gFld, gProp, gtV, gtT, truD, gtAnd, gtOr, gtNot, gtYes, oAdd, oSub, oMul, oMod, oFdiv, oFdivW, oPow, oLt, oLe, oGt, oGe, uNeg, oIs, oIsNot, ggNil, ggCons, ggTup, ggP, ggSub, oSetIx, runP, runPs, putG, giLst, giTup, giStr, giRng1, giRng2, gLc, wipeG, atG, oIx, goNone, goSome, gSlice, oSl, cutG, sIxG, cLen, cMax2, cMin2, cAbs, cStr, cBool, cInt, cTuple, cList, cIsi, isiB, isiO, tyD_obj, tyD_non, tyD_bl, tyD_int, tyD_str, tyD_tup, tyD_rol, tyO, oOwn, oOwnB, oOwnU, cOwn, isBlD, isStrD, isLenD, cBoolO, cStrO, cLenO, oInO, gCallO, itemsD, gJoin, oJoin, cRepr1, tbs, oks, okK_self, okK_n1, okK_n2, okK_n3, okK_n4, okK_n5, okK_n6, okK_n7, sp1, sp2, sp3, oAddI, withM_dM, withM_lit, withI_of, withX_of, withO_of, withT_at, withT_at0, withTL_some, st_set_new, st_set_new0, st_get_new, st_get_new0, List.append_assoc, Nat.add_assoc, st_new, st_new0, stS_new, stS_new0, gsRaise0, gsRaise1, gsTryT, gFldE, cIsiE, isiEx, gDict0, gBM, isTupD, mSplit, mStarts, mTxt0, oRep, oMulS, gSliceK, oSlK, gRepl, ggUnl, gLam, gAct, gMakeV, gCon, gCallO, giEnumS, oInF, flatD, eqF, List.map_cons, List.map_nil, List.replicate, List.length_cons, List.length_nil, List.length_append, List.length_set, List.cons_append, List.nil_append, List.getElem?_cons_zero, List.getElem?_cons_succ, List.set_cons_zero, List.set_cons_succ, List.lookup, List.all_cons, List.all_nil, List.mem_cons, List.not_mem_nil, or_false, Nat.reduceAdd, Nat.reduceSub, Nat.zero_add, Nat.add_zero, beq_self_eq_true, Bool.and_true, Bool.true_and, Bool.not_true, Bool.not_false, if_true, if_false, Bool.false_eq_true, decide_true, decide_false, and_true, true_and, Nat.reduceLeDiff, String.reduceEq, String.reduceNe, String.reduceBEq, String.reduceBNe, Int.reduceNeg, Int.reduceLT, Int.reduceLE, Int.reduceAdd, Int.reduceMul, Int.reduceMod, Int.reducePow, reduceIte, false_or, true_or, or_true, or_self, false_and, and_false, Bool.or_false, Bool.false_or, Bool.true_or, Bool.or_true, Bool.and_false, Bool.false_and, decide_eq_true_eq, Bool.not_eq_true, Int.toNat_zero, Int.reduceToNat, Int.toNat_natCast, Int.reduceLE, Int.reduceLT, oEq_int, oNe_int, ↓reduceIte, Nat.lt_irrefl]
  refine ⟨by omega, forL_inv (fun i σ S' => ∃ w, S' = S ∧ σ = [some (dM m), some (.int n), some (dM (m.pw i)), w]) ⟨none, rfl, rfl⟩ (fun i d σ S' N hd hI hN => ⟨trivial, ?_⟩) fun σ S' hI => ⟨trivial, ?_⟩⟩
  · obtain ⟨w, rfl, rfl⟩ := hI
    have hi : i < n.toNat := by
      have := (List.getElem?_eq_some_iff.mp hd).1
      simpa [rng] using this
    simp only [Body, gsNx, gsSeq, gsAsg, gsPar2, gsRet, gsRetN, gsDrop, gsIf, gsBrk, gsCt, gsAug, gsFld, gsNever, gsFor, gC, gV, gNil, gCons, gTup, gLst, gBin, gUn, gChain, gAndV, gOrV, gNotV, gIfE, gCall, gBlt, gMake, gMeth, gFld, gProp, gtV, gtT, truD, gtAnd, gtOr, gtNot, gtYes, oAdd, oSub, oMul, oMod, oFdiv, oFdivW, oPow, oLt, oLe, oGt, oGe, uNeg, oIs, oIsNot, ggNil, ggCons, ggTup, ggP, ggSub, oSetIx, runP, runPs, putG, giLst, giTup, giStr, giRng1, giRng2, gLc, wipeG, atG, oIx, goNone, goSome, gSlice, oSl, cutG, sIxG, cLen, cMax2, cMin2, cAbs, cStr, cBool, cInt, cTuple, cList, cIsi, isiB, isiO, tyD_obj, tyD_non, tyD_bl, tyD_int, tyD_str, tyD_tup, tyD_rol, tyO, oOwn, oOwnB, oOwnU, cOwn, isBlD, isStrD, isLenD, cBoolO, cStrO, cLenO, oInO, gCallO, itemsD, gJoin, oJoin, cRepr1, tbs, oks, okK_self, okK_n1, okK_n2, okK_n3, okK_n4, okK_n5, okK_n6, okK_n7, sp1, sp2, sp3, oAddI, withM_dM, withM_lit, withI_of, withX_of, withO_of, withT_at, withT_at0, withTL_some, st_set_new, st_set_new0, st_get_new, st_get_new0, List.append_assoc, Nat.add_assoc, st_new, st_new0, stS_new, stS_new0, gsRaise0, gsRaise1, gsTryT, gFldE, cIsiE, isiEx, gDict0, gBM, isTupD, mSplit, mStarts, mTxt0, oRep, oMulS, gSliceK, oSlK, gRepl, ggUnl, gLam, gAct, gMakeV, gCon, gCallO, giEnumS, oInF, flatD, eqF, List.map_cons, List.map_nil, List.replicate, List.length_cons, List.length_nil, List.length_append, List.length_set, List.cons_append, List.nil_append, List.getElem?_cons_zero, List.getElem?_cons_succ, List.set_cons_zero, List.set_cons_succ, List.lookup, List.all_cons, List.all_nil, List.mem_cons, List.not_mem_nil, or_false, Nat.reduceAdd, Nat.reduceSub, Nat.zero_add, Nat.add_zero, beq_self_eq_true, Bool.and_true, Bool.true_and, Bool.not_true, Bool.not_false, if_true, if_false, Bool.false_eq_true, decide_true, decide_false, and_true, true_and, Nat.reduceLeDiff, String.reduceEq, String.reduceNe, String.reduceBEq, String.reduceBNe, Int.reduceNeg, Int.reduceLT, Int.reduceLE, Int.reduceAdd, Int.reduceMul, Int.reduceMod, Int.reducePow, reduceIte, false_or, true_or, or_true, or_self, false_and, and_false, Bool.or_false, Bool.false_or, Bool.true_or, Bool.or_true, Bool.and_false, Bool.false_and, decide_eq_true_eq, Bool.not_eq_true, Int.toNat_zero, Int.reduceToNat, Int.toNat_natCast, Int.reduceLE, Int.reduceLT, oEq_int, oNe_int, ↓reduceIte, Nat.lt_irrefl,  e__law_times]
    refine ⟨M.sz_mono (M.pw_sz hz i) (by omega), M.sz_mono hz (by decide), hN _ _ ⟨_, rfl, rfl⟩⟩
  · obtain ⟨w, rfl, rfl⟩ := hI
    have e : (rng 0 n.toNat).length = n.toNat := by simp [rng]
    rw [e]
    simp only [Body, gsNx, gsSeq, gsAsg, gsPar2, gsRet, gsRetN, gsDrop, gsIf, gsBrk, gsCt, gsAug, gsFld, gsNever, gsFor, gC, gV, gNil, gCons, gTup, gLst, gBin, gUn, gChain, gAndV, gOrV, gNotV, gIfE, gCall, gBlt, gMake, gMeth, gFld, gProp, gtV, gtT, truD, gtAnd, gtOr, gtNot, gtYes, oAdd, oSub, oMul, oMod, oFdiv, oFdivW, oPow, oLt, oLe, oGt, oGe, uNeg, oIs, oIsNot, ggNil, ggCons, ggTup, ggP, ggSub, oSetIx, runP, runPs, putG, giLst, giTup, giStr, giRng1, giRng2, gLc, wipeG, atG, oIx, goNone, goSome, gSlice, oSl, cutG, sIxG, cLen, cMax2, cMin2, cAbs, cStr, cBool, cInt, cTuple, cList, cIsi, isiB, isiO, tyD_obj, tyD_non, tyD_bl, tyD_int, tyD_str, tyD_tup, tyD_rol, tyO, oOwn, oOwnB, oOwnU, cOwn, isBlD, isStrD, isLenD, cBoolO, cStrO, cLenO, oInO, gCallO, itemsD, gJoin, oJoin, cRepr1, tbs, oks, okK_self, okK_n1, okK_n2, okK_n3, okK_n4, okK_n5, okK_n6, okK_n7, sp1, sp2, sp3, oAddI, withM_dM, withM_lit, withI_of, withX_of, withO_of, withT_at, withT_at0, withTL_some, st_set_new, st_set_new0, st_get_new, st_get_new0, List.append_assoc, Nat.add_assoc, st_new, st_new0, stS_new, stS_new0, gsRaise0, gsRaise1, gsTryT, gFldE, cIsiE, isiEx, gDict0, gBM, isTupD, mSplit, mStarts, mTxt0, oRep, oMulS, gSliceK, oSlK, gRepl, ggUnl, gLam, gAct, gMakeV, gCon, gCallO, giEnumS, oInF, flatD, eqF, List.map_cons, List.map_nil, List.replicate, List.length_cons, List.length_nil, List.length_append, List.length_set, List.cons_append, List.nil_append, List.getElem?_cons_zero, List.getElem?_cons_succ, List.set_cons_zero, List.set_cons_succ, List.lookup, List.all_cons, List.all_nil, List.mem_cons, List.not_mem_nil, or_false, Nat.reduceAdd, Nat.reduceSub, Nat.zero_add, Nat.add_zero, beq_self_eq_true, Bool.and_true, Bool.true_and, Bool.not_true, Bool.not_false, if_true, if_false, Bool.false_eq_true, decide_true, decide_false, and_true, true_and, Nat.reduceLeDiff, String.reduceEq, String.reduceNe, String.reduceBEq, String.reduceBNe, Int.reduceNeg, Int.reduceLT, Int.reduceLE, Int.reduceAdd, Int.reduceMul, Int.reduceMod, Int.reducePow, reduceIte, false_or, true_or, or_true, or_self, false_and, and_false, Bool.or_false, Bool.false_or, Bool.true_or, Bool.or_true, Bool.and_false, Bool.false_and, decide_eq_true_eq, Bool.not_eq_true, Int.toNat_zero, Int.reduceToNat, Int.toNat_natCast, Int.reduceLE, Int.reduceLT, oEq_int, oNe_int, ↓reduceIte, Nat.lt_irrefl]
    exact cut_same h
end Gh

namespace Gh
open PySem
theorem wordOk_nil : WordOk ⟨#[]⟩ := fun i => rfl
theorem wordOk_one {q : Nat} (h : okC q = true) : WordOk ⟨#[q]⟩ := fun i => by
  cases i with
  | zero => simp [okAt, h]
  | succ j => simp [okAt]
theorem wordOk_snoc {w : Str} {q z i : Nat} (h : WordOk w) (wl : w.cps.toList.length = i) (hz : w.cps.toList[(-1 + (i : Int)).toNat]? = some z) (hq : okC q = true) (hn : ((q == 83) != (z == 83)) = true) : WordOk (w ++ (⟨#[q]⟩ : Str)) := by
  have e : (w ++ (⟨#[q]⟩ : Str)).cps.toList = w.cps.toList ++ [q] := by
    show (w.cps ++ #[q]).toList = _
    simp
  have zl : (-1 + (i : Int)).toNat < i := by
    have := (List.getElem?_eq_some_iff.mp hz).1
    omega
  intro j
  rw [e]
  rcases Nat.lt_trichotomy j i with g | g | g
  · have := h j
    unfold okAt at this ⊢
    cases j with
    | zero => rw [List.getElem?_append_left (by omega)]; exact this
    | succ k =>
      simp only [List.getElem?_append_left (show k < w.cps.toList.length by omega), List.getElem?_append_left (show k + 1 < w.cps.toList.length by omega)]
      exact this
  · subst g
    obtain ⟨k, rfl⟩ : ∃ k, j = k + 1 := ⟨j - 1, by omega⟩
    rw [show (-1 + ((k + 1 : Nat) : Int)).toNat = k by omega] at hz
    unfold okAt
    rw [List.getElem?_append_right (by omega), wl, Nat.sub_self]
    simp only [List.getElem?_cons_zero, hq, Bool.true_and, List.getElem?_append_left (show k < w.cps.toList.length by omega), hz]
    exact hn
  · unfold okAt
    rw [List.getElem?_eq_none (by rw [List.length_append, wl]; exact g)]
theorem len__law_text (c : CA) (ds : List D) (S : SS) (Q : GQ) (G : GX) (h : sp__law_text c ds S Q G) : ds.length = 2 := sp2_len ds S Q G h
theorem vc__law_text (c : CA) (hc : ClsOk c) (ds : List D) (S : SS) (Q : GQ) (G : GX) (h : sp__law_text c ds S Q G) : Body (b__law_text c) N__law_text ds S Q G := by
  refine body2 h fun d e h => ?_
  obtain ⟨size, rfl, h⟩ := withI_inv h
  obtain ⟨k, cell, n, g, rfl, hk, s0, s1, n0, n1, h⟩ := withSrc_inv h
  unfold b__law_text N__law_text
  simp only [Body, gsNx, gsSeq, gsAsg, gsPar2, gsRet, gsRetN, gsDrop, gsIf, gsBrk, gsCt, gsAug, gsFld, gsNever, gsFor, gC, gV, gNil, gCons, gTup, gLst, gBin, gUn, gChain, gAndV, gOrV, gNotV, gIfE, gCall, gBlt, gMake, gMeth, gFld, gProp, gtV, gtT, truD, gtAnd, gtOr, gtNot, gtYes, oAdd, oSub, oMul, oMod, oFdiv, oFdivW, oPow, oLt, oLe, oGt, oGe, uNeg, oIs, oIsNot, ggNil, ggCons, ggTup, ggP, ggSub, oSetIx, runP, runPs, putG, giLst, giTup, giStr, giRng1, giRng2, gLc, wipeG, atG, oIx, goNone, goSome, gSlice, oSl, cutG, sIxG, cLen, cMax2, cMin2, cAbs, cStr, cBool, cInt, cTuple, cList, cIsi, isiB, isiO, tyD_obj, tyD_non, tyD_bl, tyD_int, tyD_str, tyD_tup, tyD_rol, tyO, oOwn, oOwnB, oOwnU, cOwn, isBlD, isStrD, isLenD, cBoolO, cStrO, cLenO, oInO, gCallO, itemsD, gJoin, oJoin, cRepr1, tbs, oks, okK_self, okK_n1, okK_n2, okK_n3, okK_n4, okK_n5, okK_n6, okK_n7, sp1, sp2, sp3, oAddI, withM_dM, withM_lit, withI_of, withX_of, withO_of, withT_at, withT_at0, withTL_some, st_set_new, st_set_new0, st_get_new, st_get_new0, List.append_assoc, Nat.add_assoc, st_new, st_new0, stS_new, stS_new0, gsRaise0, gsRaise1, gsTryT, gFldE, cIsiE, isiEx, gDict0, gBM, isTupD, mSplit, mStarts, mTxt0, oRep, oMulS, gSliceK, oSlK, gRepl, ggUnl, gLam, gAct, gMakeV, gCon, gCallO, giEnumS, oInF, flatD, eqF, List.map_cons, List.map_nil, List.replicate, List.length_cons, List.length_nil, List.length_append, List.length_set, List.cons_append, List.nil_append, List.getElem?_cons_zero, List.getElem?_cons_succ, List.set_cons_zero, List.set_cons_succ, List.lookup, List.all_cons, List.all_nil, List.mem_cons, List.not_mem_nil, or_false, Nat.reduceAdd, Nat.reduceSub, Nat.zero_add, Nat.add_zero, beq_self_eq_true, Bool.and_true, Bool.true_and, Bool.not_true, Bool.not_false, if_true, if_false, Bool.false_eq_true, decide_true, decide_false, and_true, true_and, Nat.reduceLeDiff, String.reduceEq, String.reduceNe, String.reduceBEq, String.reduceBNe, Int.reduceNeg, Int.reduceLT, Int.reduceLE, Int.reduceAdd, Int.reduceMul, Int.reduceMod, Int.reducePow, reduceIte, false_or, true_or, or_true, or_self, false_and, and_false, Bool.or_false, Bool.false_or, Bool.true_or, Bool.or_true, Bool.and_false, Bool.false_and, decide_eq_true_eq, Bool.not_eq_true, Int.toNat_zero, Int.reduceToNat, Int.toNat_natCast, Int.reduceLE, Int.reduceLT, oEq_int, oNe_int, ↓reduceIte, Nat.lt_irrefl]
  refine ⟨by omega, forL_inv (fun i σ S' => ∃ w n' g' L a b, w.length = i ∧ PyData.strOk w = true ∧ WordOk w ∧ 0 ≤ n' ∧ n' ≤ n + 2 * i ∧ S' = S.set k (srcO cell n' g') ++ L ∧ σ = [some (.obj k), some (.int size), some (.str w), a, b]) ?_ (fun i d σ S' N hd hI hN => ⟨trivial, ?_⟩) fun σ S' hI => ⟨trivial, ?_⟩⟩
  · exact ⟨_, n, g, [], none, none, rfl, by decide +kernel, wordOk_nil, n0, by omega, by rw [set_same hk]; simp, rfl⟩
  · obtain ⟨w, n', g', L, a, b, hw, hok, hwo, n0', n1', rfl, rfl⟩ := hI
    have kl := st_lt hk
    have hi : i < size.toNat := by
      have := (List.getElem?_eq_some_iff.mp hd).1
      simpa [rng] using this
    unfold sp__law_next
    simp only [Body, gsNx, gsSeq, gsAsg, gsPar2, gsRet, gsRetN, gsDrop, gsIf, gsBrk, gsCt, gsAug, gsFld, gsNever, gsFor, gC, gV, gNil, gCons, gTup, gLst, gBin, gUn, gChain, gAndV, gOrV, gNotV, gIfE, gCall, gBlt, gMake, gMeth, gFld, gProp, gtV, gtT, truD, gtAnd, gtOr, gtNot, gtYes, oAdd, oSub, oMul, oMod, oFdiv, oFdivW, oPow, oLt, oLe, oGt, oGe, uNeg, oIs, oIsNot, ggNil, ggCons, ggTup, ggP, ggSub, oSetIx, runP, runPs, putG, giLst, giTup, giStr, giRng1, giRng2, gLc, wipeG, atG, oIx, goNone, goSome, gSlice, oSl, cutG, sIxG, cLen, cMax2, cMin2, cAbs, cStr, cBool, cInt, cTuple, cList, cIsi, isiB, isiO, tyD_obj, tyD_non, tyD_bl, tyD_int, tyD_str, tyD_tup, tyD_rol, tyO, oOwn, oOwnB, oOwnU, cOwn, isBlD, isStrD, isLenD, cBoolO, cStrO, cLenO, oInO, gCallO, itemsD, gJoin, oJoin, cRepr1, tbs, oks, okK_self, okK_n1, okK_n2, okK_n3, okK_n4, okK_n5, okK_n6, okK_n7, sp1, sp2, sp3, oAddI, withM_dM, withM_lit, withI_of, withX_of, withO_of, withT_at, withT_at0, withTL_some, st_set_new, st_set_new0, st_get_new, st_get_new0, List.append_assoc, Nat.add_assoc, st_new, st_new0, stS_new, stS_new0, gsRaise0, gsRaise1, gsTryT, gFldE, cIsiE, isiEx, gDict0, gBM, isTupD, mSplit, mStarts, mTxt0, oRep, oMulS, gSliceK, oSlK, gRepl, ggUnl, gLam, gAct, gMakeV, gCon, gCallO, giEnumS, oInF, flatD, eqF, List.map_cons, List.map_nil, List.replicate, List.length_cons, List.length_nil, List.length_append, List.length_set, List.cons_append, List.nil_append, List.getElem?_cons_zero, List.getElem?_cons_succ, List.set_cons_zero, List.set_cons_succ, List.lookup, List.all_cons, List.all_nil, List.mem_cons, List.not_mem_nil, or_false, Nat.reduceAdd, Nat.reduceSub, Nat.zero_add, Nat.add_zero, beq_self_eq_true, Bool.and_true, Bool.true_and, Bool.not_true, Bool.not_false, if_true, if_false, Bool.false_eq_true, decide_true, decide_false, and_true, true_and, Nat.reduceLeDiff, String.reduceEq, String.reduceNe, String.reduceBEq, String.reduceBNe, Int.reduceNeg, Int.reduceLT, Int.reduceLE, Int.reduceAdd, Int.reduceMul, Int.reduceMod, Int.reducePow, reduceIte, false_or, true_or, or_true, or_self, false_and, and_false, Bool.or_false, Bool.false_or, Bool.true_or, Bool.or_true, Bool.and_false, Bool.false_and, decide_eq_true_eq, Bool.not_eq_true, Int.toNat_zero, Int.reduceToNat, Int.toNat_natCast, Int.reduceLE, Int.reduceLT, oEq_int, oNe_int, ↓reduceIte, Nat.lt_irrefl,  withSrc_S kl]
    refine ⟨n0', by omega, fun v n2 g2 v0 v1 n20 n21 => ?_⟩
    rw [stS_set kl]
    have hd1 : ∃ y, (if 0 ≤ v then [D.str { cps := #[82] }, D.str { cps := #[114] }][v.toNat]? else if -((2 : Nat) : Int) ≤ v then [D.str { cps := #[82] }, D.str { cps := #[114] }][(v + ((2 : Nat) : Int)).toNat]? else none) = some (D.str ⟨#[y]⟩) ∧ y < 200 ∧ okC y = true ∧ y ≠ 83 := by
      rcases two_cases v0 v1 with rfl | rfl
      · exact ⟨82, rfl, by decide, by decide, by decide⟩
      · exact ⟨114, rfl, by decide, by decide, by decide⟩
    obtain ⟨y, hy, yl, yc, y83⟩ := hd1
    have yok : PyData.strOk ⟨#[y]⟩ = true := strOk_lt fun b hb => by
      have e : b = y := by simpa using hb
      omega
    have sok : PyData.strOk ⟨#[83]⟩ = true := by decide +kernel
    have kok : PyData.strOk ⟨#[]⟩ = true := by decide +kernel
    simp only [Body, gsNx, gsSeq, gsAsg, gsPar2, gsRet, gsRetN, gsDrop, gsIf, gsBrk, gsCt, gsAug, gsFld, gsNever, gsFor, gC, gV, gNil, gCons, gTup, gLst, gBin, gUn, gChain, gAndV, gOrV, gNotV, gIfE, gCall, gBlt, gMake, gMeth, gFld, gProp, gtV, gtT, truD, gtAnd, gtOr, gtNot, gtYes, oAdd, oSub, oMul, oMod, oFdiv, oFdivW, oPow, oLt, oLe, oGt, oGe, uNeg, oIs, oIsNot, ggNil, ggCons, ggTup, ggP, ggSub, oSetIx, runP, runPs, putG, giLst, giTup, giStr, giRng1, giRng2, gLc, wipeG, atG, oIx, goNone, goSome, gSlice, oSl, cutG, sIxG, cLen, cMax2, cMin2, cAbs, cStr, cBool, cInt, cTuple, cList, cIsi, isiB, isiO, tyD_obj, tyD_non, tyD_bl, tyD_int, tyD_str, tyD_tup, tyD_rol, tyO, oOwn, oOwnB, oOwnU, cOwn, isBlD, isStrD, isLenD, cBoolO, cStrO, cLenO, oInO, gCallO, itemsD, gJoin, oJoin, cRepr1, tbs, oks, okK_self, okK_n1, okK_n2, okK_n3, okK_n4, okK_n5, okK_n6, okK_n7, sp1, sp2, sp3, oAddI, withM_dM, withM_lit, withI_of, withX_of, withO_of, withT_at, withT_at0, withTL_some, st_set_new, st_set_new0, st_get_new, st_get_new0, List.append_assoc, Nat.add_assoc, st_new, st_new0, stS_new, stS_new0, gsRaise0, gsRaise1, gsTryT, gFldE, cIsiE, isiEx, gDict0, gBM, isTupD, mSplit, mStarts, mTxt0, oRep, oMulS, gSliceK, oSlK, gRepl, ggUnl, gLam, gAct, gMakeV, gCon, gCallO, giEnumS, oInF, flatD, eqF, List.map_cons, List.map_nil, List.replicate, List.length_cons, List.length_nil, List.length_append, List.length_set, List.cons_append, List.nil_append, List.getElem?_cons_zero, List.getElem?_cons_succ, List.set_cons_zero, List.set_cons_succ, List.lookup, List.all_cons, List.all_nil, List.mem_cons, List.not_mem_nil, or_false, Nat.reduceAdd, Nat.reduceSub, Nat.zero_add, Nat.add_zero, beq_self_eq_true, Bool.and_true, Bool.true_and, Bool.not_true, Bool.not_false, if_true, if_false, Bool.false_eq_true, decide_true, decide_false, and_true, true_and, Nat.reduceLeDiff, String.reduceEq, String.reduceNe, String.reduceBEq, String.reduceBNe, Int.reduceNeg, Int.reduceLT, Int.reduceLE, Int.reduceAdd, Int.reduceMul, Int.reduceMod, Int.reducePow, reduceIte, false_or, true_or, or_true, or_self, false_and, and_false, Bool.or_false, Bool.false_or, Bool.true_or, Bool.or_true, Bool.and_false, Bool.false_and, decide_eq_true_eq, Bool.not_eq_true, Int.toNat_zero, Int.reduceToNat, Int.toNat_natCast, Int.reduceLE, Int.reduceLT, oEq_int, oNe_int, ↓reduceIte, Nat.lt_irrefl,  withSrc_S kl, oEq_str hok kok]
    rw [hy]
    simp only [Body, gsNx, gsSeq, gsAsg, gsPar2, gsRet, gsRetN, gsDrop, gsIf, gsBrk, gsCt, gsAug, gsFld, gsNever, gsFor, gC, gV, gNil, gCons, gTup, gLst, gBin, gUn, gChain, gAndV, gOrV, gNotV, gIfE, gCall, gBlt, gMake, gMeth, gFld, gProp, gtV, gtT, truD, gtAnd, gtOr, gtNot, gtYes, oAdd, oSub, oMul, oMod, oFdiv, oFdivW, oPow, oLt, oLe, oGt, oGe, uNeg, oIs, oIsNot, ggNil, ggCons, ggTup, ggP, ggSub, oSetIx, runP, runPs, putG, giLst, giTup, giStr, giRng1, giRng2, gLc, wipeG, atG, oIx, goNone, goSome, gSlice, oSl, cutG, sIxG, cLen, cMax2, cMin2, cAbs, cStr, cBool, cInt, cTuple, cList, cIsi, isiB, isiO, tyD_obj, tyD_non, tyD_bl, tyD_int, tyD_str, tyD_tup, tyD_rol, tyO, oOwn, oOwnB, oOwnU, cOwn, isBlD, isStrD, isLenD, cBoolO, cStrO, cLenO, oInO, gCallO, itemsD, gJoin, oJoin, cRepr1, tbs, oks, okK_self, okK_n1, okK_n2, okK_n3, okK_n4, okK_n5, okK_n6, okK_n7, sp1, sp2, sp3, oAddI, withM_dM, withM_lit, withI_of, withX_of, withO_of, withT_at, withT_at0, withTL_some, st_set_new, st_set_new0, st_get_new, st_get_new0, List.append_assoc, Nat.add_assoc, st_new, st_new0, stS_new, stS_new0, gsRaise0, gsRaise1, gsTryT, gFldE, cIsiE, isiEx, gDict0, gBM, isTupD, mSplit, mStarts, mTxt0, oRep, oMulS, gSliceK, oSlK, gRepl, ggUnl, gLam, gAct, gMakeV, gCon, gCallO, giEnumS, oInF, flatD, eqF, List.map_cons, List.map_nil, List.replicate, List.length_cons, List.length_nil, List.length_append, List.length_set, List.cons_append, List.nil_append, List.getElem?_cons_zero, List.getElem?_cons_succ, List.set_cons_zero, List.set_cons_succ, List.lookup, List.all_cons, List.all_nil, List.mem_cons, List.not_mem_nil, or_false, Nat.reduceAdd, Nat.reduceSub, Nat.zero_add, Nat.add_zero, beq_self_eq_true, Bool.and_true, Bool.true_and, Bool.not_true, Bool.not_false, if_true, if_false, Bool.false_eq_true, decide_true, decide_false, and_true, true_and, Nat.reduceLeDiff, String.reduceEq, String.reduceNe, String.reduceBEq, String.reduceBNe, Int.reduceNeg, Int.reduceLT, Int.reduceLE, Int.reduceAdd, Int.reduceMul, Int.reduceMod, Int.reducePow, reduceIte, false_or, true_or, or_true, or_self, false_and, and_false, Bool.or_false, Bool.false_or, Bool.true_or, Bool.or_true, Bool.and_false, Bool.false_and, decide_eq_true_eq, Bool.not_eq_true, Int.toNat_zero, Int.reduceToNat, Int.toNat_natCast, Int.reduceLE, Int.reduceLT, oEq_int, oNe_int, ↓reduceIte, Nat.lt_irrefl,  withSrc_S kl]
    by_cases hw0 : w = ⟨#[]⟩
    · subst hw0
      have i0 : i = 0 := hw.symm
      subst i0
      simp only [Body, gsNx, gsSeq, gsAsg, gsPar2, gsRet, gsRetN, gsDrop, gsIf, gsBrk, gsCt, gsAug, gsFld, gsNever, gsFor, gC, gV, gNil, gCons, gTup, gLst, gBin, gUn, gChain, gAndV, gOrV, gNotV, gIfE, gCall, gBlt, gMake, gMeth, gFld, gProp, gtV, gtT, truD, gtAnd, gtOr, gtNot, gtYes, oAdd, oSub, oMul, oMod, oFdiv, oFdivW, oPow, oLt, oLe, oGt, oGe, uNeg, oIs, oIsNot, ggNil, ggCons, ggTup, ggP, ggSub, oSetIx, runP, runPs, putG, giLst, giTup, giStr, giRng1, giRng2, gLc, wipeG, atG, oIx, goNone, goSome, gSlice, oSl, cutG, sIxG, cLen, cMax2, cMin2, cAbs, cStr, cBool, cInt, cTuple, cList, cIsi, isiB, isiO, tyD_obj, tyD_non, tyD_bl, tyD_int, tyD_str, tyD_tup, tyD_rol, tyO, oOwn, oOwnB, oOwnU, cOwn, isBlD, isStrD, isLenD, cBoolO, cStrO, cLenO, oInO, gCallO, itemsD, gJoin, oJoin, cRepr1, tbs, oks, okK_self, okK_n1, okK_n2, okK_n3, okK_n4, okK_n5, okK_n6, okK_n7, sp1, sp2, sp3, oAddI, withM_dM, withM_lit, withI_of, withX_of, withO_of, withT_at, withT_at0, withTL_some, st_set_new, st_set_new0, st_get_new, st_get_new0, List.append_assoc, Nat.add_assoc, st_new, st_new0, stS_new, stS_new0, gsRaise0, gsRaise1, gsTryT, gFldE, cIsiE, isiEx, gDict0, gBM, isTupD, mSplit, mStarts, mTxt0, oRep, oMulS, gSliceK, oSlK, gRepl, ggUnl, gLam, gAct, gMakeV, gCon, gCallO, giEnumS, oInF, flatD, eqF, List.map_cons, List.map_nil, List.replicate, List.length_cons, List.length_nil, List.length_append, List.length_set, List.cons_append, List.nil_append, List.getElem?_cons_zero, List.getElem?_cons_succ, List.set_cons_zero, List.set_cons_succ, List.lookup, List.all_cons, List.all_nil, List.mem_cons, List.not_mem_nil, or_false, Nat.reduceAdd, Nat.reduceSub, Nat.zero_add, Nat.add_zero, beq_self_eq_true, Bool.and_true, Bool.true_and, Bool.not_true, Bool.not_false, if_true, if_false, Bool.false_eq_true, decide_true, decide_false, and_true, true_and, Nat.reduceLeDiff, String.reduceEq, String.reduceNe, String.reduceBEq, String.reduceBNe, Int.reduceNeg, Int.reduceLT, Int.reduceLE, Int.reduceAdd, Int.reduceMul, Int.reduceMod, Int.reducePow, reduceIte, false_or, true_or, or_true, or_self, false_and, and_false, Bool.or_false, Bool.false_or, Bool.true_or, Bool.or_true, Bool.and_false, Bool.false_and, decide_eq_true_eq, Bool.not_eq_true, Int.toNat_zero, Int.reduceToNat, Int.toNat_natCast, Int.reduceLE, Int.reduceLT, oEq_int, oNe_int, ↓reduceIte, Nat.lt_irrefl,  withSrc_S kl]
      refine ⟨n20, by omega, fun v n3 g3 v0 v1 n30 n31 => ?_⟩
      rw [stS_set kl]
      split
      · exact hN _ _ ⟨_, n3, g3, _, _, _, rfl, sok, wordOk_one (by decide), n30, by omega, rfl, rfl⟩
      · exact hN _ _ ⟨_, n3, g3, _, _, _, rfl, yok, wordOk_one yc, n30, by omega, rfl, rfl⟩
    · have e0 : (w == (⟨#[]⟩ : Str)) = false := by simpa using hw0
      have wl : w.cps.toList.length = i := by rw [← hw]; simp [Str.length]
      rw [e0]
      simp only [Body, gsNx, gsSeq, gsAsg, gsPar2, gsRet, gsRetN, gsDrop, gsIf, gsBrk, gsCt, gsAug, gsFld, gsNever, gsFor, gC, gV, gNil, gCons, gTup, gLst, gBin, gUn, gChain, gAndV, gOrV, gNotV, gIfE, gCall, gBlt, gMake, gMeth, gFld, gProp, gtV, gtT, truD, gtAnd, gtOr, gtNot, gtYes, oAdd, oSub, oMul, oMod, oFdiv, oFdivW, oPow, oLt, oLe, oGt, oGe, uNeg, oIs, oIsNot, ggNil, ggCons, ggTup, ggP, ggSub, oSetIx, runP, runPs, putG, giLst, giTup, giStr, giRng1, giRng2, gLc, wipeG, atG, oIx, goNone, goSome, gSlice, oSl, cutG, sIxG, cLen, cMax2, cMin2, cAbs, cStr, cBool, cInt, cTuple, cList, cIsi, isiB, isiO, tyD_obj, tyD_non, tyD_bl, tyD_int, tyD_str, tyD_tup, tyD_rol, tyO, oOwn, oOwnB, oOwnU, cOwn, isBlD, isStrD, isLenD, cBoolO, cStrO, cLenO, oInO, gCallO, itemsD, gJoin, oJoin, cRepr1, tbs, oks, okK_self, okK_n1, okK_n2, okK_n3, okK_n4, okK_n5, okK_n6, okK_n7, sp1, sp2, sp3, oAddI, withM_dM, withM_lit, withI_of, withX_of, withO_of, withT_at, withT_at0, withTL_some, st_set_new, st_set_new0, st_get_new, st_get_new0, List.append_assoc, Nat.add_assoc, st_new, st_new0, stS_new, stS_new0, gsRaise0, gsRaise1, gsTryT, gFldE, cIsiE, isiEx, gDict0, gBM, isTupD, mSplit, mStarts, mTxt0, oRep, oMulS, gSliceK, oSlK, gRepl, ggUnl, gLam, gAct, gMakeV, gCon, gCallO, giEnumS, oInF, flatD, eqF, List.map_cons, List.map_nil, List.replicate, List.length_cons, List.length_nil, List.length_append, List.length_set, List.cons_append, List.nil_append, List.getElem?_cons_zero, List.getElem?_cons_succ, List.set_cons_zero, List.set_cons_succ, List.lookup, List.all_cons, List.all_nil, List.mem_cons, List.not_mem_nil, or_false, Nat.reduceAdd, Nat.reduceSub, Nat.zero_add, Nat.add_zero, beq_self_eq_true, Bool.and_true, Bool.true_and, Bool.not_true, Bool.not_false, if_true, if_false, Bool.false_eq_true, decide_true, decide_false, and_true, true_and, Nat.reduceLeDiff, String.reduceEq, String.reduceNe, String.reduceBEq, String.reduceBNe, Int.reduceNeg, Int.reduceLT, Int.reduceLE, Int.reduceAdd, Int.reduceMul, Int.reduceMod, Int.reducePow, reduceIte, false_or, true_or, or_true, or_self, false_and, and_false, Bool.or_false, Bool.false_or, Bool.true_or, Bool.or_true, Bool.and_false, Bool.false_and, decide_eq_true_eq, Bool.not_eq_true, Int.toNat_zero, Int.reduceToNat, Int.toNat_natCast, Int.reduceLE, Int.reduceLT, oEq_int, oNe_int, ↓reduceIte, Nat.lt_irrefl]
      have ip : 0 < i := by
        rcases Nat.eq_zero_or_pos i with z | z
        · exfalso
          apply hw0
          have : w.cps.toList = [] := List.length_eq_zero_iff.mp (by omega)
          obtain ⟨cps⟩ := w
          simp at this
          simp [this]
        · exact z
      rw [if_pos (by omega), wl]
      have hlast : ∃ z, w.cps.toList[(-1 + (i : Int)).toNat]? = some z ∧ z < 0x110000 := by
        have hb : (-1 + (i : Int)).toNat < w.cps.toList.length := by omega
        refine ⟨_, List.getElem?_eq_getElem hb, ?_⟩
        have hok2 := hok
        unfold PyData.strOk at hok2
        rw [← Array.all_toList, List.all_eq_true] at hok2
        exact of_decide_eq_true (hok2 _ (List.getElem_mem hb))
      obtain ⟨z, hz, zl⟩ := hlast
      have zok : PyData.strOk ⟨#[z]⟩ = true := strOk_lt fun b hb => by
        have e : b = z := by simpa using hb
        omega
      rw [hz]
      simp only [Body, gsNx, gsSeq, gsAsg, gsPar2, gsRet, gsRetN, gsDrop, gsIf, gsBrk, gsCt, gsAug, gsFld, gsNever, gsFor, gC, gV, gNil, gCons, gTup, gLst, gBin, gUn, gChain, gAndV, gOrV, gNotV, gIfE, gCall, gBlt, gMake, gMeth, gFld, gProp, gtV, gtT, truD, gtAnd, gtOr, gtNot, gtYes, oAdd, oSub, oMul, oMod, oFdiv, oFdivW, oPow, oLt, oLe, oGt, oGe, uNeg, oIs, oIsNot, ggNil, ggCons, ggTup, ggP, ggSub, oSetIx, runP, runPs, putG, giLst, giTup, giStr, giRng1, giRng2, gLc, wipeG, atG, oIx, goNone, goSome, gSlice, oSl, cutG, sIxG, cLen, cMax2, cMin2, cAbs, cStr, cBool, cInt, cTuple, cList, cIsi, isiB, isiO, tyD_obj, tyD_non, tyD_bl, tyD_int, tyD_str, tyD_tup, tyD_rol, tyO, oOwn, oOwnB, oOwnU, cOwn, isBlD, isStrD, isLenD, cBoolO, cStrO, cLenO, oInO, gCallO, itemsD, gJoin, oJoin, cRepr1, tbs, oks, okK_self, okK_n1, okK_n2, okK_n3, okK_n4, okK_n5, okK_n6, okK_n7, sp1, sp2, sp3, oAddI, withM_dM, withM_lit, withI_of, withX_of, withO_of, withT_at, withT_at0, withTL_some, st_set_new, st_set_new0, st_get_new, st_get_new0, List.append_assoc, Nat.add_assoc, st_new, st_new0, stS_new, stS_new0, gsRaise0, gsRaise1, gsTryT, gFldE, cIsiE, isiEx, gDict0, gBM, isTupD, mSplit, mStarts, mTxt0, oRep, oMulS, gSliceK, oSlK, gRepl, ggUnl, gLam, gAct, gMakeV, gCon, gCallO, giEnumS, oInF, flatD, eqF, List.map_cons, List.map_nil, List.replicate, List.length_cons, List.length_nil, List.length_append, List.length_set, List.cons_append, List.nil_append, List.getElem?_cons_zero, List.getElem?_cons_succ, List.set_cons_zero, List.set_cons_succ, List.lookup, List.all_cons, List.all_nil, List.mem_cons, List.not_mem_nil, or_false, Nat.reduceAdd, Nat.reduceSub, Nat.zero_add, Nat.add_zero, beq_self_eq_true, Bool.and_true, Bool.true_and, Bool.not_true, Bool.not_false, if_true, if_false, Bool.false_eq_true, decide_true, decide_false, and_true, true_and, Nat.reduceLeDiff, String.reduceEq, String.reduceNe, String.reduceBEq, String.reduceBNe, Int.reduceNeg, Int.reduceLT, Int.reduceLE, Int.reduceAdd, Int.reduceMul, Int.reduceMod, Int.reducePow, reduceIte, false_or, true_or, or_true, or_self, false_and, and_false, Bool.or_false, Bool.false_or, Bool.true_or, Bool.or_true, Bool.and_false, Bool.false_and, decide_eq_true_eq, Bool.not_eq_true, Int.toNat_zero, Int.reduceToNat, Int.toNat_natCast, Int.reduceLE, Int.reduceLT, oEq_int, oNe_int, ↓reduceIte, Nat.lt_irrefl,  oEq_str zok sok]
      have app_len : ∀ q : Nat, (w ++ (⟨#[q]⟩ : Str)).length = i + 1 := by
        intro q
        show (w.cps ++ #[q]).size = _
        rw [Array.size_append, ← hw]; rfl
      refine ⟨by omega, ?_⟩
      split <;> rename_i hz83
      · exact ⟨by rw [hw]; show i + 1 ≤ _; omega, hN _ _ ⟨_, n2, g2, _, _, _, app_len _, strOk_app hok yok, wordOk_snoc hwo wl hz yc (by simp at hz83; simp [hz83, y83]), n20, by omega, rfl, rfl⟩⟩
      · exact ⟨by rw [hw]; show i + 1 ≤ _; omega, hN _ _ ⟨_, n2, g2, _, _, _, app_len _, strOk_app hok sok, wordOk_snoc hwo wl hz (by decide) (by simp at hz83; simp [hz83]), n20, by omega, rfl, rfl⟩⟩
  · obtain ⟨w, n', g', L, a, b, hw, hok, hwo, n0', n1', rfl, rfl⟩ := hI
    have e : (rng 0 size.toNat).length = size.toNat := by simp [rng]
    rw [e] at hw n1'
    simp only [Body, gsNx, gsSeq, gsAsg, gsPar2, gsRet, gsRetN, gsDrop, gsIf, gsBrk, gsCt, gsAug, gsFld, gsNever, gsFor, gC, gV, gNil, gCons, gTup, gLst, gBin, gUn, gChain, gAndV, gOrV, gNotV, gIfE, gCall, gBlt, gMake, gMeth, gFld, gProp, gtV, gtT, truD, gtAnd, gtOr, gtNot, gtYes, oAdd, oSub, oMul, oMod, oFdiv, oFdivW, oPow, oLt, oLe, oGt, oGe, uNeg, oIs, oIsNot, ggNil, ggCons, ggTup, ggP, ggSub, oSetIx, runP, runPs, putG, giLst, giTup, giStr, giRng1, giRng2, gLc, wipeG, atG, oIx, goNone, goSome, gSlice, oSl, cutG, sIxG, cLen, cMax2, cMin2, cAbs, cStr, cBool, cInt, cTuple, cList, cIsi, isiB, isiO, tyD_obj, tyD_non, tyD_bl, tyD_int, tyD_str, tyD_tup, tyD_rol, tyO, oOwn, oOwnB, oOwnU, cOwn, isBlD, isStrD, isLenD, cBoolO, cStrO, cLenO, oInO, gCallO, itemsD, gJoin, oJoin, cRepr1, tbs, oks, okK_self, okK_n1, okK_n2, okK_n3, okK_n4, okK_n5, okK_n6, okK_n7, sp1, sp2, sp3, oAddI, withM_dM, withM_lit, withI_of, withX_of, withO_of, withT_at, withT_at0, withTL_some, st_set_new, st_set_new0, st_get_new, st_get_new0, List.append_assoc, Nat.add_assoc, st_new, st_new0, stS_new, stS_new0, gsRaise0, gsRaise1, gsTryT, gFldE, cIsiE, isiEx, gDict0, gBM, isTupD, mSplit, mStarts, mTxt0, oRep, oMulS, gSliceK, oSlK, gRepl, ggUnl, gLam, gAct, gMakeV, gCon, gCallO, giEnumS, oInF, flatD, eqF, List.map_cons, List.map_nil, List.replicate, List.length_cons, List.length_nil, List.length_append, List.length_set, List.cons_append, List.nil_append, List.getElem?_cons_zero, List.getElem?_cons_succ, List.set_cons_zero, List.set_cons_succ, List.lookup, List.all_cons, List.all_nil, List.mem_cons, List.not_mem_nil, or_false, Nat.reduceAdd, Nat.reduceSub, Nat.zero_add, Nat.add_zero, beq_self_eq_true, Bool.and_true, Bool.true_and, Bool.not_true, Bool.not_false, if_true, if_false, Bool.false_eq_true, decide_true, decide_false, and_true, true_and, Nat.reduceLeDiff, String.reduceEq, String.reduceNe, String.reduceBEq, String.reduceBNe, Int.reduceNeg, Int.reduceLT, Int.reduceLE, Int.reduceAdd, Int.reduceMul, Int.reduceMod, Int.reducePow, reduceIte, false_or, true_or, or_true, or_self, false_and, and_false, Bool.or_false, Bool.false_or, Bool.true_or, Bool.or_true, Bool.and_false, Bool.false_and, decide_eq_true_eq, Bool.not_eq_true, Int.toNat_zero, Int.reduceToNat, Int.toNat_natCast, Int.reduceLE, Int.reduceLT, oEq_int, oNe_int, ↓reduceIte, Nat.lt_irrefl]
    exact cut_set rfl rfl (h w n' g' hw hok hwo n0' (by omega))
end Gh

namespace Gh
open PySem
abbrev Fr := Int × Int
def cop (f : Fr) : Prop := Int.gcd f.1 f.2 = 1
def posF (f : Fr) : Prop := 0 < f.2 ∨ f.2 = 0 ∧ 0 < f.1
instance (f : Fr) : Decidable (posF f) := inferInstanceAs (Decidable (_ ∨ _))
def ng (f : Fr) : Fr := (-f.1, -f.2)
def sg (f : Fr) : Fr := if posF f then f else ng f
def act (m : M) (f : Fr) : Fr := (m.a * f.1 + m.b * f.2, m.c * f.1 + m.d * f.2)
theorem tk_eq {m : M} {f : Fr} : tk m f = sg (act m f) := rfl
theorem FrOk_iff {p q : Int} : FrOk p q ↔ cop (p, q) ∧ posF (p, q) := by
  unfold FrOk cop posF
  constructor
  · rintro (⟨rfl, rfl⟩ | ⟨h1, h2⟩)
    · exact ⟨by decide, .inr ⟨rfl, by decide⟩⟩
    · exact ⟨h2, .inl h1⟩
  · rintro ⟨h1, h2 | ⟨h2, h3⟩⟩
    · exact .inr ⟨h2, h1⟩
    · have h2 : q = 0 := h2
      have h3 : 0 < p := h3
      subst h2
      have h1 : Int.gcd p 0 = 1 := h1
      rw [Int.gcd_zero_right] at h1
      exact .inl ⟨by omega, rfl⟩
theorem act_mul {m n : M} {f : Fr} : act (m.mul n) f = act m (act n f) := by
  simp only [act, M.mul, Prod.mk.injEq]; constructor <;> grind
theorem act_neg {m : M} {f : Fr} : act m.neg f = ng (act m f) := by
  simp only [act, M.neg, ng, Prod.mk.injEq]; constructor <;> grind
theorem act_ng {m : M} {f : Fr} : act m (ng f) = ng (act m f) := by
  simp only [act, ng, Prod.mk.injEq]; constructor <;> grind
theorem cop_act {m : M} {f : Fr} (h : m.det = 1) (g : cop f) : cop (act m f) := by
  unfold cop at *
  obtain ⟨p, q⟩ := f
  have h1 := Int.gcd_dvd_left (a := (act m (p, q)).1) (b := (act m (p, q)).2)
  have h2 := Int.gcd_dvd_right (a := (act m (p, q)).1) (b := (act m (p, q)).2)
  have e1 : m.d * (act m (p, q)).1 - m.b * (act m (p, q)).2 = p := by
    have : m.d * (act m (p, q)).1 - m.b * (act m (p, q)).2 = m.det * p := by
      simp only [act, M.det]; grind
    rw [this, h, Int.one_mul]
  have e2 : m.a * (act m (p, q)).2 - m.c * (act m (p, q)).1 = q := by
    have : m.a * (act m (p, q)).2 - m.c * (act m (p, q)).1 = m.det * q := by
      simp only [act, M.det]; grind
    rw [this, h, Int.one_mul]
  have d1 : ((Int.gcd (act m (p, q)).1 (act m (p, q)).2 : Nat) : Int) ∣ p := by
    have := Int.dvd_sub (Int.dvd_trans h1 (Int.dvd_mul_left m.d _)) (Int.dvd_trans h2 (Int.dvd_mul_left m.b _))
    rwa [e1] at this
  have d2 : ((Int.gcd (act m (p, q)).1 (act m (p, q)).2 : Nat) : Int) ∣ q := by
    have := Int.dvd_sub (Int.dvd_trans h2 (Int.dvd_mul_left m.a _)) (Int.dvd_trans h1 (Int.dvd_mul_left m.c _))
    rwa [e2] at this
  have d3 := Int.dvd_coe_gcd d1 d2
  have g : Int.gcd p q = 1 := g
  rw [g] at d3
  exact Nat.dvd_one.mp (Int.natCast_dvd_natCast.mp d3)
theorem cop_ng {f : Fr} (h : cop f) : cop (ng f) := by
  unfold cop ng at *
  simpa using h
theorem sg_or (f : Fr) : sg f = f ∨ sg f = ng f := by unfold sg; split <;> simp
theorem cop_sg {f : Fr} (h : cop f) : cop (sg f) := by
  rcases sg_or f with e | e <;> rw [e]
  · exact h
  · exact cop_ng h
theorem ng_ng (f : Fr) : ng (ng f) = f := by simp [ng]
theorem pos_ng {f : Fr} (h : cop f) (n : ¬ posF f) : posF (ng f) := by
  obtain ⟨p, q⟩ := f
  unfold posF ng at *
  have n : ¬ (0 < q ∨ q = 0 ∧ 0 < p) := n
  show 0 < -q ∨ -q = 0 ∧ 0 < -p
  by_cases hq : q = 0
  · subst hq
    by_cases hp : p = 0
    · subst hp
      exact absurd (show Int.gcd 0 0 = 1 from h) (by decide)
    · right; omega
  · left; omega
theorem not_pos_ng {f : Fr} (h : posF f) : ¬ posF (ng f) := by
  obtain ⟨p, q⟩ := f
  unfold posF ng at *
  have h : 0 < q ∨ q = 0 ∧ 0 < p := h
  show ¬ (0 < -q ∨ -q = 0 ∧ 0 < -p)
  omega
theorem sg_ng {f : Fr} (h : cop f) : sg (ng f) = sg f := by
  unfold sg
  by_cases p : posF f
  · rw [if_pos p, if_neg (not_pos_ng p), ng_ng]
  · rw [if_neg p, if_pos (pos_ng h p)]
theorem sg_pos {f : Fr} (h : cop f) : posF (sg f) := by
  unfold sg; split
  · assumption
  · rename_i n; exact pos_ng h n
theorem tk_cop {m : M} {f : Fr} (h : m.det = 1) (g : cop f) : cop (tk m f) := cop_sg (cop_act h g)
theorem tk_ok {m : M} {f : Fr} (h : m.det = 1) (g : cop f) : FrOk (tk m f).1 (tk m f).2 := FrOk_iff.mpr ⟨tk_cop h g, sg_pos (cop_act h g)⟩
theorem tk_nf {m : M} {f : Fr} (h : m.det = 1) (g : cop f) : tk m.nf f = tk m f := by
  rcases M.nf_or m with e | e <;> rw [e]
  rw [tk_eq, act_neg, sg_ng (cop_act h g)]; rfl
theorem tk_sg {m : M} {f : Fr} (h : m.det = 1) (g : cop f) : tk m (sg f) = tk m f := by
  rcases sg_or f with e | e <;> rw [e]
  rw [tk_eq, act_ng, sg_ng (cop_act h g)]; rfl
theorem tk_times {m n : M} {f : Fr} (h : m.det = 1) (h' : n.det = 1) (g : cop f) : tk (m.times n) f = tk m (tk n f) := by
  unfold M.times
  rw [tk_nf (by rw [M.det_mul, h, h']; rfl) g, tk_eq, act_mul, ← tk_eq, tk_eq (m := n), tk_sg h (cop_act h' g)]
theorem tk_one {f : Fr} (g : FrOk f.1 f.2) : tk M.one f = f := by
  have e : act M.one f = f := by simp [act, M.one]
  rw [tk_eq, e]
  exact if_pos (FrOk_iff.mp g).2
theorem tk_back {m : M} {f : Fr} (h : m.ok) (g : FrOk f.1 f.2) : tk m (tk m.inv f) = f := by
  rw [← tk_times h.1 (M.inv_ok h).1 (FrOk_iff.mp g).1, M.times_inv h, tk_one g]
def szB (k : Nat) (f : Fr) : Prop := f.1.natAbs < 2 ^ k ∧ f.2.natAbs < 2 ^ k
theorem sg_szB {k : Nat} {f : Fr} (h : szB k f) : szB k (sg f) := by
  rcases sg_or f with e | e <;> rw [e]
  · exact h
  · exact ⟨by simpa [ng] using h.1, by simpa [ng] using h.2⟩
theorem tk_szB {n k : Nat} {m : M} {f : Fr} (h : m.sz n) (g : szB k f) : szB (n + k + 1) (tk m f) := by
  rw [tk_eq]
  refine sg_szB ⟨?_, ?_⟩
  · have := M.pair_lt h.1 h.2.1 g.1 g.2
    exact this
  · have := M.pair_lt h.2.2.1 h.2.2.2 g.1 g.2
    exact this
theorem szF_of {k : Nat} {f : Fr} (h : szB k f) (hk : k ≤ 3000) : szF f := by
  have e : 2 ^ k ≤ 2 ^ 3000 := Nat.pow_le_pow_right (by decide) hk
  exact ⟨Nat.lt_of_lt_of_le h.1 e, Nat.lt_of_lt_of_le h.2 e⟩
theorem strOk_wd {x : Str} (h : WordOk x) : badW x.cps.toList = none := badW_ok h
theorem badD_ok {x : Str} (h : WordOk x) (hl : x.length ≤ 2000) : badD (.str x) = none := by
  simp only [badD, if_pos hl, badW_ok h]; rfl
theorem withT_S {c : CA} {S L : SS} {k i : Nat} {o : GO} {f : M → Prop} : withT c (S.set k o ++ L) (.obj (S.length + i)) f = withTL c L[i]? f := by
  unfold withT withTL
  simp only [stS_new]
theorem withT_S0 {c : CA} {S L : SS} {k : Nat} {o : GO} {f : M → Prop} : withT c (S.set k o ++ L) (.obj S.length) f = withTL c L[0]? f := withT_S (i := 0)
theorem withTL_o {c : CA} {m : M} {f : M → Prop} : withTL c (some (oT c m)) f = f m := by
  simp only [withTL, turnO_oT]
theorem raised_good {c : CA} {S : SS} {k : Nat} {m m' : M} {n : Int} {Q : GQ} {X : GX} (h : S[k]? = some (oT c m)) (ho : m.ok) (hz : m.sz 40) (n0 : -13 ≤ n) (n1 : n ≤ 13) (e : (if 0 ≤ n then m.pw n.toNat else m.inv.pw (-n).toNat) = m') (q : Q (.obj S.length) (S ++ [oT c m'])) : sp_Turn_raised c [.obj k, .int n] S Q X := by
  rw [e_Turn_raised, withT_of h]
  exact ⟨⟨_, rfl, by simp [tyNames]⟩, ho, .inl ⟨n, rfl, by omega, by omega, .inr ⟨hz, n0, n1⟩, by rw [e]; exact q⟩⟩
def pF (f : Fr) : PyData := .tuple [.int f.1, .int f.2]
theorem call_good {c : CA} {S : SS} {k : Nat} {m : M} {f : Fr} {Q : GQ} {X : GX} (h : S[k]? = some (oT c m)) (hz : m.sz 3000) (fo : FrOk f.1 f.2) (fz : szB 200 f) (q : Q (dFp (tk m f)) S) : sp_Turn___call__ c [.obj k, dFp f] S Q X := by
  rw [e_Turn___call__, withT_of h]
  exact ⟨hz, .inl ⟨f.1, f.2, rfl, szF_of fz (by decide), fun _ => q, fun n => absurd fo n⟩⟩
theorem moved_good {c : CA} {S : SS} {m : M} {f : Fr} {Q : GQ} {X : GX} (hz : m.sz 3000) (fz : szB 200 f) (q : Q (dFp (tk m f)) S) : sp__law_moved c [dM m, dFp f] S Q X := by
  rw [e__law_moved, withM_dM]
  exact ⟨f.1, f.2, rfl, hz, szF_of fz (by decide), q⟩
theorem len__law_calls_right (c : CA) (ds : List D) (S : SS) (Q : GQ) (G : GX) (h : sp__law_calls_right c ds S Q G) : ds.length = 1 := sp1_len ds S Q G h
theorem vc__law_calls_right (c : CA) (hc : ClsOk c) (ds : List D) (S : SS) (Q : GQ) (G : GX) (h : sp__law_calls_right c ds S Q G) : Body (b__law_calls_right c) N__law_calls_right ds S Q G := by
  refine body1 h fun d h => ?_
  obtain ⟨k, cell, n, g, rfl, hk, n0, n1, h⟩ := withSrc_inv h
  have kl := st_lt hk
  unfold b__law_calls_right N__law_calls_right
  simp only [Body, gsSeq]
  simp only [Body, gsNx, gsAsg, gsPar2, gsRet, gsRetN, gsDrop, gsIf, gsBrk, gsCt, gsAug, gsFld, gsNever, gsFor, gC, gV, gNil, gCons, gTup, gLst, gBin, gUn, gChain, gAndV, gOrV, gNotV, gIfE, gCall, gBlt, gMake, gMeth, gFld, gProp, gtV, gtT, truD, gtAnd, gtOr, gtNot, gtYes, oAdd, oSub, oMul, oMod, oFdiv, oFdivW, oPow, oLt, oLe, oGt, oGe, uNeg, oIs, oIsNot, ggNil, ggCons, ggTup, ggP, ggSub, oSetIx, runP, runPs, putG, giLst, giTup, giStr, giRng1, giRng2, gLc, wipeG, atG, oIx, goNone, goSome, gSlice, oSl, cutG, sIxG, cLen, cMax2, cMin2, cAbs, cStr, cBool, cInt, cTuple, cList, cIsi, isiB, isiO, tyD_obj, tyD_non, tyD_bl, tyD_int, tyD_str, tyD_tup, tyD_rol, tyO, oOwn, oOwnB, oOwnU, cOwn, isBlD, isStrD, isLenD, cBoolO, cStrO, cLenO, oInO, gCallO, itemsD, gJoin, oJoin, cRepr1, tbs, oks, okK_self, okK_n1, okK_n2, okK_n3, okK_n4, okK_n5, okK_n6, okK_n7, sp1, sp2, sp3, oAddI, withM_dM, withM_lit, withI_of, withX_of, withO_of, withT_at, withT_at0, withTL_some, st_set_new, st_set_new0, st_get_new, st_get_new0, List.append_assoc, Nat.add_assoc, st_new, st_new0, stS_new, stS_new0, gsRaise0, gsRaise1, gsTryT, gFldE, cIsiE, isiEx, gDict0, gBM, isTupD, mSplit, mStarts, mTxt0, oRep, oMulS, gSliceK, oSlK, gRepl, ggUnl, gLam, gAct, gMakeV, gCon, gCallO, giEnumS, oInF, flatD, eqF, List.map_cons, List.map_nil, List.replicate, List.length_cons, List.length_nil, List.length_append, List.length_set, List.cons_append, List.nil_append, List.getElem?_cons_zero, List.getElem?_cons_succ, List.set_cons_zero, List.set_cons_succ, List.lookup, List.all_cons, List.all_nil, List.mem_cons, List.not_mem_nil, or_false, Nat.reduceAdd, Nat.reduceSub, Nat.zero_add, Nat.add_zero, beq_self_eq_true, Bool.and_true, Bool.true_and, Bool.not_true, Bool.not_false, if_true, if_false, Bool.false_eq_true, decide_true, decide_false, and_true, true_and, Nat.reduceLeDiff, String.reduceEq, String.reduceNe, String.reduceBEq, String.reduceBNe, Int.reduceNeg, Int.reduceLT, Int.reduceLE, Int.reduceAdd, Int.reduceMul, Int.reduceMod, Int.reducePow, reduceIte, false_or, true_or, or_true, or_self, false_and, and_false, Bool.or_false, Bool.false_or, Bool.true_or, Bool.or_true, Bool.and_false, Bool.false_and, decide_eq_true_eq, Bool.not_eq_true, Int.toNat_zero, Int.reduceToNat, Int.toNat_natCast, Int.reduceLE, Int.reduceLT, oEq_int, oNe_int, ↓reduceIte, Nat.lt_irrefl,  e__law_matrix, e__law_text, e__law_next, withSrc_S kl, withSrc_S0 kl, withSrc_of hk, List.set_set]
  refine ⟨n0, by omega, fun v1 n1' g1 v10 v11 n10 n11 => ⟨v10, by omega, n10, by omega, fun x1 n2 g2 hx1 hk1 w1 n20 n21 => ⟨n20, by omega, fun v2 n3 g3 v20 v21 n30 n31 => ⟨v20, by omega, n30, by omega, fun x2 n4 g4 hx2 hk2 w2 n40 n41 => ?_⟩⟩⟩⟩
  have hT : ∃ T, T = S.set k (srcO cell n4 g4) := ⟨_, rfl⟩
  simp only [gsSeq]
  simp only [Body, gsNx, gsAsg, gsPar2, gsRet, gsRetN, gsDrop, gsIf, gsBrk, gsCt, gsAug, gsFld, gsNever, gsFor, gC, gV, gNil, gCons, gTup, gLst, gBin, gUn, gChain, gAndV, gOrV, gNotV, gIfE, gCall, gBlt, gMake, gMeth, gFld, gProp, gtV, gtT, truD, gtAnd, gtOr, gtNot, gtYes, oAdd, oSub, oMul, oMod, oFdiv, oFdivW, oPow, oLt, oLe, oGt, oGe, uNeg, oIs, oIsNot, ggNil, ggCons, ggTup, ggP, ggSub, oSetIx, runP, runPs, putG, giLst, giTup, giStr, giRng1, giRng2, gLc, wipeG, atG, oIx, goNone, goSome, gSlice, oSl, cutG, sIxG, cLen, cMax2, cMin2, cAbs, cStr, cBool, cInt, cTuple, cList, cIsi, isiB, isiO, tyD_obj, tyD_non, tyD_bl, tyD_int, tyD_str, tyD_tup, tyD_rol, tyO, oOwn, oOwnB, oOwnU, cOwn, isBlD, isStrD, isLenD, cBoolO, cStrO, cLenO, oInO, gCallO, itemsD, gJoin, oJoin, cRepr1, tbs, oks, okK_self, okK_n1, okK_n2, okK_n3, okK_n4, okK_n5, okK_n6, okK_n7, sp1, sp2, sp3, oAddI, withM_dM, withM_lit, withI_of, withX_of, withO_of, withT_at, withT_at0, withTL_some, st_set_new, st_set_new0, st_get_new, st_get_new0, List.append_assoc, Nat.add_assoc, st_new, st_new0, stS_new, stS_new0, gsRaise0, gsRaise1, gsTryT, gFldE, cIsiE, isiEx, gDict0, gBM, isTupD, mSplit, mStarts, mTxt0, oRep, oMulS, gSliceK, oSlK, gRepl, ggUnl, gLam, gAct, gMakeV, gCon, gCallO, giEnumS, oInF, flatD, eqF, List.map_cons, List.map_nil, List.replicate, List.length_cons, List.length_nil, List.length_append, List.length_set, List.cons_append, List.nil_append, List.getElem?_cons_zero, List.getElem?_cons_succ, List.set_cons_zero, List.set_cons_succ, List.lookup, List.all_cons, List.all_nil, List.mem_cons, List.not_mem_nil, or_false, Nat.reduceAdd, Nat.reduceSub, Nat.zero_add, Nat.add_zero, beq_self_eq_true, Bool.and_true, Bool.true_and, Bool.not_true, Bool.not_false, if_true, if_false, Bool.false_eq_true, decide_true, decide_false, and_true, true_and, Nat.reduceLeDiff, String.reduceEq, String.reduceNe, String.reduceBEq, String.reduceBNe, Int.reduceNeg, Int.reduceLT, Int.reduceLE, Int.reduceAdd, Int.reduceMul, Int.reduceMod, Int.reducePow, reduceIte, false_or, true_or, or_true, or_self, false_and, and_false, Bool.or_false, Bool.false_or, Bool.true_or, Bool.or_true, Bool.and_false, Bool.false_and, decide_eq_true_eq, Bool.not_eq_true, Int.toNat_zero, Int.reduceToNat, Int.toNat_natCast, Int.reduceLE, Int.reduceLT, oEq_int, oNe_int, ↓reduceIte, Nat.lt_irrefl,  e__law_matrix, e__law_next, e_Turn_of_word, List.set_set]
  have l1 : x1.length ≤ 12 := by omega
  have l2 : x2.length ≤ 12 := by omega
  rw [badD_ok w1 (by omega), badD_ok w2 (by omega)]
  have pvs : ∀ (S : SS) (x : Str), pv S (.str x) := fun S x => ⟨_, rfl, by simp [tyNames]⟩
  refine ⟨pvs _ _, fun x e => by cases e; omega, pvs _ _, fun x e => by cases e; omega, ?_⟩
  clear hT
  simp only [gsSeq]
  simp only [Body, gsNx, gsAsg, gsPar2, gsRet, gsRetN, gsDrop, gsIf, gsBrk, gsCt, gsAug, gsFld, gsNever, gsFor, gC, gV, gNil, gCons, gTup, gLst, gBin, gUn, gChain, gAndV, gOrV, gNotV, gIfE, gCall, gBlt, gMake, gMeth, gFld, gProp, gtV, gtT, truD, gtAnd, gtOr, gtNot, gtYes, oAdd, oSub, oMul, oMod, oFdiv, oFdivW, oPow, oLt, oLe, oGt, oGe, uNeg, oIs, oIsNot, ggNil, ggCons, ggTup, ggP, ggSub, oSetIx, runP, runPs, putG, giLst, giTup, giStr, giRng1, giRng2, gLc, wipeG, atG, oIx, goNone, goSome, gSlice, oSl, cutG, sIxG, cLen, cMax2, cMin2, cAbs, cStr, cBool, cInt, cTuple, cList, cIsi, isiB, isiO, tyD_obj, tyD_non, tyD_bl, tyD_int, tyD_str, tyD_tup, tyD_rol, tyO, oOwn, oOwnB, oOwnU, cOwn, isBlD, isStrD, isLenD, cBoolO, cStrO, cLenO, oInO, gCallO, itemsD, gJoin, oJoin, cRepr1, tbs, oks, okK_self, okK_n1, okK_n2, okK_n3, okK_n4, okK_n5, okK_n6, okK_n7, sp1, sp2, sp3, oAddI, withM_dM, withM_lit, withI_of, withX_of, withO_of, withT_at, withT_at0, withTL_some, st_set_new, st_set_new0, st_get_new, st_get_new0, List.append_assoc, Nat.add_assoc, st_new, st_new0, stS_new, stS_new0, gsRaise0, gsRaise1, gsTryT, gFldE, cIsiE, isiEx, gDict0, gBM, isTupD, mSplit, mStarts, mTxt0, oRep, oMulS, gSliceK, oSlK, gRepl, ggUnl, gLam, gAct, gMakeV, gCon, gCallO, giEnumS, oInF, flatD, eqF, List.map_cons, List.map_nil, List.replicate, List.length_cons, List.length_nil, List.length_append, List.length_set, List.cons_append, List.nil_append, List.getElem?_cons_zero, List.getElem?_cons_succ, List.set_cons_zero, List.set_cons_succ, List.lookup, List.all_cons, List.all_nil, List.mem_cons, List.not_mem_nil, or_false, Nat.reduceAdd, Nat.reduceSub, Nat.zero_add, Nat.add_zero, beq_self_eq_true, Bool.and_true, Bool.true_and, Bool.not_true, Bool.not_false, if_true, if_false, Bool.false_eq_true, decide_true, decide_false, and_true, true_and, Nat.reduceLeDiff, String.reduceEq, String.reduceNe, String.reduceBEq, String.reduceBNe, Int.reduceNeg, Int.reduceLT, Int.reduceLE, Int.reduceAdd, Int.reduceMul, Int.reduceMod, Int.reducePow, reduceIte, false_or, true_or, or_true, or_self, false_and, and_false, Bool.or_false, Bool.false_or, Bool.true_or, Bool.or_true, Bool.and_false, Bool.false_and, decide_eq_true_eq, Bool.not_eq_true, Int.toNat_zero, Int.reduceToNat, Int.toNat_natCast, Int.reduceLE, Int.reduceLT, oEq_int, oNe_int, ↓reduceIte, Nat.lt_irrefl,  e__law_matrix, e__law_next, List.set_set, withSrc_S kl]
  refine ⟨by omega, hk1, by omega, hk2, ?_⟩
  simp only [gsSeq]
  simp only [Body, gsNx, gsAsg, gsPar2, gsRet, gsRetN, gsDrop, gsIf, gsBrk, gsCt, gsAug, gsFld, gsNever, gsFor, gC, gV, gNil, gCons, gTup, gLst, gBin, gUn, gChain, gAndV, gOrV, gNotV, gIfE, gCall, gBlt, gMake, gMeth, gFld, gProp, gtV, gtT, truD, gtAnd, gtOr, gtNot, gtYes, oAdd, oSub, oMul, oMod, oFdiv, oFdivW, oPow, oLt, oLe, oGt, oGe, uNeg, oIs, oIsNot, ggNil, ggCons, ggTup, ggP, ggSub, oSetIx, runP, runPs, putG, giLst, giTup, giStr, giRng1, giRng2, gLc, wipeG, atG, oIx, goNone, goSome, gSlice, oSl, cutG, sIxG, cLen, cMax2, cMin2, cAbs, cStr, cBool, cInt, cTuple, cList, cIsi, isiB, isiO, tyD_obj, tyD_non, tyD_bl, tyD_int, tyD_str, tyD_tup, tyD_rol, tyO, oOwn, oOwnB, oOwnU, cOwn, isBlD, isStrD, isLenD, cBoolO, cStrO, cLenO, oInO, gCallO, itemsD, gJoin, oJoin, cRepr1, tbs, oks, okK_self, okK_n1, okK_n2, okK_n3, okK_n4, okK_n5, okK_n6, okK_n7, sp1, sp2, sp3, oAddI, withM_dM, withM_lit, withI_of, withX_of, withO_of, withT_at, withT_at0, withTL_some, st_set_new, st_set_new0, st_get_new, st_get_new0, List.append_assoc, Nat.add_assoc, st_new, st_new0, stS_new, stS_new0, gsRaise0, gsRaise1, gsTryT, gFldE, cIsiE, isiEx, gDict0, gBM, isTupD, mSplit, mStarts, mTxt0, oRep, oMulS, gSliceK, oSlK, gRepl, ggUnl, gLam, gAct, gMakeV, gCon, gCallO, giEnumS, oInF, flatD, eqF, List.map_cons, List.map_nil, List.replicate, List.length_cons, List.length_nil, List.length_append, List.length_set, List.cons_append, List.nil_append, List.getElem?_cons_zero, List.getElem?_cons_succ, List.set_cons_zero, List.set_cons_succ, List.lookup, List.all_cons, List.all_nil, List.mem_cons, List.not_mem_nil, or_false, Nat.reduceAdd, Nat.reduceSub, Nat.zero_add, Nat.add_zero, beq_self_eq_true, Bool.and_true, Bool.true_and, Bool.not_true, Bool.not_false, if_true, if_false, Bool.false_eq_true, decide_true, decide_false, and_true, true_and, Nat.reduceLeDiff, String.reduceEq, String.reduceNe, String.reduceBEq, String.reduceBNe, Int.reduceNeg, Int.reduceLT, Int.reduceLE, Int.reduceAdd, Int.reduceMul, Int.reduceMod, Int.reducePow, reduceIte, false_or, true_or, or_true, or_self, false_and, and_false, Bool.or_false, Bool.false_or, Bool.true_or, Bool.or_true, Bool.and_false, Bool.false_and, decide_eq_true_eq, Bool.not_eq_true, Int.toNat_zero, Int.reduceToNat, Int.toNat_natCast, Int.reduceLE, Int.reduceLT, oEq_int, oNe_int, ↓reduceIte, Nat.lt_irrefl,  e__law_next, List.set_set, withSrc_S kl]
  refine ⟨by decide, n40, by omega, fun v5 n5 g5 v50 v51 n50 n51 => ?_⟩
  have hf : ∃ f : Fr, (if 0 ≤ v5 then [D.tup [D.int 1, D.int 0], D.tup [D.int 0, D.int 1], D.tup [D.int 3, D.int 7], D.tup [D.int (-10), D.int 3], D.tup [D.int 100000000000000000000, D.int 3]][v5.toNat]? else
      if -((5 : Nat) : Int) ≤ v5 then [D.tup [D.int 1, D.int 0], D.tup [D.int 0, D.int 1], D.tup [D.int 3, D.int 7], D.tup [D.int (-10), D.int 3], D.tup [D.int 100000000000000000000, D.int 3]][(v5 + ((5 : Nat) : Int)).toNat]? else none) = some (dFp f) ∧ FrOk f.1 f.2 ∧ szB 80 f := by
    have : v5 = 0 ∨ v5 = 1 ∨ v5 = 2 ∨ v5 = 3 ∨ v5 = 4 := by omega
    rcases this with rfl | rfl | rfl | rfl | rfl
    · exact ⟨(1, 0), rfl, .inl ⟨rfl, rfl⟩, by decide, by decide⟩
    · exact ⟨(0, 1), rfl, .inr ⟨by decide, by decide⟩, by decide, by decide⟩
    · exact ⟨(3, 7), rfl, .inr ⟨by decide, by decide⟩, by decide, by decide⟩
    · exact ⟨(-10, 3), rfl, .inr ⟨by decide, by decide⟩, by decide, by decide⟩
    · exact ⟨(100000000000000000000, 3), rfl, .inr ⟨by decide, by decide +kernel⟩, by decide, by decide⟩
  obtain ⟨f, hf, fo, fz⟩ := hf
  have hu := matW_ok x1.cps.toList
  have su : (matW x1.cps.toList).sz 25 := M.sz_mono (matW_sz _) (by have : x1.cps.toList.length = x1.length := by simp [Str.length]
                                                                    omega)
  generalize matW x1.cps.toList = u at hu su ⊢
  have hv := matW_ok x2.cps.toList
  have sv : (matW x2.cps.toList).sz 25 := M.sz_mono (matW_sz _) (by have : x2.cps.toList.length = x2.length := by simp [Str.length]
                                                                    omega)
  generalize matW x2.cps.toList = v at hv sv ⊢
  rw [stS_set kl]
  simp only [Body, gsNx, gsAsg, gsPar2, gsRet, gsRetN, gsDrop, gsIf, gsBrk, gsCt, gsAug, gsFld, gsNever, gsFor, gC, gV, gNil, gCons, gTup, gLst, gBin, gUn, gChain, gAndV, gOrV, gNotV, gIfE, gCall, gBlt, gMake, gMeth, gFld, gProp, gtV, gtT, truD, gtAnd, gtOr, gtNot, gtYes, oAdd, oSub, oMul, oMod, oFdiv, oFdivW, oPow, oLt, oLe, oGt, oGe, uNeg, oIs, oIsNot, ggNil, ggCons, ggTup, ggP, ggSub, oSetIx, runP, runPs, putG, giLst, giTup, giStr, giRng1, giRng2, gLc, wipeG, atG, oIx, goNone, goSome, gSlice, oSl, cutG, sIxG, cLen, cMax2, cMin2, cAbs, cStr, cBool, cInt, cTuple, cList, cIsi, isiB, isiO, tyD_obj, tyD_non, tyD_bl, tyD_int, tyD_str, tyD_tup, tyD_rol, tyO, oOwn, oOwnB, oOwnU, cOwn, isBlD, isStrD, isLenD, cBoolO, cStrO, cLenO, oInO, gCallO, itemsD, gJoin, oJoin, cRepr1, tbs, oks, okK_self, okK_n1, okK_n2, okK_n3, okK_n4, okK_n5, okK_n6, okK_n7, sp1, sp2, sp3, oAddI, withM_dM, withM_lit, withI_of, withX_of, withO_of, withT_at, withT_at0, withTL_some, st_set_new, st_set_new0, st_get_new, st_get_new0, List.append_assoc, Nat.add_assoc, st_new, st_new0, stS_new, stS_new0, gsRaise0, gsRaise1, gsTryT, gFldE, cIsiE, isiEx, gDict0, gBM, isTupD, mSplit, mStarts, mTxt0, oRep, oMulS, gSliceK, oSlK, gRepl, ggUnl, gLam, gAct, gMakeV, gCon, gCallO, giEnumS, oInF, flatD, eqF, List.map_cons, List.map_nil, List.replicate, List.length_cons, List.length_nil, List.length_append, List.length_set, List.cons_append, List.nil_append, List.getElem?_cons_zero, List.getElem?_cons_succ, List.set_cons_zero, List.set_cons_succ, List.lookup, List.all_cons, List.all_nil, List.mem_cons, List.not_mem_nil, or_false, Nat.reduceAdd, Nat.reduceSub, Nat.zero_add, Nat.add_zero, beq_self_eq_true, Bool.and_true, Bool.true_and, Bool.not_true, Bool.not_false, if_true, if_false, Bool.false_eq_true, decide_true, decide_false, and_true, true_and, Nat.reduceLeDiff, String.reduceEq, String.reduceNe, String.reduceBEq, String.reduceBNe, Int.reduceNeg, Int.reduceLT, Int.reduceLE, Int.reduceAdd, Int.reduceMul, Int.reduceMod, Int.reducePow, reduceIte, false_or, true_or, or_true, or_self, false_and, and_false, Bool.or_false, Bool.false_or, Bool.true_or, Bool.or_true, Bool.and_false, Bool.false_and, decide_eq_true_eq, Bool.not_eq_true, Int.toNat_zero, Int.reduceToNat, Int.toNat_natCast, Int.reduceLE, Int.reduceLT, oEq_int, oNe_int, ↓reduceIte, Nat.lt_irrefl,  List.set_set]
  rw [hf]
  have z1 : u.sz 3000 := M.sz_mono su (by decide)
  have z2 : v.sz 3000 := M.sz_mono sv (by decide)
  have fz2 : szB 200 f := ⟨Nat.lt_trans fz.1 (by decide), Nat.lt_trans fz.2 (by decide)⟩
  obtain ⟨T, hT⟩ : ∃ T, T = S.set k (srcO cell n5 g5) := ⟨_, rfl⟩
  have tl : S.length = T.length := by rw [hT, List.length_set]
  have kT : T[k]? = some (srcO cell n5 g5) := by rw [hT]; exact stS_kk kl
  rw [← hT, tl]
  have hu1 : u.sz 1000 := M.sz_mono su (by decide)
  have hv1 : v.sz 1000 := M.sz_mono sv (by decide)
  have suv : (u.times v).sz 51 := M.times_sz su sv
  have siu : u.inv.sz 25 := M.inv_sz su
  have iu := M.inv_ok hu
  have z3 : (u.times v).sz 3000 := M.sz_mono suv (by decide)
  have z4 : u.inv.sz 3000 := M.sz_mono siu (by decide)
  have gf := (FrOk_iff.mp fo).1
  have fv : FrOk (tk v f).1 (tk v f).2 := tk_ok hv.1 gf
  have zv : szB 200 (tk v f) := ⟨Nat.lt_of_lt_of_le (tk_szB sv fz).1 (by decide), Nat.lt_of_lt_of_le (tk_szB sv fz).2 (by decide)⟩
  have fi : FrOk (tk u.inv f).1 (tk u.inv f).2 := tk_ok iu.1 gf
  have zi : szB 200 (tk u.inv f) := ⟨Nat.lt_of_lt_of_le (tk_szB siu fz).1 (by decide), Nat.lt_of_lt_of_le (tk_szB siu fz).2 (by decide)⟩
  have euv : tk (u.times v) f = tk u (tk v f) := tk_times hu.1 hv.1 gf
  have eui : tk u (tk u.inv f) = f := tk_back hu fo
  simp only [gsSeq]
  simp only [Body, gsNx, gsAsg, gsPar2, gsRet, gsRetN, gsDrop, gsIf, gsBrk, gsCt, gsAug, gsFld, gsNever, gsFor, gC, gV, gNil, gCons, gTup, gLst, gBin, gUn, gChain, gAndV, gOrV, gNotV, gIfE, gCall, gBlt, gMake, gMeth, gFld, gProp, gtV, gtT, truD, gtAnd, gtOr, gtNot, gtYes, oAdd, oSub, oMul, oMod, oFdiv, oFdivW, oPow, oLt, oLe, oGt, oGe, uNeg, oIs, oIsNot, ggNil, ggCons, ggTup, ggP, ggSub, oSetIx, runP, runPs, putG, giLst, giTup, giStr, giRng1, giRng2, gLc, wipeG, atG, oIx, goNone, goSome, gSlice, oSl, cutG, sIxG, cLen, cMax2, cMin2, cAbs, cStr, cBool, cInt, cTuple, cList, cIsi, isiB, isiO, tyD_obj, tyD_non, tyD_bl, tyD_int, tyD_str, tyD_tup, tyD_rol, tyO, oOwn, oOwnB, oOwnU, cOwn, isBlD, isStrD, isLenD, cBoolO, cStrO, cLenO, oInO, gCallO, itemsD, gJoin, oJoin, cRepr1, tbs, oks, okK_self, okK_n1, okK_n2, okK_n3, okK_n4, okK_n5, okK_n6, okK_n7, sp1, sp2, sp3, oAddI, withM_dM, withM_lit, withI_of, withX_of, withO_of, withT_at, withT_at0, withTL_some, st_set_new, st_set_new0, st_get_new, st_get_new0, List.append_assoc, Nat.add_assoc, st_new, st_new0, stS_new, stS_new0, gsRaise0, gsRaise1, gsTryT, gFldE, cIsiE, isiEx, gDict0, gBM, isTupD, mSplit, mStarts, mTxt0, oRep, oMulS, gSliceK, oSlK, gRepl, ggUnl, gLam, gAct, gMakeV, gCon, gCallO, giEnumS, oInF, flatD, eqF, List.map_cons, List.map_nil, List.replicate, List.length_cons, List.length_nil, List.length_append, List.length_set, List.cons_append, List.nil_append, List.getElem?_cons_zero, List.getElem?_cons_succ, List.set_cons_zero, List.set_cons_succ, List.lookup, List.all_cons, List.all_nil, List.mem_cons, List.not_mem_nil, or_false, Nat.reduceAdd, Nat.reduceSub, Nat.zero_add, Nat.add_zero, beq_self_eq_true, Bool.and_true, Bool.true_and, Bool.not_true, Bool.not_false, if_true, if_false, Bool.false_eq_true, decide_true, decide_false, and_true, true_and, Nat.reduceLeDiff, String.reduceEq, String.reduceNe, String.reduceBEq, String.reduceBNe, Int.reduceNeg, Int.reduceLT, Int.reduceLE, Int.reduceAdd, Int.reduceMul, Int.reduceMod, Int.reducePow, reduceIte, false_or, true_or, or_true, or_self, false_and, and_false, Bool.or_false, Bool.false_or, Bool.true_or, Bool.or_true, Bool.and_false, Bool.false_and, decide_eq_true_eq, Bool.not_eq_true, Int.toNat_zero, Int.reduceToNat, Int.toNat_natCast, Int.reduceLE, Int.reduceLT, oEq_int, oNe_int, ↓reduceIte, Nat.lt_irrefl,  e_Turn_rows, oT, HELD]
  refine call_good (m := u) (by rw [st_new0]; rfl) z1 fo fz2 ?_
  simp only [Body, gsNx, gsAsg, gsPar2, gsRet, gsRetN, gsDrop, gsIf, gsBrk, gsCt, gsAug, gsFld, gsNever, gsFor, gC, gV, gNil, gCons, gTup, gLst, gBin, gUn, gChain, gAndV, gOrV, gNotV, gIfE, gCall, gBlt, gMake, gMeth, gFld, gProp, gtV, gtT, truD, gtAnd, gtOr, gtNot, gtYes, oAdd, oSub, oMul, oMod, oFdiv, oFdivW, oPow, oLt, oLe, oGt, oGe, uNeg, oIs, oIsNot, ggNil, ggCons, ggTup, ggP, ggSub, oSetIx, runP, runPs, putG, giLst, giTup, giStr, giRng1, giRng2, gLc, wipeG, atG, oIx, goNone, goSome, gSlice, oSl, cutG, sIxG, cLen, cMax2, cMin2, cAbs, cStr, cBool, cInt, cTuple, cList, cIsi, isiB, isiO, tyD_obj, tyD_non, tyD_bl, tyD_int, tyD_str, tyD_tup, tyD_rol, tyO, oOwn, oOwnB, oOwnU, cOwn, isBlD, isStrD, isLenD, cBoolO, cStrO, cLenO, oInO, gCallO, itemsD, gJoin, oJoin, cRepr1, tbs, oks, okK_self, okK_n1, okK_n2, okK_n3, okK_n4, okK_n5, okK_n6, okK_n7, sp1, sp2, sp3, oAddI, withM_dM, withM_lit, withI_of, withX_of, withO_of, withT_at, withT_at0, withTL_some, st_set_new, st_set_new0, st_get_new, st_get_new0, List.append_assoc, Nat.add_assoc, st_new, st_new0, stS_new, stS_new0, gsRaise0, gsRaise1, gsTryT, gFldE, cIsiE, isiEx, gDict0, gBM, isTupD, mSplit, mStarts, mTxt0, oRep, oMulS, gSliceK, oSlK, gRepl, ggUnl, gLam, gAct, gMakeV, gCon, gCallO, giEnumS, oInF, flatD, eqF, List.map_cons, List.map_nil, List.replicate, List.length_cons, List.length_nil, List.length_append, List.length_set, List.cons_append, List.nil_append, List.getElem?_cons_zero, List.getElem?_cons_succ, List.set_cons_zero, List.set_cons_succ, List.lookup, List.all_cons, List.all_nil, List.mem_cons, List.not_mem_nil, or_false, Nat.reduceAdd, Nat.reduceSub, Nat.zero_add, Nat.add_zero, beq_self_eq_true, Bool.and_true, Bool.true_and, Bool.not_true, Bool.not_false, if_true, if_false, Bool.false_eq_true, decide_true, decide_false, and_true, true_and, Nat.reduceLeDiff, String.reduceEq, String.reduceNe, String.reduceBEq, String.reduceBNe, Int.reduceNeg, Int.reduceLT, Int.reduceLE, Int.reduceAdd, Int.reduceMul, Int.reduceMod, Int.reducePow, reduceIte, false_or, true_or, or_true, or_self, false_and, and_false, Bool.or_false, Bool.false_or, Bool.true_or, Bool.or_true, Bool.and_false, Bool.false_and, decide_eq_true_eq, Bool.not_eq_true, Int.toNat_zero, Int.reduceToNat, Int.toNat_natCast, Int.reduceLE, Int.reduceLT, oEq_int, oNe_int, ↓reduceIte, Nat.lt_irrefl,  e_Turn_rows, oT, HELD]
  refine moved_good z1 fz2 ?_
  simp only [Body, gsNx, gsAsg, gsPar2, gsRet, gsRetN, gsDrop, gsIf, gsBrk, gsCt, gsAug, gsFld, gsNever, gsFor, gC, gV, gNil, gCons, gTup, gLst, gBin, gUn, gChain, gAndV, gOrV, gNotV, gIfE, gCall, gBlt, gMake, gMeth, gFld, gProp, gtV, gtT, truD, gtAnd, gtOr, gtNot, gtYes, oAdd, oSub, oMul, oMod, oFdiv, oFdivW, oPow, oLt, oLe, oGt, oGe, uNeg, oIs, oIsNot, ggNil, ggCons, ggTup, ggP, ggSub, oSetIx, runP, runPs, putG, giLst, giTup, giStr, giRng1, giRng2, gLc, wipeG, atG, oIx, goNone, goSome, gSlice, oSl, cutG, sIxG, cLen, cMax2, cMin2, cAbs, cStr, cBool, cInt, cTuple, cList, cIsi, isiB, isiO, tyD_obj, tyD_non, tyD_bl, tyD_int, tyD_str, tyD_tup, tyD_rol, tyO, oOwn, oOwnB, oOwnU, cOwn, isBlD, isStrD, isLenD, cBoolO, cStrO, cLenO, oInO, gCallO, itemsD, gJoin, oJoin, cRepr1, tbs, oks, okK_self, okK_n1, okK_n2, okK_n3, okK_n4, okK_n5, okK_n6, okK_n7, sp1, sp2, sp3, oAddI, withM_dM, withM_lit, withI_of, withX_of, withO_of, withT_at, withT_at0, withTL_some, st_set_new, st_set_new0, st_get_new, st_get_new0, List.append_assoc, Nat.add_assoc, st_new, st_new0, stS_new, stS_new0, gsRaise0, gsRaise1, gsTryT, gFldE, cIsiE, isiEx, gDict0, gBM, isTupD, mSplit, mStarts, mTxt0, oRep, oMulS, gSliceK, oSlK, gRepl, ggUnl, gLam, gAct, gMakeV, gCon, gCallO, giEnumS, oInF, flatD, eqF, List.map_cons, List.map_nil, List.replicate, List.length_cons, List.length_nil, List.length_append, List.length_set, List.cons_append, List.nil_append, List.getElem?_cons_zero, List.getElem?_cons_succ, List.set_cons_zero, List.set_cons_succ, List.lookup, List.all_cons, List.all_nil, List.mem_cons, List.not_mem_nil, or_false, Nat.reduceAdd, Nat.reduceSub, Nat.zero_add, Nat.add_zero, beq_self_eq_true, Bool.and_true, Bool.true_and, Bool.not_true, Bool.not_false, if_true, if_false, Bool.false_eq_true, decide_true, decide_false, and_true, true_and, Nat.reduceLeDiff, String.reduceEq, String.reduceNe, String.reduceBEq, String.reduceBNe, Int.reduceNeg, Int.reduceLT, Int.reduceLE, Int.reduceAdd, Int.reduceMul, Int.reduceMod, Int.reducePow, reduceIte, false_or, true_or, or_true, or_self, false_and, and_false, Bool.or_false, Bool.false_or, Bool.true_or, Bool.or_true, Bool.and_false, Bool.false_and, decide_eq_true_eq, Bool.not_eq_true, Int.toNat_zero, Int.reduceToNat, Int.toNat_natCast, Int.reduceLE, Int.reduceLT, oEq_int, oNe_int, ↓reduceIte, Nat.lt_irrefl,  e_Turn_rows, oT, HELD]
  refine oNe_lsts (ps := [pM u, pM v, pF (tk u f)]) rfl rfl (seqP_cons toP_M (seqP_cons toP_M (seqP_cons rfl rfl))) rfl ?_
  simp only [gsSeq]
  simp only [Body, gsNx, gsAsg, gsPar2, gsRet, gsRetN, gsDrop, gsIf, gsBrk, gsCt, gsAug, gsFld, gsNever, gsFor, gC, gV, gNil, gCons, gTup, gLst, gBin, gUn, gChain, gAndV, gOrV, gNotV, gIfE, gCall, gBlt, gMake, gMeth, gFld, gProp, gtV, gtT, truD, gtAnd, gtOr, gtNot, gtYes, oAdd, oSub, oMul, oMod, oFdiv, oFdivW, oPow, oLt, oLe, oGt, oGe, uNeg, oIs, oIsNot, ggNil, ggCons, ggTup, ggP, ggSub, oSetIx, runP, runPs, putG, giLst, giTup, giStr, giRng1, giRng2, gLc, wipeG, atG, oIx, goNone, goSome, gSlice, oSl, cutG, sIxG, cLen, cMax2, cMin2, cAbs, cStr, cBool, cInt, cTuple, cList, cIsi, isiB, isiO, tyD_obj, tyD_non, tyD_bl, tyD_int, tyD_str, tyD_tup, tyD_rol, tyO, oOwn, oOwnB, oOwnU, cOwn, isBlD, isStrD, isLenD, cBoolO, cStrO, cLenO, oInO, gCallO, itemsD, gJoin, oJoin, cRepr1, tbs, oks, okK_self, okK_n1, okK_n2, okK_n3, okK_n4, okK_n5, okK_n6, okK_n7, sp1, sp2, sp3, oAddI, withM_dM, withM_lit, withI_of, withX_of, withO_of, withT_at, withT_at0, withTL_some, st_set_new, st_set_new0, st_get_new, st_get_new0, List.append_assoc, Nat.add_assoc, st_new, st_new0, stS_new, stS_new0, gsRaise0, gsRaise1, gsTryT, gFldE, cIsiE, isiEx, gDict0, gBM, isTupD, mSplit, mStarts, mTxt0, oRep, oMulS, gSliceK, oSlK, gRepl, ggUnl, gLam, gAct, gMakeV, gCon, gCallO, giEnumS, oInF, flatD, eqF, List.map_cons, List.map_nil, List.replicate, List.length_cons, List.length_nil, List.length_append, List.length_set, List.cons_append, List.nil_append, List.getElem?_cons_zero, List.getElem?_cons_succ, List.set_cons_zero, List.set_cons_succ, List.lookup, List.all_cons, List.all_nil, List.mem_cons, List.not_mem_nil, or_false, Nat.reduceAdd, Nat.reduceSub, Nat.zero_add, Nat.add_zero, beq_self_eq_true, Bool.and_true, Bool.true_and, Bool.not_true, Bool.not_false, if_true, if_false, Bool.false_eq_true, decide_true, decide_false, and_true, true_and, Nat.reduceLeDiff, String.reduceEq, String.reduceNe, String.reduceBEq, String.reduceBNe, Int.reduceNeg, Int.reduceLT, Int.reduceLE, Int.reduceAdd, Int.reduceMul, Int.reduceMod, Int.reducePow, reduceIte, false_or, true_or, or_true, or_self, false_and, and_false, Bool.or_false, Bool.false_or, Bool.true_or, Bool.or_true, Bool.and_false, Bool.false_and, decide_eq_true_eq, Bool.not_eq_true, Int.toNat_zero, Int.reduceToNat, Int.toNat_natCast, Int.reduceLE, Int.reduceLT, oEq_int, oNe_int, ↓reduceIte, Nat.lt_irrefl,  e_Turn_rows, e_Turn___mul__, e_Turn___invert__, oT, HELD]
  refine ⟨hu1, hv1, hu, hv, ?_⟩
  refine call_good (m := u.times v) (by rw [st_new]; rfl) z3 fo fz2 ?_
  simp only [Body, gsNx, gsAsg, gsPar2, gsRet, gsRetN, gsDrop, gsIf, gsBrk, gsCt, gsAug, gsFld, gsNever, gsFor, gC, gV, gNil, gCons, gTup, gLst, gBin, gUn, gChain, gAndV, gOrV, gNotV, gIfE, gCall, gBlt, gMake, gMeth, gFld, gProp, gtV, gtT, truD, gtAnd, gtOr, gtNot, gtYes, oAdd, oSub, oMul, oMod, oFdiv, oFdivW, oPow, oLt, oLe, oGt, oGe, uNeg, oIs, oIsNot, ggNil, ggCons, ggTup, ggP, ggSub, oSetIx, runP, runPs, putG, giLst, giTup, giStr, giRng1, giRng2, gLc, wipeG, atG, oIx, goNone, goSome, gSlice, oSl, cutG, sIxG, cLen, cMax2, cMin2, cAbs, cStr, cBool, cInt, cTuple, cList, cIsi, isiB, isiO, tyD_obj, tyD_non, tyD_bl, tyD_int, tyD_str, tyD_tup, tyD_rol, tyO, oOwn, oOwnB, oOwnU, cOwn, isBlD, isStrD, isLenD, cBoolO, cStrO, cLenO, oInO, gCallO, itemsD, gJoin, oJoin, cRepr1, tbs, oks, okK_self, okK_n1, okK_n2, okK_n3, okK_n4, okK_n5, okK_n6, okK_n7, sp1, sp2, sp3, oAddI, withM_dM, withM_lit, withI_of, withX_of, withO_of, withT_at, withT_at0, withTL_some, st_set_new, st_set_new0, st_get_new, st_get_new0, List.append_assoc, Nat.add_assoc, st_new, st_new0, stS_new, stS_new0, gsRaise0, gsRaise1, gsTryT, gFldE, cIsiE, isiEx, gDict0, gBM, isTupD, mSplit, mStarts, mTxt0, oRep, oMulS, gSliceK, oSlK, gRepl, ggUnl, gLam, gAct, gMakeV, gCon, gCallO, giEnumS, oInF, flatD, eqF, List.map_cons, List.map_nil, List.replicate, List.length_cons, List.length_nil, List.length_append, List.length_set, List.cons_append, List.nil_append, List.getElem?_cons_zero, List.getElem?_cons_succ, List.set_cons_zero, List.set_cons_succ, List.lookup, List.all_cons, List.all_nil, List.mem_cons, List.not_mem_nil, or_false, Nat.reduceAdd, Nat.reduceSub, Nat.zero_add, Nat.add_zero, beq_self_eq_true, Bool.and_true, Bool.true_and, Bool.not_true, Bool.not_false, if_true, if_false, Bool.false_eq_true, decide_true, decide_false, and_true, true_and, Nat.reduceLeDiff, String.reduceEq, String.reduceNe, String.reduceBEq, String.reduceBNe, Int.reduceNeg, Int.reduceLT, Int.reduceLE, Int.reduceAdd, Int.reduceMul, Int.reduceMod, Int.reducePow, reduceIte, false_or, true_or, or_true, or_self, false_and, and_false, Bool.or_false, Bool.false_or, Bool.true_or, Bool.or_true, Bool.and_false, Bool.false_and, decide_eq_true_eq, Bool.not_eq_true, Int.toNat_zero, Int.reduceToNat, Int.toNat_natCast, Int.reduceLE, Int.reduceLT, oEq_int, oNe_int, ↓reduceIte, Nat.lt_irrefl,  e_Turn_rows, e_Turn___mul__, e_Turn___invert__, oT, HELD]
  refine call_good (m := v) (by rw [st_new]; rfl) z2 fo fz2 ?_
  simp only [Body, gsNx, gsAsg, gsPar2, gsRet, gsRetN, gsDrop, gsIf, gsBrk, gsCt, gsAug, gsFld, gsNever, gsFor, gC, gV, gNil, gCons, gTup, gLst, gBin, gUn, gChain, gAndV, gOrV, gNotV, gIfE, gCall, gBlt, gMake, gMeth, gFld, gProp, gtV, gtT, truD, gtAnd, gtOr, gtNot, gtYes, oAdd, oSub, oMul, oMod, oFdiv, oFdivW, oPow, oLt, oLe, oGt, oGe, uNeg, oIs, oIsNot, ggNil, ggCons, ggTup, ggP, ggSub, oSetIx, runP, runPs, putG, giLst, giTup, giStr, giRng1, giRng2, gLc, wipeG, atG, oIx, goNone, goSome, gSlice, oSl, cutG, sIxG, cLen, cMax2, cMin2, cAbs, cStr, cBool, cInt, cTuple, cList, cIsi, isiB, isiO, tyD_obj, tyD_non, tyD_bl, tyD_int, tyD_str, tyD_tup, tyD_rol, tyO, oOwn, oOwnB, oOwnU, cOwn, isBlD, isStrD, isLenD, cBoolO, cStrO, cLenO, oInO, gCallO, itemsD, gJoin, oJoin, cRepr1, tbs, oks, okK_self, okK_n1, okK_n2, okK_n3, okK_n4, okK_n5, okK_n6, okK_n7, sp1, sp2, sp3, oAddI, withM_dM, withM_lit, withI_of, withX_of, withO_of, withT_at, withT_at0, withTL_some, st_set_new, st_set_new0, st_get_new, st_get_new0, List.append_assoc, Nat.add_assoc, st_new, st_new0, stS_new, stS_new0, gsRaise0, gsRaise1, gsTryT, gFldE, cIsiE, isiEx, gDict0, gBM, isTupD, mSplit, mStarts, mTxt0, oRep, oMulS, gSliceK, oSlK, gRepl, ggUnl, gLam, gAct, gMakeV, gCon, gCallO, giEnumS, oInF, flatD, eqF, List.map_cons, List.map_nil, List.replicate, List.length_cons, List.length_nil, List.length_append, List.length_set, List.cons_append, List.nil_append, List.getElem?_cons_zero, List.getElem?_cons_succ, List.set_cons_zero, List.set_cons_succ, List.lookup, List.all_cons, List.all_nil, List.mem_cons, List.not_mem_nil, or_false, Nat.reduceAdd, Nat.reduceSub, Nat.zero_add, Nat.add_zero, beq_self_eq_true, Bool.and_true, Bool.true_and, Bool.not_true, Bool.not_false, if_true, if_false, Bool.false_eq_true, decide_true, decide_false, and_true, true_and, Nat.reduceLeDiff, String.reduceEq, String.reduceNe, String.reduceBEq, String.reduceBNe, Int.reduceNeg, Int.reduceLT, Int.reduceLE, Int.reduceAdd, Int.reduceMul, Int.reduceMod, Int.reducePow, reduceIte, false_or, true_or, or_true, or_self, false_and, and_false, Bool.or_false, Bool.false_or, Bool.true_or, Bool.or_true, Bool.and_false, Bool.false_and, decide_eq_true_eq, Bool.not_eq_true, Int.toNat_zero, Int.reduceToNat, Int.toNat_natCast, Int.reduceLE, Int.reduceLT, oEq_int, oNe_int, ↓reduceIte, Nat.lt_irrefl,  e_Turn_rows, e_Turn___mul__, e_Turn___invert__, oT, HELD]
  refine call_good (m := u) (by rw [st_new0]; rfl) z1 fv zv ?_
  rw [euv]
  refine oNe_F ?_
  rw [decide_eq_true ⟨rfl, rfl⟩]
  simp only [Body, gsNx, gsAsg, gsPar2, gsRet, gsRetN, gsDrop, gsIf, gsBrk, gsCt, gsAug, gsFld, gsNever, gsFor, gC, gV, gNil, gCons, gTup, gLst, gBin, gUn, gChain, gAndV, gOrV, gNotV, gIfE, gCall, gBlt, gMake, gMeth, gFld, gProp, gtV, gtT, truD, gtAnd, gtOr, gtNot, gtYes, oAdd, oSub, oMul, oMod, oFdiv, oFdivW, oPow, oLt, oLe, oGt, oGe, uNeg, oIs, oIsNot, ggNil, ggCons, ggTup, ggP, ggSub, oSetIx, runP, runPs, putG, giLst, giTup, giStr, giRng1, giRng2, gLc, wipeG, atG, oIx, goNone, goSome, gSlice, oSl, cutG, sIxG, cLen, cMax2, cMin2, cAbs, cStr, cBool, cInt, cTuple, cList, cIsi, isiB, isiO, tyD_obj, tyD_non, tyD_bl, tyD_int, tyD_str, tyD_tup, tyD_rol, tyO, oOwn, oOwnB, oOwnU, cOwn, isBlD, isStrD, isLenD, cBoolO, cStrO, cLenO, oInO, gCallO, itemsD, gJoin, oJoin, cRepr1, tbs, oks, okK_self, okK_n1, okK_n2, okK_n3, okK_n4, okK_n5, okK_n6, okK_n7, sp1, sp2, sp3, oAddI, withM_dM, withM_lit, withI_of, withX_of, withO_of, withT_at, withT_at0, withTL_some, st_set_new, st_set_new0, st_get_new, st_get_new0, List.append_assoc, Nat.add_assoc, st_new, st_new0, stS_new, stS_new0, gsRaise0, gsRaise1, gsTryT, gFldE, cIsiE, isiEx, gDict0, gBM, isTupD, mSplit, mStarts, mTxt0, oRep, oMulS, gSliceK, oSlK, gRepl, ggUnl, gLam, gAct, gMakeV, gCon, gCallO, giEnumS, oInF, flatD, eqF, List.map_cons, List.map_nil, List.replicate, List.length_cons, List.length_nil, List.length_append, List.length_set, List.cons_append, List.nil_append, List.getElem?_cons_zero, List.getElem?_cons_succ, List.set_cons_zero, List.set_cons_succ, List.lookup, List.all_cons, List.all_nil, List.mem_cons, List.not_mem_nil, or_false, Nat.reduceAdd, Nat.reduceSub, Nat.zero_add, Nat.add_zero, beq_self_eq_true, Bool.and_true, Bool.true_and, Bool.not_true, Bool.not_false, if_true, if_false, Bool.false_eq_true, decide_true, decide_false, and_true, true_and, Nat.reduceLeDiff, String.reduceEq, String.reduceNe, String.reduceBEq, String.reduceBNe, Int.reduceNeg, Int.reduceLT, Int.reduceLE, Int.reduceAdd, Int.reduceMul, Int.reduceMod, Int.reducePow, reduceIte, false_or, true_or, or_true, or_self, false_and, and_false, Bool.or_false, Bool.false_or, Bool.true_or, Bool.or_true, Bool.and_false, Bool.false_and, decide_eq_true_eq, Bool.not_eq_true, Int.toNat_zero, Int.reduceToNat, Int.toNat_natCast, Int.reduceLE, Int.reduceLT, oEq_int, oNe_int, ↓reduceIte, Nat.lt_irrefl,  e_Turn_rows, e_Turn___mul__, e_Turn___invert__, oT, HELD]
  refine ⟨hu, hu1, ?_⟩
  refine call_good (m := u.inv) (by rw [st_new]; rfl) z4 fo fz2 ?_
  simp only [Body, gsNx, gsAsg, gsPar2, gsRet, gsRetN, gsDrop, gsIf, gsBrk, gsCt, gsAug, gsFld, gsNever, gsFor, gC, gV, gNil, gCons, gTup, gLst, gBin, gUn, gChain, gAndV, gOrV, gNotV, gIfE, gCall, gBlt, gMake, gMeth, gFld, gProp, gtV, gtT, truD, gtAnd, gtOr, gtNot, gtYes, oAdd, oSub, oMul, oMod, oFdiv, oFdivW, oPow, oLt, oLe, oGt, oGe, uNeg, oIs, oIsNot, ggNil, ggCons, ggTup, ggP, ggSub, oSetIx, runP, runPs, putG, giLst, giTup, giStr, giRng1, giRng2, gLc, wipeG, atG, oIx, goNone, goSome, gSlice, oSl, cutG, sIxG, cLen, cMax2, cMin2, cAbs, cStr, cBool, cInt, cTuple, cList, cIsi, isiB, isiO, tyD_obj, tyD_non, tyD_bl, tyD_int, tyD_str, tyD_tup, tyD_rol, tyO, oOwn, oOwnB, oOwnU, cOwn, isBlD, isStrD, isLenD, cBoolO, cStrO, cLenO, oInO, gCallO, itemsD, gJoin, oJoin, cRepr1, tbs, oks, okK_self, okK_n1, okK_n2, okK_n3, okK_n4, okK_n5, okK_n6, okK_n7, sp1, sp2, sp3, oAddI, withM_dM, withM_lit, withI_of, withX_of, withO_of, withT_at, withT_at0, withTL_some, st_set_new, st_set_new0, st_get_new, st_get_new0, List.append_assoc, Nat.add_assoc, st_new, st_new0, stS_new, stS_new0, gsRaise0, gsRaise1, gsTryT, gFldE, cIsiE, isiEx, gDict0, gBM, isTupD, mSplit, mStarts, mTxt0, oRep, oMulS, gSliceK, oSlK, gRepl, ggUnl, gLam, gAct, gMakeV, gCon, gCallO, giEnumS, oInF, flatD, eqF, List.map_cons, List.map_nil, List.replicate, List.length_cons, List.length_nil, List.length_append, List.length_set, List.cons_append, List.nil_append, List.getElem?_cons_zero, List.getElem?_cons_succ, List.set_cons_zero, List.set_cons_succ, List.lookup, List.all_cons, List.all_nil, List.mem_cons, List.not_mem_nil, or_false, Nat.reduceAdd, Nat.reduceSub, Nat.zero_add, Nat.add_zero, beq_self_eq_true, Bool.and_true, Bool.true_and, Bool.not_true, Bool.not_false, if_true, if_false, Bool.false_eq_true, decide_true, decide_false, and_true, true_and, Nat.reduceLeDiff, String.reduceEq, String.reduceNe, String.reduceBEq, String.reduceBNe, Int.reduceNeg, Int.reduceLT, Int.reduceLE, Int.reduceAdd, Int.reduceMul, Int.reduceMod, Int.reducePow, reduceIte, false_or, true_or, or_true, or_self, false_and, and_false, Bool.or_false, Bool.false_or, Bool.true_or, Bool.or_true, Bool.and_false, Bool.false_and, decide_eq_true_eq, Bool.not_eq_true, Int.toNat_zero, Int.reduceToNat, Int.toNat_natCast, Int.reduceLE, Int.reduceLT, oEq_int, oNe_int, ↓reduceIte, Nat.lt_irrefl,  e_Turn_rows, e_Turn___mul__, e_Turn___invert__, oT, HELD]
  refine call_good (m := u) (by rw [st_new0]; rfl) z1 fi zi ?_
  rw [eui]
  refine oNe_F ?_
  rw [decide_eq_true ⟨rfl, rfl⟩]
  simp only [gsSeq]
  simp only [Body, gsNx, gsAsg, gsPar2, gsRet, gsRetN, gsDrop, gsIf, gsBrk, gsCt, gsAug, gsFld, gsNever, gsFor, gC, gV, gNil, gCons, gTup, gLst, gBin, gUn, gChain, gAndV, gOrV, gNotV, gIfE, gCall, gBlt, gMake, gMeth, gFld, gProp, gtV, gtT, truD, gtAnd, gtOr, gtNot, gtYes, oAdd, oSub, oMul, oMod, oFdiv, oFdivW, oPow, oLt, oLe, oGt, oGe, uNeg, oIs, oIsNot, ggNil, ggCons, ggTup, ggP, ggSub, oSetIx, runP, runPs, putG, giLst, giTup, giStr, giRng1, giRng2, gLc, wipeG, atG, oIx, goNone, goSome, gSlice, oSl, cutG, sIxG, cLen, cMax2, cMin2, cAbs, cStr, cBool, cInt, cTuple, cList, cIsi, isiB, isiO, tyD_obj, tyD_non, tyD_bl, tyD_int, tyD_str, tyD_tup, tyD_rol, tyO, oOwn, oOwnB, oOwnU, cOwn, isBlD, isStrD, isLenD, cBoolO, cStrO, cLenO, oInO, gCallO, itemsD, gJoin, oJoin, cRepr1, tbs, oks, okK_self, okK_n1, okK_n2, okK_n3, okK_n4, okK_n5, okK_n6, okK_n7, sp1, sp2, sp3, oAddI, withM_dM, withM_lit, withI_of, withX_of, withO_of, withT_at, withT_at0, withTL_some, st_set_new, st_set_new0, st_get_new, st_get_new0, List.append_assoc, Nat.add_assoc, st_new, st_new0, stS_new, stS_new0, gsRaise0, gsRaise1, gsTryT, gFldE, cIsiE, isiEx, gDict0, gBM, isTupD, mSplit, mStarts, mTxt0, oRep, oMulS, gSliceK, oSlK, gRepl, ggUnl, gLam, gAct, gMakeV, gCon, gCallO, giEnumS, oInF, flatD, eqF, List.map_cons, List.map_nil, List.replicate, List.length_cons, List.length_nil, List.length_append, List.length_set, List.cons_append, List.nil_append, List.getElem?_cons_zero, List.getElem?_cons_succ, List.set_cons_zero, List.set_cons_succ, List.lookup, List.all_cons, List.all_nil, List.mem_cons, List.not_mem_nil, or_false, Nat.reduceAdd, Nat.reduceSub, Nat.zero_add, Nat.add_zero, beq_self_eq_true, Bool.and_true, Bool.true_and, Bool.not_true, Bool.not_false, if_true, if_false, Bool.false_eq_true, decide_true, decide_false, and_true, true_and, Nat.reduceLeDiff, String.reduceEq, String.reduceNe, String.reduceBEq, String.reduceBNe, Int.reduceNeg, Int.reduceLT, Int.reduceLE, Int.reduceAdd, Int.reduceMul, Int.reduceMod, Int.reducePow, reduceIte, false_or, true_or, or_true, or_self, false_and, and_false, Bool.or_false, Bool.false_or, Bool.true_or, Bool.or_true, Bool.and_false, Bool.false_and, decide_eq_true_eq, Bool.not_eq_true, Int.toNat_zero, Int.reduceToNat, Int.toNat_natCast, Int.reduceLE, Int.reduceLT, oEq_int, oNe_int, ↓reduceIte, Nat.lt_irrefl,  e__law_next, List.set_set]
  rw [withSrc_of (st_old kT)]
  refine ⟨by omega, by omega, fun v8 n8 g8 v80 v81 n80 n81 => ?_⟩
  rw [st_set_old (st_lt kT)]
  obtain ⟨T2, hT2⟩ : ∃ T2, T2 = T.set k (srcO cell n8 g8) := ⟨_, rfl⟩
  have tl2 : T.length = T2.length := by rw [hT2, List.length_set]
  have eT2 : T2 = S.set k (srcO cell n8 g8) := by rw [hT2, hT, List.set_set]
  rw [← hT2, tl2]
  have su4 : u.sz 40 := M.sz_mono su (by decide)
  have si4 : u.inv.sz 40 := M.sz_mono siu (by decide)
  simp only [gsSeq]
  simp only [Body, gsNx, gsAsg, gsPar2, gsRet, gsRetN, gsDrop, gsIf, gsBrk, gsCt, gsAug, gsFld, gsNever, gsFor, gC, gV, gNil, gCons, gTup, gLst, gBin, gUn, gChain, gAndV, gOrV, gNotV, gIfE, gCall, gBlt, gMake, gMeth, gFld, gProp, gtV, gtT, truD, gtAnd, gtOr, gtNot, gtYes, oAdd, oSub, oMul, oMod, oFdiv, oFdivW, oPow, oLt, oLe, oGt, oGe, uNeg, oIs, oIsNot, ggNil, ggCons, ggTup, ggP, ggSub, oSetIx, runP, runPs, putG, giLst, giTup, giStr, giRng1, giRng2, gLc, wipeG, atG, oIx, goNone, goSome, gSlice, oSl, cutG, sIxG, cLen, cMax2, cMin2, cAbs, cStr, cBool, cInt, cTuple, cList, cIsi, isiB, isiO, tyD_obj, tyD_non, tyD_bl, tyD_int, tyD_str, tyD_tup, tyD_rol, tyO, oOwn, oOwnB, oOwnU, cOwn, isBlD, isStrD, isLenD, cBoolO, cStrO, cLenO, oInO, gCallO, itemsD, gJoin, oJoin, cRepr1, tbs, oks, okK_self, okK_n1, okK_n2, okK_n3, okK_n4, okK_n5, okK_n6, okK_n7, sp1, sp2, sp3, oAddI, withM_dM, withM_lit, withI_of, withX_of, withO_of, withT_at, withT_at0, withTL_some, st_set_new, st_set_new0, st_get_new, st_get_new0, List.append_assoc, Nat.add_assoc, st_new, st_new0, stS_new, stS_new0, gsRaise0, gsRaise1, gsTryT, gFldE, cIsiE, isiEx, gDict0, gBM, isTupD, mSplit, mStarts, mTxt0, oRep, oMulS, gSliceK, oSlK, gRepl, ggUnl, gLam, gAct, gMakeV, gCon, gCallO, giEnumS, oInF, flatD, eqF, List.map_cons, List.map_nil, List.replicate, List.length_cons, List.length_nil, List.length_append, List.length_set, List.cons_append, List.nil_append, List.getElem?_cons_zero, List.getElem?_cons_succ, List.set_cons_zero, List.set_cons_succ, List.lookup, List.all_cons, List.all_nil, List.mem_cons, List.not_mem_nil, or_false, Nat.reduceAdd, Nat.reduceSub, Nat.zero_add, Nat.add_zero, beq_self_eq_true, Bool.and_true, Bool.true_and, Bool.not_true, Bool.not_false, if_true, if_false, Bool.false_eq_true, decide_true, decide_false, and_true, true_and, Nat.reduceLeDiff, String.reduceEq, String.reduceNe, String.reduceBEq, String.reduceBNe, Int.reduceNeg, Int.reduceLT, Int.reduceLE, Int.reduceAdd, Int.reduceMul, Int.reduceMod, Int.reducePow, reduceIte, false_or, true_or, or_true, or_self, false_and, and_false, Bool.or_false, Bool.false_or, Bool.true_or, Bool.or_true, Bool.and_false, Bool.false_and, decide_eq_true_eq, Bool.not_eq_true, Int.toNat_zero, Int.reduceToNat, Int.toNat_natCast, Int.reduceLE, Int.reduceLT, oEq_int, oNe_int, ↓reduceIte, Nat.lt_irrefl,  e__law_repeated, e__law_back, su4, si4, v80, oT, HELD, raised_held]
  refine ⟨by omega, by omega, ?_⟩
  refine raised_good (m := u) (m' := u.pw v8.toNat) (by rw [st_new0]; rfl) hu su4 (by omega) (by omega) (if_pos v80) ?_
  simp only [Body, gsNx, gsAsg, gsPar2, gsRet, gsRetN, gsDrop, gsIf, gsBrk, gsCt, gsAug, gsFld, gsNever, gsFor, gC, gV, gNil, gCons, gTup, gLst, gBin, gUn, gChain, gAndV, gOrV, gNotV, gIfE, gCall, gBlt, gMake, gMeth, gFld, gProp, gtV, gtT, truD, gtAnd, gtOr, gtNot, gtYes, oAdd, oSub, oMul, oMod, oFdiv, oFdivW, oPow, oLt, oLe, oGt, oGe, uNeg, oIs, oIsNot, ggNil, ggCons, ggTup, ggP, ggSub, oSetIx, runP, runPs, putG, giLst, giTup, giStr, giRng1, giRng2, gLc, wipeG, atG, oIx, goNone, goSome, gSlice, oSl, cutG, sIxG, cLen, cMax2, cMin2, cAbs, cStr, cBool, cInt, cTuple, cList, cIsi, isiB, isiO, tyD_obj, tyD_non, tyD_bl, tyD_int, tyD_str, tyD_tup, tyD_rol, tyO, oOwn, oOwnB, oOwnU, cOwn, isBlD, isStrD, isLenD, cBoolO, cStrO, cLenO, oInO, gCallO, itemsD, gJoin, oJoin, cRepr1, tbs, oks, okK_self, okK_n1, okK_n2, okK_n3, okK_n4, okK_n5, okK_n6, okK_n7, sp1, sp2, sp3, oAddI, withM_dM, withM_lit, withI_of, withX_of, withO_of, withT_at, withT_at0, withTL_some, st_set_new, st_set_new0, st_get_new, st_get_new0, List.append_assoc, Nat.add_assoc, st_new, st_new0, stS_new, stS_new0, gsRaise0, gsRaise1, gsTryT, gFldE, cIsiE, isiEx, gDict0, gBM, isTupD, mSplit, mStarts, mTxt0, oRep, oMulS, gSliceK, oSlK, gRepl, ggUnl, gLam, gAct, gMakeV, gCon, gCallO, giEnumS, oInF, flatD, eqF, List.map_cons, List.map_nil, List.replicate, List.length_cons, List.length_nil, List.length_append, List.length_set, List.cons_append, List.nil_append, List.getElem?_cons_zero, List.getElem?_cons_succ, List.set_cons_zero, List.set_cons_succ, List.lookup, List.all_cons, List.all_nil, List.mem_cons, List.not_mem_nil, or_false, Nat.reduceAdd, Nat.reduceSub, Nat.zero_add, Nat.add_zero, beq_self_eq_true, Bool.and_true, Bool.true_and, Bool.not_true, Bool.not_false, if_true, if_false, Bool.false_eq_true, decide_true, decide_false, and_true, true_and, Nat.reduceLeDiff, String.reduceEq, String.reduceNe, String.reduceBEq, String.reduceBNe, Int.reduceNeg, Int.reduceLT, Int.reduceLE, Int.reduceAdd, Int.reduceMul, Int.reduceMod, Int.reducePow, reduceIte, false_or, true_or, or_true, or_self, false_and, and_false, Bool.or_false, Bool.false_or, Bool.true_or, Bool.or_true, Bool.and_false, Bool.false_and, decide_eq_true_eq, Bool.not_eq_true, Int.toNat_zero, Int.reduceToNat, Int.toNat_natCast, Int.reduceLE, Int.reduceLT, oEq_int, oNe_int, ↓reduceIte, Nat.lt_irrefl,  e_Turn_rows, oT, HELD, raised_held]
  refine raised_good (m := u) (m' := u.inv.pw v8.toNat) (by rw [st_new0]; rfl) hu su4 (by omega) (by omega) ?_ ?_
  · by_cases h0 : v8 = 0
    · subst h0; rfl
    · rw [if_neg (by omega)]; congr 1; omega
  simp only [Body, gsNx, gsAsg, gsPar2, gsRet, gsRetN, gsDrop, gsIf, gsBrk, gsCt, gsAug, gsFld, gsNever, gsFor, gC, gV, gNil, gCons, gTup, gLst, gBin, gUn, gChain, gAndV, gOrV, gNotV, gIfE, gCall, gBlt, gMake, gMeth, gFld, gProp, gtV, gtT, truD, gtAnd, gtOr, gtNot, gtYes, oAdd, oSub, oMul, oMod, oFdiv, oFdivW, oPow, oLt, oLe, oGt, oGe, uNeg, oIs, oIsNot, ggNil, ggCons, ggTup, ggP, ggSub, oSetIx, runP, runPs, putG, giLst, giTup, giStr, giRng1, giRng2, gLc, wipeG, atG, oIx, goNone, goSome, gSlice, oSl, cutG, sIxG, cLen, cMax2, cMin2, cAbs, cStr, cBool, cInt, cTuple, cList, cIsi, isiB, isiO, tyD_obj, tyD_non, tyD_bl, tyD_int, tyD_str, tyD_tup, tyD_rol, tyO, oOwn, oOwnB, oOwnU, cOwn, isBlD, isStrD, isLenD, cBoolO, cStrO, cLenO, oInO, gCallO, itemsD, gJoin, oJoin, cRepr1, tbs, oks, okK_self, okK_n1, okK_n2, okK_n3, okK_n4, okK_n5, okK_n6, okK_n7, sp1, sp2, sp3, oAddI, withM_dM, withM_lit, withI_of, withX_of, withO_of, withT_at, withT_at0, withTL_some, st_set_new, st_set_new0, st_get_new, st_get_new0, List.append_assoc, Nat.add_assoc, st_new, st_new0, stS_new, stS_new0, gsRaise0, gsRaise1, gsTryT, gFldE, cIsiE, isiEx, gDict0, gBM, isTupD, mSplit, mStarts, mTxt0, oRep, oMulS, gSliceK, oSlK, gRepl, ggUnl, gLam, gAct, gMakeV, gCon, gCallO, giEnumS, oInF, flatD, eqF, List.map_cons, List.map_nil, List.replicate, List.length_cons, List.length_nil, List.length_append, List.length_set, List.cons_append, List.nil_append, List.getElem?_cons_zero, List.getElem?_cons_succ, List.set_cons_zero, List.set_cons_succ, List.lookup, List.all_cons, List.all_nil, List.mem_cons, List.not_mem_nil, or_false, Nat.reduceAdd, Nat.reduceSub, Nat.zero_add, Nat.add_zero, beq_self_eq_true, Bool.and_true, Bool.true_and, Bool.not_true, Bool.not_false, if_true, if_false, Bool.false_eq_true, decide_true, decide_false, and_true, true_and, Nat.reduceLeDiff, String.reduceEq, String.reduceNe, String.reduceBEq, String.reduceBNe, Int.reduceNeg, Int.reduceLT, Int.reduceLE, Int.reduceAdd, Int.reduceMul, Int.reduceMod, Int.reducePow, reduceIte, false_or, true_or, or_true, or_self, false_and, and_false, Bool.or_false, Bool.false_or, Bool.true_or, Bool.or_true, Bool.and_false, Bool.false_and, decide_eq_true_eq, Bool.not_eq_true, Int.toNat_zero, Int.reduceToNat, Int.toNat_natCast, Int.reduceLE, Int.reduceLT, oEq_int, oNe_int, ↓reduceIte, Nat.lt_irrefl,  e_Turn_rows, oT, HELD, raised_held]
  refine raised_good (m := u) (m' := M.one) (by rw [st_new0]; rfl) hu su4 (by omega) (by omega) rfl ?_
  simp only [Body, gsNx, gsAsg, gsPar2, gsRet, gsRetN, gsDrop, gsIf, gsBrk, gsCt, gsAug, gsFld, gsNever, gsFor, gC, gV, gNil, gCons, gTup, gLst, gBin, gUn, gChain, gAndV, gOrV, gNotV, gIfE, gCall, gBlt, gMake, gMeth, gFld, gProp, gtV, gtT, truD, gtAnd, gtOr, gtNot, gtYes, oAdd, oSub, oMul, oMod, oFdiv, oFdivW, oPow, oLt, oLe, oGt, oGe, uNeg, oIs, oIsNot, ggNil, ggCons, ggTup, ggP, ggSub, oSetIx, runP, runPs, putG, giLst, giTup, giStr, giRng1, giRng2, gLc, wipeG, atG, oIx, goNone, goSome, gSlice, oSl, cutG, sIxG, cLen, cMax2, cMin2, cAbs, cStr, cBool, cInt, cTuple, cList, cIsi, isiB, isiO, tyD_obj, tyD_non, tyD_bl, tyD_int, tyD_str, tyD_tup, tyD_rol, tyO, oOwn, oOwnB, oOwnU, cOwn, isBlD, isStrD, isLenD, cBoolO, cStrO, cLenO, oInO, gCallO, itemsD, gJoin, oJoin, cRepr1, tbs, oks, okK_self, okK_n1, okK_n2, okK_n3, okK_n4, okK_n5, okK_n6, okK_n7, sp1, sp2, sp3, oAddI, withM_dM, withM_lit, withI_of, withX_of, withO_of, withT_at, withT_at0, withTL_some, st_set_new, st_set_new0, st_get_new, st_get_new0, List.append_assoc, Nat.add_assoc, st_new, st_new0, stS_new, stS_new0, gsRaise0, gsRaise1, gsTryT, gFldE, cIsiE, isiEx, gDict0, gBM, isTupD, mSplit, mStarts, mTxt0, oRep, oMulS, gSliceK, oSlK, gRepl, ggUnl, gLam, gAct, gMakeV, gCon, gCallO, giEnumS, oInF, flatD, eqF, List.map_cons, List.map_nil, List.replicate, List.length_cons, List.length_nil, List.length_append, List.length_set, List.cons_append, List.nil_append, List.getElem?_cons_zero, List.getElem?_cons_succ, List.set_cons_zero, List.set_cons_succ, List.lookup, List.all_cons, List.all_nil, List.mem_cons, List.not_mem_nil, or_false, Nat.reduceAdd, Nat.reduceSub, Nat.zero_add, Nat.add_zero, beq_self_eq_true, Bool.and_true, Bool.true_and, Bool.not_true, Bool.not_false, if_true, if_false, Bool.false_eq_true, decide_true, decide_false, and_true, true_and, Nat.reduceLeDiff, String.reduceEq, String.reduceNe, String.reduceBEq, String.reduceBNe, Int.reduceNeg, Int.reduceLT, Int.reduceLE, Int.reduceAdd, Int.reduceMul, Int.reduceMod, Int.reducePow, reduceIte, false_or, true_or, or_true, or_self, false_and, and_false, Bool.or_false, Bool.false_or, Bool.true_or, Bool.or_true, Bool.and_false, Bool.false_and, decide_eq_true_eq, Bool.not_eq_true, Int.toNat_zero, Int.reduceToNat, Int.toNat_natCast, Int.reduceLE, Int.reduceLT, oEq_int, oNe_int, ↓reduceIte, Nat.lt_irrefl,  e_Turn_rows, oT, HELD, raised_held]
  refine raised_good (m := u) (m' := u) (by rw [st_new0]; rfl) hu su4 (by omega) (by omega) (by rw [if_pos (by decide)]; exact M.pw_one hu) ?_
  simp only [Body, gsNx, gsAsg, gsPar2, gsRet, gsRetN, gsDrop, gsIf, gsBrk, gsCt, gsAug, gsFld, gsNever, gsFor, gC, gV, gNil, gCons, gTup, gLst, gBin, gUn, gChain, gAndV, gOrV, gNotV, gIfE, gCall, gBlt, gMake, gMeth, gFld, gProp, gtV, gtT, truD, gtAnd, gtOr, gtNot, gtYes, oAdd, oSub, oMul, oMod, oFdiv, oFdivW, oPow, oLt, oLe, oGt, oGe, uNeg, oIs, oIsNot, ggNil, ggCons, ggTup, ggP, ggSub, oSetIx, runP, runPs, putG, giLst, giTup, giStr, giRng1, giRng2, gLc, wipeG, atG, oIx, goNone, goSome, gSlice, oSl, cutG, sIxG, cLen, cMax2, cMin2, cAbs, cStr, cBool, cInt, cTuple, cList, cIsi, isiB, isiO, tyD_obj, tyD_non, tyD_bl, tyD_int, tyD_str, tyD_tup, tyD_rol, tyO, oOwn, oOwnB, oOwnU, cOwn, isBlD, isStrD, isLenD, cBoolO, cStrO, cLenO, oInO, gCallO, itemsD, gJoin, oJoin, cRepr1, tbs, oks, okK_self, okK_n1, okK_n2, okK_n3, okK_n4, okK_n5, okK_n6, okK_n7, sp1, sp2, sp3, oAddI, withM_dM, withM_lit, withI_of, withX_of, withO_of, withT_at, withT_at0, withTL_some, st_set_new, st_set_new0, st_get_new, st_get_new0, List.append_assoc, Nat.add_assoc, st_new, st_new0, stS_new, stS_new0, gsRaise0, gsRaise1, gsTryT, gFldE, cIsiE, isiEx, gDict0, gBM, isTupD, mSplit, mStarts, mTxt0, oRep, oMulS, gSliceK, oSlK, gRepl, ggUnl, gLam, gAct, gMakeV, gCon, gCallO, giEnumS, oInF, flatD, eqF, List.map_cons, List.map_nil, List.replicate, List.length_cons, List.length_nil, List.length_append, List.length_set, List.cons_append, List.nil_append, List.getElem?_cons_zero, List.getElem?_cons_succ, List.set_cons_zero, List.set_cons_succ, List.lookup, List.all_cons, List.all_nil, List.mem_cons, List.not_mem_nil, or_false, Nat.reduceAdd, Nat.reduceSub, Nat.zero_add, Nat.add_zero, beq_self_eq_true, Bool.and_true, Bool.true_and, Bool.not_true, Bool.not_false, if_true, if_false, Bool.false_eq_true, decide_true, decide_false, and_true, true_and, Nat.reduceLeDiff, String.reduceEq, String.reduceNe, String.reduceBEq, String.reduceBNe, Int.reduceNeg, Int.reduceLT, Int.reduceLE, Int.reduceAdd, Int.reduceMul, Int.reduceMod, Int.reducePow, reduceIte, false_or, true_or, or_true, or_self, false_and, and_false, Bool.or_false, Bool.false_or, Bool.true_or, Bool.or_true, Bool.and_false, Bool.false_and, decide_eq_true_eq, Bool.not_eq_true, Int.toNat_zero, Int.reduceToNat, Int.toNat_natCast, Int.reduceLE, Int.reduceLT, oEq_int, oNe_int, ↓reduceIte, Nat.lt_irrefl,  e_Turn_rows, oT, HELD, raised_held]
  have eone : dM M.one = D.tup [D.tup [D.int 1, D.int 0], D.tup [D.int 0, D.int 1]] := rfl
  rw [← eone]
  refine oEq_lsts (ps := [pM (u.pw v8.toNat), pM (u.inv.pw v8.toNat), pM M.one, pM u]) rfl rfl (seqP_cons toP_M (seqP_cons toP_M (seqP_cons toP_M (seqP_cons toP_M rfl)))) rfl ?_
  rw [eT2]
  exact cut_set rfl rfl (h n8 g8 n80 (by omega))
end Gh

namespace Gh
open PySem
structure Dis (c : CA) : Prop where
  mf : (c.BadMatrix == c.BadFraction) = false
  fm : (c.BadFraction == c.BadMatrix) = false
  mw : (c.BadMatrix == c.BadWord) = false
  wm : (c.BadWord == c.BadMatrix) = false
  mn : (c.BadMatrix == c.BadNumber) = false
  nm : (c.BadNumber == c.BadMatrix) = false
  fw : (c.BadFraction == c.BadWord) = false
  wf : (c.BadWord == c.BadFraction) = false
  fn : (c.BadFraction == c.BadNumber) = false
  nf : (c.BadNumber == c.BadFraction) = false
  wn : (c.BadWord == c.BadNumber) = false
  nw : (c.BadNumber == c.BadWord) = false
theorem dis {c : CA} (hc : ClsOk c) : Dis c := by
  have h := hc.nd
  simp only [List.nodup_cons, List.mem_cons, List.not_mem_nil, or_false, not_or] at h
  obtain ⟨⟨a1, a2, a3⟩, ⟨a4, a5⟩, a6, _⟩ := h
  refine ⟨?_, ?_, ?_, ?_, ?_, ?_, ?_, ?_, ?_, ?_, ?_, ?_⟩ <;> simp only [beq_eq_false_iff_ne, ne_eq] <;> first | assumption | (intro e; exact absurd e.symm (by assumption))
theorem mIndex4 {S : SS} {k : Nat} {a b e : Bool} {Q : GQ} (h : S[k]? = some (.lst [.bl a, .bl b, .bl e, .bl true])) (q : Q (.int (if a then 0 else if b then 1 else if e then 2 else 3)) S) : mIndex (.obj k) [.bl true] S Q := by
  have t : toP S 8 (.obj k) = some (.list [.bool a, .bool b, .bool e, .bool true]) := by
    show (match S[k]? with
      | some (.lst ds) => (seqP (toP S 7) ds).map PyData.list
      | _ => none) = _
    rw [h]; rfl
  cases a with
  | true => exact ⟨_, _, 0, _, rfl, t, rfl, rfl, rfl, rfl, fun m z hm => absurd hm (Nat.not_lt_zero _), q⟩
  | false =>
    cases b with
    | true =>
      refine ⟨_, _, 1, _, rfl, t, rfl, rfl, rfl, rfl, fun m z hm hz => ?_, q⟩
      obtain rfl : m = 0 := by omega
      cases hz; rfl
    | false =>
      cases e with
      | true =>
        refine ⟨_, _, 2, _, rfl, t, rfl, rfl, rfl, rfl, fun m z hm hz => ?_, q⟩
        match m, hm with
        | 0, _ => cases hz; rfl
        | 1, _ => cases hz; rfl
      | false =>
        refine ⟨_, _, 3, _, rfl, t, rfl, rfl, rfl, rfl, fun m z hm hz => ?_, q⟩
        match m, hm with
        | 0, _ => cases hz; rfl
        | 1, _ => cases hz; rfl
        | 2, _ => cases hz; rfl
theorem told_matrix {c : CA} (hc : ClsOk c) {f : Addr} {dd : GDeed} {E : GEnds} {S S1 : SS} (hd : ∀ (G : GX) (Q : GQ), G c.BadMatrix [] S1 → dd G S Q) (q : ∀ S2, (∃ L, S2 = S1 ++ L) → E.rt (.str ⟨#[109, 97, 116, 114, 105, 120]⟩) S2) : b__law_call_told c f dd E (startG N__law_call_told [.ref f]) S := by
  have D := dis hc
  unfold b__law_call_told N__law_call_told
  simp only [Body, gsNx, gsSeq, gsAsg, gsPar2, gsRet, gsRetN, gsDrop, gsIf, gsBrk, gsCt, gsAug, gsFld, gsNever, gsFor, gC, gV, gNil, gCons, gTup, gLst, gBin, gUn, gChain, gAndV, gOrV, gNotV, gIfE, gCall, gBlt, gMake, gMeth, gFld, gProp, gtV, gtT, truD, gtAnd, gtOr, gtNot, gtYes, oAdd, oSub, oMul, oMod, oFdiv, oFdivW, oPow, oLt, oLe, oGt, oGe, uNeg, oIs, oIsNot, ggNil, ggCons, ggTup, ggP, ggSub, oSetIx, runP, runPs, putG, giLst, giTup, giStr, giRng1, giRng2, gLc, wipeG, atG, oIx, goNone, goSome, gSlice, oSl, cutG, sIxG, cLen, cMax2, cMin2, cAbs, cStr, cBool, cInt, cTuple, cList, cIsi, isiB, isiO, tyD_obj, tyD_non, tyD_bl, tyD_int, tyD_str, tyD_tup, tyD_rol, tyO, oOwn, oOwnB, oOwnU, cOwn, isBlD, isStrD, isLenD, cBoolO, cStrO, cLenO, oInO, gCallO, itemsD, gJoin, oJoin, cRepr1, tbs, oks, okK_self, okK_n1, okK_n2, okK_n3, okK_n4, okK_n5, okK_n6, okK_n7, sp1, sp2, sp3, oAddI, withM_dM, withM_lit, withI_of, withX_of, withO_of, withT_at, withT_at0, withTL_some, st_set_new, st_set_new0, st_get_new, st_get_new0, List.append_assoc, Nat.add_assoc, st_new, st_new0, stS_new, stS_new0, gsRaise0, gsRaise1, gsTryT, gFldE, cIsiE, isiEx, gDict0, gBM, isTupD, mSplit, mStarts, mTxt0, oRep, oMulS, gSliceK, oSlK, gRepl, ggUnl, gLam, gAct, gMakeV, gCon, gCallO, giEnumS, oInF, flatD, eqF, List.map_cons, List.map_nil, List.replicate, List.length_cons, List.length_nil, List.length_append, List.length_set, List.cons_append, List.nil_append, List.getElem?_cons_zero, List.getElem?_cons_succ, List.set_cons_zero, List.set_cons_succ, List.lookup, List.all_cons, List.all_nil, List.mem_cons, List.not_mem_nil, or_false, Nat.reduceAdd, Nat.reduceSub, Nat.zero_add, Nat.add_zero, beq_self_eq_true, Bool.and_true, Bool.true_and, Bool.not_true, Bool.not_false, if_true, if_false, Bool.false_eq_true, decide_true, decide_false, and_true, true_and, Nat.reduceLeDiff, String.reduceEq, String.reduceNe, String.reduceBEq, String.reduceBNe, Int.reduceNeg, Int.reduceLT, Int.reduceLE, Int.reduceAdd, Int.reduceMul, Int.reduceMod, Int.reducePow, reduceIte, false_or, true_or, or_true, or_self, false_and, and_false, Bool.or_false, Bool.false_or, Bool.true_or, Bool.or_true, Bool.and_false, Bool.false_and, decide_eq_true_eq, Bool.not_eq_true, Int.toNat_zero, Int.reduceToNat, Int.toNat_natCast, Int.reduceLE, Int.reduceLT, oEq_int, oNe_int, ↓reduceIte, Nat.lt_irrefl,  startG]
  refine hd _ _ ?_
  simp only [Body, gsNx, gsSeq, gsAsg, gsPar2, gsRet, gsRetN, gsDrop, gsIf, gsBrk, gsCt, gsAug, gsFld, gsNever, gsFor, gC, gV, gNil, gCons, gTup, gLst, gBin, gUn, gChain, gAndV, gOrV, gNotV, gIfE, gCall, gBlt, gMake, gMeth, gFld, gProp, gtV, gtT, truD, gtAnd, gtOr, gtNot, gtYes, oAdd, oSub, oMul, oMod, oFdiv, oFdivW, oPow, oLt, oLe, oGt, oGe, uNeg, oIs, oIsNot, ggNil, ggCons, ggTup, ggP, ggSub, oSetIx, runP, runPs, putG, giLst, giTup, giStr, giRng1, giRng2, gLc, wipeG, atG, oIx, goNone, goSome, gSlice, oSl, cutG, sIxG, cLen, cMax2, cMin2, cAbs, cStr, cBool, cInt, cTuple, cList, cIsi, isiB, isiO, tyD_obj, tyD_non, tyD_bl, tyD_int, tyD_str, tyD_tup, tyD_rol, tyO, oOwn, oOwnB, oOwnU, cOwn, isBlD, isStrD, isLenD, cBoolO, cStrO, cLenO, oInO, gCallO, itemsD, gJoin, oJoin, cRepr1, tbs, oks, okK_self, okK_n1, okK_n2, okK_n3, okK_n4, okK_n5, okK_n6, okK_n7, sp1, sp2, sp3, oAddI, withM_dM, withM_lit, withI_of, withX_of, withO_of, withT_at, withT_at0, withTL_some, st_set_new, st_set_new0, st_get_new, st_get_new0, List.append_assoc, Nat.add_assoc, st_new, st_new0, stS_new, stS_new0, gsRaise0, gsRaise1, gsTryT, gFldE, cIsiE, isiEx, gDict0, gBM, isTupD, mSplit, mStarts, mTxt0, oRep, oMulS, gSliceK, oSlK, gRepl, ggUnl, gLam, gAct, gMakeV, gCon, gCallO, giEnumS, oInF, flatD, eqF, List.map_cons, List.map_nil, List.replicate, List.length_cons, List.length_nil, List.length_append, List.length_set, List.cons_append, List.nil_append, List.getElem?_cons_zero, List.getElem?_cons_succ, List.set_cons_zero, List.set_cons_succ, List.lookup, List.all_cons, List.all_nil, List.mem_cons, List.not_mem_nil, or_false, Nat.reduceAdd, Nat.reduceSub, Nat.zero_add, Nat.add_zero, beq_self_eq_true, Bool.and_true, Bool.true_and, Bool.not_true, Bool.not_false, if_true, if_false, Bool.false_eq_true, decide_true, decide_false, and_true, true_and, Nat.reduceLeDiff, String.reduceEq, String.reduceNe, String.reduceBEq, String.reduceBNe, Int.reduceNeg, Int.reduceLT, Int.reduceLE, Int.reduceAdd, Int.reduceMul, Int.reduceMod, Int.reducePow, reduceIte, false_or, true_or, or_true, or_self, false_and, and_false, Bool.or_false, Bool.false_or, Bool.true_or, Bool.or_true, Bool.and_false, Bool.false_and, decide_eq_true_eq, Bool.not_eq_true, Int.toNat_zero, Int.reduceToNat, Int.toNat_natCast, Int.reduceLE, Int.reduceLT, oEq_int, oNe_int, ↓reduceIte, Nat.lt_irrefl,  D.mf, D.mw, D.mn, D.nm, D.fm, D.wm]
  refine mIndex4 (by rw [st_new]; rfl) ?_
  simp only [Body, gsNx, gsSeq, gsAsg, gsPar2, gsRet, gsRetN, gsDrop, gsIf, gsBrk, gsCt, gsAug, gsFld, gsNever, gsFor, gC, gV, gNil, gCons, gTup, gLst, gBin, gUn, gChain, gAndV, gOrV, gNotV, gIfE, gCall, gBlt, gMake, gMeth, gFld, gProp, gtV, gtT, truD, gtAnd, gtOr, gtNot, gtYes, oAdd, oSub, oMul, oMod, oFdiv, oFdivW, oPow, oLt, oLe, oGt, oGe, uNeg, oIs, oIsNot, ggNil, ggCons, ggTup, ggP, ggSub, oSetIx, runP, runPs, putG, giLst, giTup, giStr, giRng1, giRng2, gLc, wipeG, atG, oIx, goNone, goSome, gSlice, oSl, cutG, sIxG, cLen, cMax2, cMin2, cAbs, cStr, cBool, cInt, cTuple, cList, cIsi, isiB, isiO, tyD_obj, tyD_non, tyD_bl, tyD_int, tyD_str, tyD_tup, tyD_rol, tyO, oOwn, oOwnB, oOwnU, cOwn, isBlD, isStrD, isLenD, cBoolO, cStrO, cLenO, oInO, gCallO, itemsD, gJoin, oJoin, cRepr1, tbs, oks, okK_self, okK_n1, okK_n2, okK_n3, okK_n4, okK_n5, okK_n6, okK_n7, sp1, sp2, sp3, oAddI, withM_dM, withM_lit, withI_of, withX_of, withO_of, withT_at, withT_at0, withTL_some, st_set_new, st_set_new0, st_get_new, st_get_new0, List.append_assoc, Nat.add_assoc, st_new, st_new0, stS_new, stS_new0, gsRaise0, gsRaise1, gsTryT, gFldE, cIsiE, isiEx, gDict0, gBM, isTupD, mSplit, mStarts, mTxt0, oRep, oMulS, gSliceK, oSlK, gRepl, ggUnl, gLam, gAct, gMakeV, gCon, gCallO, giEnumS, oInF, flatD, eqF, List.map_cons, List.map_nil, List.replicate, List.length_cons, List.length_nil, List.length_append, List.length_set, List.cons_append, List.nil_append, List.getElem?_cons_zero, List.getElem?_cons_succ, List.set_cons_zero, List.set_cons_succ, List.lookup, List.all_cons, List.all_nil, List.mem_cons, List.not_mem_nil, or_false, Nat.reduceAdd, Nat.reduceSub, Nat.zero_add, Nat.add_zero, beq_self_eq_true, Bool.and_true, Bool.true_and, Bool.not_true, Bool.not_false, if_true, if_false, Bool.false_eq_true, decide_true, decide_false, and_true, true_and, Nat.reduceLeDiff, String.reduceEq, String.reduceNe, String.reduceBEq, String.reduceBNe, Int.reduceNeg, Int.reduceLT, Int.reduceLE, Int.reduceAdd, Int.reduceMul, Int.reduceMod, Int.reducePow, reduceIte, false_or, true_or, or_true, or_self, false_and, and_false, Bool.or_false, Bool.false_or, Bool.true_or, Bool.or_true, Bool.and_false, Bool.false_and, decide_eq_true_eq, Bool.not_eq_true, Int.toNat_zero, Int.reduceToNat, Int.toNat_natCast, Int.reduceLE, Int.reduceLT, oEq_int, oNe_int, ↓reduceIte, Nat.lt_irrefl]
  exact q _ ⟨_, rfl⟩
theorem told_word {c : CA} (hc : ClsOk c) {f : Addr} {dd : GDeed} {E : GEnds} {S : SS} (hd : ∀ (G : GX) (Q : GQ), (∀ e, G c.BadWord [(INDEX, e)] S) → dd G S Q) (q : ∀ S2, (∃ L, S2 = S ++ L) → E.rt (.str ⟨#[119, 111, 114, 100]⟩) S2) : b__law_call_told c f dd E (startG N__law_call_told [.ref f]) S := by
  have D := dis hc
  unfold b__law_call_told N__law_call_told
  simp only [Body, gsNx, gsSeq, gsAsg, gsPar2, gsRet, gsRetN, gsDrop, gsIf, gsBrk, gsCt, gsAug, gsFld, gsNever, gsFor, gC, gV, gNil, gCons, gTup, gLst, gBin, gUn, gChain, gAndV, gOrV, gNotV, gIfE, gCall, gBlt, gMake, gMeth, gFld, gProp, gtV, gtT, truD, gtAnd, gtOr, gtNot, gtYes, oAdd, oSub, oMul, oMod, oFdiv, oFdivW, oPow, oLt, oLe, oGt, oGe, uNeg, oIs, oIsNot, ggNil, ggCons, ggTup, ggP, ggSub, oSetIx, runP, runPs, putG, giLst, giTup, giStr, giRng1, giRng2, gLc, wipeG, atG, oIx, goNone, goSome, gSlice, oSl, cutG, sIxG, cLen, cMax2, cMin2, cAbs, cStr, cBool, cInt, cTuple, cList, cIsi, isiB, isiO, tyD_obj, tyD_non, tyD_bl, tyD_int, tyD_str, tyD_tup, tyD_rol, tyO, oOwn, oOwnB, oOwnU, cOwn, isBlD, isStrD, isLenD, cBoolO, cStrO, cLenO, oInO, gCallO, itemsD, gJoin, oJoin, cRepr1, tbs, oks, okK_self, okK_n1, okK_n2, okK_n3, okK_n4, okK_n5, okK_n6, okK_n7, sp1, sp2, sp3, oAddI, withM_dM, withM_lit, withI_of, withX_of, withO_of, withT_at, withT_at0, withTL_some, st_set_new, st_set_new0, st_get_new, st_get_new0, List.append_assoc, Nat.add_assoc, st_new, st_new0, stS_new, stS_new0, gsRaise0, gsRaise1, gsTryT, gFldE, cIsiE, isiEx, gDict0, gBM, isTupD, mSplit, mStarts, mTxt0, oRep, oMulS, gSliceK, oSlK, gRepl, ggUnl, gLam, gAct, gMakeV, gCon, gCallO, giEnumS, oInF, flatD, eqF, List.map_cons, List.map_nil, List.replicate, List.length_cons, List.length_nil, List.length_append, List.length_set, List.cons_append, List.nil_append, List.getElem?_cons_zero, List.getElem?_cons_succ, List.set_cons_zero, List.set_cons_succ, List.lookup, List.all_cons, List.all_nil, List.mem_cons, List.not_mem_nil, or_false, Nat.reduceAdd, Nat.reduceSub, Nat.zero_add, Nat.add_zero, beq_self_eq_true, Bool.and_true, Bool.true_and, Bool.not_true, Bool.not_false, if_true, if_false, Bool.false_eq_true, decide_true, decide_false, and_true, true_and, Nat.reduceLeDiff, String.reduceEq, String.reduceNe, String.reduceBEq, String.reduceBNe, Int.reduceNeg, Int.reduceLT, Int.reduceLE, Int.reduceAdd, Int.reduceMul, Int.reduceMod, Int.reducePow, reduceIte, false_or, true_or, or_true, or_self, false_and, and_false, Bool.or_false, Bool.false_or, Bool.true_or, Bool.or_true, Bool.and_false, Bool.false_and, decide_eq_true_eq, Bool.not_eq_true, Int.toNat_zero, Int.reduceToNat, Int.toNat_natCast, Int.reduceLE, Int.reduceLT, oEq_int, oNe_int, ↓reduceIte, Nat.lt_irrefl,  startG]
  refine hd _ _ fun e => ?_
  simp only [Body, gsNx, gsSeq, gsAsg, gsPar2, gsRet, gsRetN, gsDrop, gsIf, gsBrk, gsCt, gsAug, gsFld, gsNever, gsFor, gC, gV, gNil, gCons, gTup, gLst, gBin, gUn, gChain, gAndV, gOrV, gNotV, gIfE, gCall, gBlt, gMake, gMeth, gFld, gProp, gtV, gtT, truD, gtAnd, gtOr, gtNot, gtYes, oAdd, oSub, oMul, oMod, oFdiv, oFdivW, oPow, oLt, oLe, oGt, oGe, uNeg, oIs, oIsNot, ggNil, ggCons, ggTup, ggP, ggSub, oSetIx, runP, runPs, putG, giLst, giTup, giStr, giRng1, giRng2, gLc, wipeG, atG, oIx, goNone, goSome, gSlice, oSl, cutG, sIxG, cLen, cMax2, cMin2, cAbs, cStr, cBool, cInt, cTuple, cList, cIsi, isiB, isiO, tyD_obj, tyD_non, tyD_bl, tyD_int, tyD_str, tyD_tup, tyD_rol, tyO, oOwn, oOwnB, oOwnU, cOwn, isBlD, isStrD, isLenD, cBoolO, cStrO, cLenO, oInO, gCallO, itemsD, gJoin, oJoin, cRepr1, tbs, oks, okK_self, okK_n1, okK_n2, okK_n3, okK_n4, okK_n5, okK_n6, okK_n7, sp1, sp2, sp3, oAddI, withM_dM, withM_lit, withI_of, withX_of, withO_of, withT_at, withT_at0, withTL_some, st_set_new, st_set_new0, st_get_new, st_get_new0, List.append_assoc, Nat.add_assoc, st_new, st_new0, stS_new, stS_new0, gsRaise0, gsRaise1, gsTryT, gFldE, cIsiE, isiEx, gDict0, gBM, isTupD, mSplit, mStarts, mTxt0, oRep, oMulS, gSliceK, oSlK, gRepl, ggUnl, gLam, gAct, gMakeV, gCon, gCallO, giEnumS, oInF, flatD, eqF, List.map_cons, List.map_nil, List.replicate, List.length_cons, List.length_nil, List.length_append, List.length_set, List.cons_append, List.nil_append, List.getElem?_cons_zero, List.getElem?_cons_succ, List.set_cons_zero, List.set_cons_succ, List.lookup, List.all_cons, List.all_nil, List.mem_cons, List.not_mem_nil, or_false, Nat.reduceAdd, Nat.reduceSub, Nat.zero_add, Nat.add_zero, beq_self_eq_true, Bool.and_true, Bool.true_and, Bool.not_true, Bool.not_false, if_true, if_false, Bool.false_eq_true, decide_true, decide_false, and_true, true_and, Nat.reduceLeDiff, String.reduceEq, String.reduceNe, String.reduceBEq, String.reduceBNe, Int.reduceNeg, Int.reduceLT, Int.reduceLE, Int.reduceAdd, Int.reduceMul, Int.reduceMod, Int.reducePow, reduceIte, false_or, true_or, or_true, or_self, false_and, and_false, Bool.or_false, Bool.false_or, Bool.true_or, Bool.or_true, Bool.and_false, Bool.false_and, decide_eq_true_eq, Bool.not_eq_true, Int.toNat_zero, Int.reduceToNat, Int.toNat_natCast, Int.reduceLE, Int.reduceLT, oEq_int, oNe_int, ↓reduceIte, Nat.lt_irrefl,  D.wf, D.mw, D.wn, D.nw, D.fw, D.wm]
  refine mIndex4 (by rw [st_new]; rfl) ?_
  simp only [Body, gsNx, gsSeq, gsAsg, gsPar2, gsRet, gsRetN, gsDrop, gsIf, gsBrk, gsCt, gsAug, gsFld, gsNever, gsFor, gC, gV, gNil, gCons, gTup, gLst, gBin, gUn, gChain, gAndV, gOrV, gNotV, gIfE, gCall, gBlt, gMake, gMeth, gFld, gProp, gtV, gtT, truD, gtAnd, gtOr, gtNot, gtYes, oAdd, oSub, oMul, oMod, oFdiv, oFdivW, oPow, oLt, oLe, oGt, oGe, uNeg, oIs, oIsNot, ggNil, ggCons, ggTup, ggP, ggSub, oSetIx, runP, runPs, putG, giLst, giTup, giStr, giRng1, giRng2, gLc, wipeG, atG, oIx, goNone, goSome, gSlice, oSl, cutG, sIxG, cLen, cMax2, cMin2, cAbs, cStr, cBool, cInt, cTuple, cList, cIsi, isiB, isiO, tyD_obj, tyD_non, tyD_bl, tyD_int, tyD_str, tyD_tup, tyD_rol, tyO, oOwn, oOwnB, oOwnU, cOwn, isBlD, isStrD, isLenD, cBoolO, cStrO, cLenO, oInO, gCallO, itemsD, gJoin, oJoin, cRepr1, tbs, oks, okK_self, okK_n1, okK_n2, okK_n3, okK_n4, okK_n5, okK_n6, okK_n7, sp1, sp2, sp3, oAddI, withM_dM, withM_lit, withI_of, withX_of, withO_of, withT_at, withT_at0, withTL_some, st_set_new, st_set_new0, st_get_new, st_get_new0, List.append_assoc, Nat.add_assoc, st_new, st_new0, stS_new, stS_new0, gsRaise0, gsRaise1, gsTryT, gFldE, cIsiE, isiEx, gDict0, gBM, isTupD, mSplit, mStarts, mTxt0, oRep, oMulS, gSliceK, oSlK, gRepl, ggUnl, gLam, gAct, gMakeV, gCon, gCallO, giEnumS, oInF, flatD, eqF, List.map_cons, List.map_nil, List.replicate, List.length_cons, List.length_nil, List.length_append, List.length_set, List.cons_append, List.nil_append, List.getElem?_cons_zero, List.getElem?_cons_succ, List.set_cons_zero, List.set_cons_succ, List.lookup, List.all_cons, List.all_nil, List.mem_cons, List.not_mem_nil, or_false, Nat.reduceAdd, Nat.reduceSub, Nat.zero_add, Nat.add_zero, beq_self_eq_true, Bool.and_true, Bool.true_and, Bool.not_true, Bool.not_false, if_true, if_false, Bool.false_eq_true, decide_true, decide_false, and_true, true_and, Nat.reduceLeDiff, String.reduceEq, String.reduceNe, String.reduceBEq, String.reduceBNe, Int.reduceNeg, Int.reduceLT, Int.reduceLE, Int.reduceAdd, Int.reduceMul, Int.reduceMod, Int.reducePow, reduceIte, false_or, true_or, or_true, or_self, false_and, and_false, Bool.or_false, Bool.false_or, Bool.true_or, Bool.or_true, Bool.and_false, Bool.false_and, decide_eq_true_eq, Bool.not_eq_true, Int.toNat_zero, Int.reduceToNat, Int.toNat_natCast, Int.reduceLE, Int.reduceLT, oEq_int, oNe_int, ↓reduceIte, Nat.lt_irrefl]
  exact q _ ⟨_, rfl⟩
theorem told_fraction {c : CA} (hc : ClsOk c) {f : Addr} {dd : GDeed} {E : GEnds} {S : SS} (hd : ∀ (G : GX) (Q : GQ), G c.BadFraction [] S → dd G S Q) (q : ∀ S2, (∃ L, S2 = S ++ L) → E.rt (.str ⟨#[102, 114, 97, 99, 116, 105, 111, 110]⟩) S2) : b__law_call_told c f dd E (startG N__law_call_told [.ref f]) S := by
  have D := dis hc
  unfold b__law_call_told N__law_call_told
  simp only [Body, gsNx, gsSeq, gsAsg, gsPar2, gsRet, gsRetN, gsDrop, gsIf, gsBrk, gsCt, gsAug, gsFld, gsNever, gsFor, gC, gV, gNil, gCons, gTup, gLst, gBin, gUn, gChain, gAndV, gOrV, gNotV, gIfE, gCall, gBlt, gMake, gMeth, gFld, gProp, gtV, gtT, truD, gtAnd, gtOr, gtNot, gtYes, oAdd, oSub, oMul, oMod, oFdiv, oFdivW, oPow, oLt, oLe, oGt, oGe, uNeg, oIs, oIsNot, ggNil, ggCons, ggTup, ggP, ggSub, oSetIx, runP, runPs, putG, giLst, giTup, giStr, giRng1, giRng2, gLc, wipeG, atG, oIx, goNone, goSome, gSlice, oSl, cutG, sIxG, cLen, cMax2, cMin2, cAbs, cStr, cBool, cInt, cTuple, cList, cIsi, isiB, isiO, tyD_obj, tyD_non, tyD_bl, tyD_int, tyD_str, tyD_tup, tyD_rol, tyO, oOwn, oOwnB, oOwnU, cOwn, isBlD, isStrD, isLenD, cBoolO, cStrO, cLenO, oInO, gCallO, itemsD, gJoin, oJoin, cRepr1, tbs, oks, okK_self, okK_n1, okK_n2, okK_n3, okK_n4, okK_n5, okK_n6, okK_n7, sp1, sp2, sp3, oAddI, withM_dM, withM_lit, withI_of, withX_of, withO_of, withT_at, withT_at0, withTL_some, st_set_new, st_set_new0, st_get_new, st_get_new0, List.append_assoc, Nat.add_assoc, st_new, st_new0, stS_new, stS_new0, gsRaise0, gsRaise1, gsTryT, gFldE, cIsiE, isiEx, gDict0, gBM, isTupD, mSplit, mStarts, mTxt0, oRep, oMulS, gSliceK, oSlK, gRepl, ggUnl, gLam, gAct, gMakeV, gCon, gCallO, giEnumS, oInF, flatD, eqF, List.map_cons, List.map_nil, List.replicate, List.length_cons, List.length_nil, List.length_append, List.length_set, List.cons_append, List.nil_append, List.getElem?_cons_zero, List.getElem?_cons_succ, List.set_cons_zero, List.set_cons_succ, List.lookup, List.all_cons, List.all_nil, List.mem_cons, List.not_mem_nil, or_false, Nat.reduceAdd, Nat.reduceSub, Nat.zero_add, Nat.add_zero, beq_self_eq_true, Bool.and_true, Bool.true_and, Bool.not_true, Bool.not_false, if_true, if_false, Bool.false_eq_true, decide_true, decide_false, and_true, true_and, Nat.reduceLeDiff, String.reduceEq, String.reduceNe, String.reduceBEq, String.reduceBNe, Int.reduceNeg, Int.reduceLT, Int.reduceLE, Int.reduceAdd, Int.reduceMul, Int.reduceMod, Int.reducePow, reduceIte, false_or, true_or, or_true, or_self, false_and, and_false, Bool.or_false, Bool.false_or, Bool.true_or, Bool.or_true, Bool.and_false, Bool.false_and, decide_eq_true_eq, Bool.not_eq_true, Int.toNat_zero, Int.reduceToNat, Int.toNat_natCast, Int.reduceLE, Int.reduceLT, oEq_int, oNe_int, ↓reduceIte, Nat.lt_irrefl,  startG]
  refine hd _ _ ?_
  simp only [Body, gsNx, gsSeq, gsAsg, gsPar2, gsRet, gsRetN, gsDrop, gsIf, gsBrk, gsCt, gsAug, gsFld, gsNever, gsFor, gC, gV, gNil, gCons, gTup, gLst, gBin, gUn, gChain, gAndV, gOrV, gNotV, gIfE, gCall, gBlt, gMake, gMeth, gFld, gProp, gtV, gtT, truD, gtAnd, gtOr, gtNot, gtYes, oAdd, oSub, oMul, oMod, oFdiv, oFdivW, oPow, oLt, oLe, oGt, oGe, uNeg, oIs, oIsNot, ggNil, ggCons, ggTup, ggP, ggSub, oSetIx, runP, runPs, putG, giLst, giTup, giStr, giRng1, giRng2, gLc, wipeG, atG, oIx, goNone, goSome, gSlice, oSl, cutG, sIxG, cLen, cMax2, cMin2, cAbs, cStr, cBool, cInt, cTuple, cList, cIsi, isiB, isiO, tyD_obj, tyD_non, tyD_bl, tyD_int, tyD_str, tyD_tup, tyD_rol, tyO, oOwn, oOwnB, oOwnU, cOwn, isBlD, isStrD, isLenD, cBoolO, cStrO, cLenO, oInO, gCallO, itemsD, gJoin, oJoin, cRepr1, tbs, oks, okK_self, okK_n1, okK_n2, okK_n3, okK_n4, okK_n5, okK_n6, okK_n7, sp1, sp2, sp3, oAddI, withM_dM, withM_lit, withI_of, withX_of, withO_of, withT_at, withT_at0, withTL_some, st_set_new, st_set_new0, st_get_new, st_get_new0, List.append_assoc, Nat.add_assoc, st_new, st_new0, stS_new, stS_new0, gsRaise0, gsRaise1, gsTryT, gFldE, cIsiE, isiEx, gDict0, gBM, isTupD, mSplit, mStarts, mTxt0, oRep, oMulS, gSliceK, oSlK, gRepl, ggUnl, gLam, gAct, gMakeV, gCon, gCallO, giEnumS, oInF, flatD, eqF, List.map_cons, List.map_nil, List.replicate, List.length_cons, List.length_nil, List.length_append, List.length_set, List.cons_append, List.nil_append, List.getElem?_cons_zero, List.getElem?_cons_succ, List.set_cons_zero, List.set_cons_succ, List.lookup, List.all_cons, List.all_nil, List.mem_cons, List.not_mem_nil, or_false, Nat.reduceAdd, Nat.reduceSub, Nat.zero_add, Nat.add_zero, beq_self_eq_true, Bool.and_true, Bool.true_and, Bool.not_true, Bool.not_false, if_true, if_false, Bool.false_eq_true, decide_true, decide_false, and_true, true_and, Nat.reduceLeDiff, String.reduceEq, String.reduceNe, String.reduceBEq, String.reduceBNe, Int.reduceNeg, Int.reduceLT, Int.reduceLE, Int.reduceAdd, Int.reduceMul, Int.reduceMod, Int.reducePow, reduceIte, false_or, true_or, or_true, or_self, false_and, and_false, Bool.or_false, Bool.false_or, Bool.true_or, Bool.or_true, Bool.and_false, Bool.false_and, decide_eq_true_eq, Bool.not_eq_true, Int.toNat_zero, Int.reduceToNat, Int.toNat_natCast, Int.reduceLE, Int.reduceLT, oEq_int, oNe_int, ↓reduceIte, Nat.lt_irrefl,  D.wf, D.mf, D.fn, D.nf, D.fw, D.fm]
  refine mIndex4 (by rw [st_new]; rfl) ?_
  simp only [Body, gsNx, gsSeq, gsAsg, gsPar2, gsRet, gsRetN, gsDrop, gsIf, gsBrk, gsCt, gsAug, gsFld, gsNever, gsFor, gC, gV, gNil, gCons, gTup, gLst, gBin, gUn, gChain, gAndV, gOrV, gNotV, gIfE, gCall, gBlt, gMake, gMeth, gFld, gProp, gtV, gtT, truD, gtAnd, gtOr, gtNot, gtYes, oAdd, oSub, oMul, oMod, oFdiv, oFdivW, oPow, oLt, oLe, oGt, oGe, uNeg, oIs, oIsNot, ggNil, ggCons, ggTup, ggP, ggSub, oSetIx, runP, runPs, putG, giLst, giTup, giStr, giRng1, giRng2, gLc, wipeG, atG, oIx, goNone, goSome, gSlice, oSl, cutG, sIxG, cLen, cMax2, cMin2, cAbs, cStr, cBool, cInt, cTuple, cList, cIsi, isiB, isiO, tyD_obj, tyD_non, tyD_bl, tyD_int, tyD_str, tyD_tup, tyD_rol, tyO, oOwn, oOwnB, oOwnU, cOwn, isBlD, isStrD, isLenD, cBoolO, cStrO, cLenO, oInO, gCallO, itemsD, gJoin, oJoin, cRepr1, tbs, oks, okK_self, okK_n1, okK_n2, okK_n3, okK_n4, okK_n5, okK_n6, okK_n7, sp1, sp2, sp3, oAddI, withM_dM, withM_lit, withI_of, withX_of, withO_of, withT_at, withT_at0, withTL_some, st_set_new, st_set_new0, st_get_new, st_get_new0, List.append_assoc, Nat.add_assoc, st_new, st_new0, stS_new, stS_new0, gsRaise0, gsRaise1, gsTryT, gFldE, cIsiE, isiEx, gDict0, gBM, isTupD, mSplit, mStarts, mTxt0, oRep, oMulS, gSliceK, oSlK, gRepl, ggUnl, gLam, gAct, gMakeV, gCon, gCallO, giEnumS, oInF, flatD, eqF, List.map_cons, List.map_nil, List.replicate, List.length_cons, List.length_nil, List.length_append, List.length_set, List.cons_append, List.nil_append, List.getElem?_cons_zero, List.getElem?_cons_succ, List.set_cons_zero, List.set_cons_succ, List.lookup, List.all_cons, List.all_nil, List.mem_cons, List.not_mem_nil, or_false, Nat.reduceAdd, Nat.reduceSub, Nat.zero_add, Nat.add_zero, beq_self_eq_true, Bool.and_true, Bool.true_and, Bool.not_true, Bool.not_false, if_true, if_false, Bool.false_eq_true, decide_true, decide_false, and_true, true_and, Nat.reduceLeDiff, String.reduceEq, String.reduceNe, String.reduceBEq, String.reduceBNe, Int.reduceNeg, Int.reduceLT, Int.reduceLE, Int.reduceAdd, Int.reduceMul, Int.reduceMod, Int.reducePow, reduceIte, false_or, true_or, or_true, or_self, false_and, and_false, Bool.or_false, Bool.false_or, Bool.true_or, Bool.or_true, Bool.and_false, Bool.false_and, decide_eq_true_eq, Bool.not_eq_true, Int.toNat_zero, Int.reduceToNat, Int.toNat_natCast, Int.reduceLE, Int.reduceLT, oEq_int, oNe_int, ↓reduceIte, Nat.lt_irrefl]
  exact q _ ⟨_, rfl⟩
def NUM : Str := ⟨#[110, 117, 109, 98, 101, 114, 32]⟩
def showOk (p : PyData) : Prop := p.showable = true ∧ p.hasDict = false ∧ p.depth ≤ 60 ∧ p.shown.length ≤ 1000
theorem told_number {c : CA} (hc : ClsOk c) {f : Addr} {dd : GDeed} {E : GEnds} {S : SS} {d : D} {p : PyData} (hd : ∀ (G : GX) (Q : GQ), G c.BadNumber [(VALUE, d)] S → dd G S Q) (hp : ∀ L, toP (S ++ L) 8 d = some p) (hs : showOk p) (q : ∀ S2, (∃ L, S2 = S ++ L) → E.rt (.str (NUM ++ p.shown)) S2) : b__law_call_told c f dd E (startG N__law_call_told [.ref f]) S := by
  have D := dis hc
  unfold b__law_call_told N__law_call_told
  simp only [Body, gsNx, gsSeq, gsAsg, gsPar2, gsRet, gsRetN, gsDrop, gsIf, gsBrk, gsCt, gsAug, gsFld, gsNever, gsFor, gC, gV, gNil, gCons, gTup, gLst, gBin, gUn, gChain, gAndV, gOrV, gNotV, gIfE, gCall, gBlt, gMake, gMeth, gFld, gProp, gtV, gtT, truD, gtAnd, gtOr, gtNot, gtYes, oAdd, oSub, oMul, oMod, oFdiv, oFdivW, oPow, oLt, oLe, oGt, oGe, uNeg, oIs, oIsNot, ggNil, ggCons, ggTup, ggP, ggSub, oSetIx, runP, runPs, putG, giLst, giTup, giStr, giRng1, giRng2, gLc, wipeG, atG, oIx, goNone, goSome, gSlice, oSl, cutG, sIxG, cLen, cMax2, cMin2, cAbs, cStr, cBool, cInt, cTuple, cList, cIsi, isiB, isiO, tyD_obj, tyD_non, tyD_bl, tyD_int, tyD_str, tyD_tup, tyD_rol, tyO, oOwn, oOwnB, oOwnU, cOwn, isBlD, isStrD, isLenD, cBoolO, cStrO, cLenO, oInO, gCallO, itemsD, gJoin, oJoin, cRepr1, tbs, oks, okK_self, okK_n1, okK_n2, okK_n3, okK_n4, okK_n5, okK_n6, okK_n7, sp1, sp2, sp3, oAddI, withM_dM, withM_lit, withI_of, withX_of, withO_of, withT_at, withT_at0, withTL_some, st_set_new, st_set_new0, st_get_new, st_get_new0, List.append_assoc, Nat.add_assoc, st_new, st_new0, stS_new, stS_new0, gsRaise0, gsRaise1, gsTryT, gFldE, cIsiE, isiEx, gDict0, gBM, isTupD, mSplit, mStarts, mTxt0, oRep, oMulS, gSliceK, oSlK, gRepl, ggUnl, gLam, gAct, gMakeV, gCon, gCallO, giEnumS, oInF, flatD, eqF, List.map_cons, List.map_nil, List.replicate, List.length_cons, List.length_nil, List.length_append, List.length_set, List.cons_append, List.nil_append, List.getElem?_cons_zero, List.getElem?_cons_succ, List.set_cons_zero, List.set_cons_succ, List.lookup, List.all_cons, List.all_nil, List.mem_cons, List.not_mem_nil, or_false, Nat.reduceAdd, Nat.reduceSub, Nat.zero_add, Nat.add_zero, beq_self_eq_true, Bool.and_true, Bool.true_and, Bool.not_true, Bool.not_false, if_true, if_false, Bool.false_eq_true, decide_true, decide_false, and_true, true_and, Nat.reduceLeDiff, String.reduceEq, String.reduceNe, String.reduceBEq, String.reduceBNe, Int.reduceNeg, Int.reduceLT, Int.reduceLE, Int.reduceAdd, Int.reduceMul, Int.reduceMod, Int.reducePow, reduceIte, false_or, true_or, or_true, or_self, false_and, and_false, Bool.or_false, Bool.false_or, Bool.true_or, Bool.or_true, Bool.and_false, Bool.false_and, decide_eq_true_eq, Bool.not_eq_true, Int.toNat_zero, Int.reduceToNat, Int.toNat_natCast, Int.reduceLE, Int.reduceLT, oEq_int, oNe_int, ↓reduceIte, Nat.lt_irrefl,  startG]
  refine hd _ _ ?_
  simp only [Body, gsNx, gsSeq, gsAsg, gsPar2, gsRet, gsRetN, gsDrop, gsIf, gsBrk, gsCt, gsAug, gsFld, gsNever, gsFor, gC, gV, gNil, gCons, gTup, gLst, gBin, gUn, gChain, gAndV, gOrV, gNotV, gIfE, gCall, gBlt, gMake, gMeth, gFld, gProp, gtV, gtT, truD, gtAnd, gtOr, gtNot, gtYes, oAdd, oSub, oMul, oMod, oFdiv, oFdivW, oPow, oLt, oLe, oGt, oGe, uNeg, oIs, oIsNot, ggNil, ggCons, ggTup, ggP, ggSub, oSetIx, runP, runPs, putG, giLst, giTup, giStr, giRng1, giRng2, gLc, wipeG, atG, oIx, goNone, goSome, gSlice, oSl, cutG, sIxG, cLen, cMax2, cMin2, cAbs, cStr, cBool, cInt, cTuple, cList, cIsi, isiB, isiO, tyD_obj, tyD_non, tyD_bl, tyD_int, tyD_str, tyD_tup, tyD_rol, tyO, oOwn, oOwnB, oOwnU, cOwn, isBlD, isStrD, isLenD, cBoolO, cStrO, cLenO, oInO, gCallO, itemsD, gJoin, oJoin, cRepr1, tbs, oks, okK_self, okK_n1, okK_n2, okK_n3, okK_n4, okK_n5, okK_n6, okK_n7, sp1, sp2, sp3, oAddI, withM_dM, withM_lit, withI_of, withX_of, withO_of, withT_at, withT_at0, withTL_some, st_set_new, st_set_new0, st_get_new, st_get_new0, List.append_assoc, Nat.add_assoc, st_new, st_new0, stS_new, stS_new0, gsRaise0, gsRaise1, gsTryT, gFldE, cIsiE, isiEx, gDict0, gBM, isTupD, mSplit, mStarts, mTxt0, oRep, oMulS, gSliceK, oSlK, gRepl, ggUnl, gLam, gAct, gMakeV, gCon, gCallO, giEnumS, oInF, flatD, eqF, List.map_cons, List.map_nil, List.replicate, List.length_cons, List.length_nil, List.length_append, List.length_set, List.cons_append, List.nil_append, List.getElem?_cons_zero, List.getElem?_cons_succ, List.set_cons_zero, List.set_cons_succ, List.lookup, List.all_cons, List.all_nil, List.mem_cons, List.not_mem_nil, or_false, Nat.reduceAdd, Nat.reduceSub, Nat.zero_add, Nat.add_zero, beq_self_eq_true, Bool.and_true, Bool.true_and, Bool.not_true, Bool.not_false, if_true, if_false, Bool.false_eq_true, decide_true, decide_false, and_true, true_and, Nat.reduceLeDiff, String.reduceEq, String.reduceNe, String.reduceBEq, String.reduceBNe, Int.reduceNeg, Int.reduceLT, Int.reduceLE, Int.reduceAdd, Int.reduceMul, Int.reduceMod, Int.reducePow, reduceIte, false_or, true_or, or_true, or_self, false_and, and_false, Bool.or_false, Bool.false_or, Bool.true_or, Bool.or_true, Bool.and_false, Bool.false_and, decide_eq_true_eq, Bool.not_eq_true, Int.toNat_zero, Int.reduceToNat, Int.toNat_natCast, Int.reduceLE, Int.reduceLT, oEq_int, oNe_int, ↓reduceIte, Nat.lt_irrefl,  D.wf, D.mf, D.fn, D.nf, D.fw, D.fm, cRepr, VALUE]
  refine ⟨p, hp _, hs.1, hs.2.1, hs.2.2.1, by have := hs.2.2.2; omega, ?_⟩
  exact ⟨by have := hs.2.2.2; show 7 + _ ≤ _; omega, q _ ⟨_, rfl⟩⟩
theorem tyD_mono {S L : SS} {d : D} {t : String} (h : tyD S d = some (.inl t)) : tyD (S ++ L) d = some (.inl t) := by
  cases d with
  | obj k =>
    rw [tyD_obj] at h ⊢
    cases e : S[k]? with
    | none => rw [e] at h; cases h
    | some o => rw [st_old e, ← e]; exact h
  | _ => exact h
theorem pv_mono {S L : SS} {d : D} (h : pv S d) : pv (S ++ L) d := by
  obtain ⟨t, h1, h2⟩ := h
  exact ⟨t, tyD_mono h1, h2⟩
theorem wf1_mono {S L : SS} {d : D} (h : wf1 S d) : wf1 (S ++ L) d := ⟨pv_mono h.1, fun ds e x hx => pv_mono (h.2 ds e x hx)⟩
theorem wf2_mono {S L : SS} {d : D} (h : wf2 S d) : wf2 (S ++ L) d := ⟨pv_mono h.1, fun ds e x hx => wf1_mono (h.2 ds e x hx)⟩
theorem noM_mono {S L : SS} {d : D} (h : noM S d) : noM (S ++ L) d := ⟨wf2_mono h.1, h.2⟩
theorem noF_mono {S L : SS} {d : D} (h : noF S d) : noF (S ++ L) d := ⟨wf1_mono h.1, h.2⟩
theorem wf2_1 {S : SS} {d : D} (h : wf2 S d) : wf1 S d := ⟨h.1, fun ds e x hx => (h.2 ds e x hx).1⟩
def pvL : D → Bool
  | .non => true
  | .bl _ => true
  | .int _ => true
  | .str _ => true
  | .tup _ => true
  | _ => false
def lit1 : D → Bool
  | .tup ds => ds.all pvL
  | d => pvL d
def lit2 : D → Bool
  | .tup ds => ds.all lit1
  | d => pvL d
theorem pvL_ok {S : SS} {d : D} (h : pvL d = true) : pv S d := by
  cases d <;> first | exact ⟨_, rfl, by simp [tyNames]⟩ | cases h
theorem lit1_pv {S : SS} {d : D} (h : lit1 d = true) : pv S d := by
  cases d <;> first | exact ⟨_, rfl, by simp [tyNames]⟩ | cases h
theorem lit1_ok {S : SS} {d : D} (h : lit1 d = true) : wf1 S d := by
  refine ⟨lit1_pv h, fun ds e x hx => ?_⟩
  subst e
  exact pvL_ok (List.all_eq_true.mp h x hx)
theorem lit2_ok {S : SS} {d : D} (h : lit2 d = true) : wf2 S d := by
  have h1 : pv S d := by
    cases d <;> first | exact ⟨_, rfl, by simp [tyNames]⟩ | cases h
  refine ⟨h1, fun ds e x hx => ?_⟩
  subst e
  exact lit1_ok (List.all_eq_true.mp h x hx)
theorem obj_pv {S : SS} {k : Nat} (h : ∃ t, tyO S[k]? = some (.inl t) ∧ t ∈ tyNames) : pv S (.obj k) := by
  obtain ⟨t, h1, h2⟩ := h
  exact ⟨t, by rw [tyD_obj]; exact h1, h2⟩
theorem obj_wf2 {S : SS} {k : Nat} (h : pv S (.obj k)) : wf2 S (.obj k) := ⟨h, fun ds e => nomatch e⟩
/-- what Turn refuses, and what a Turn refuses when called -/
def Bad (S : SS) (d : D) : Prop := ((∃ m, d = dM m ∧ m.sz 3000 ∧ ¬ m.ok) ∨ noM S d) ∧ ((∃ p q, d = dF p q ∧ szF (p, q) ∧ ¬ FrOk p q) ∨ noF S d)
theorem bad_M {S : SS} {m : M} (hz : m.sz 3) (h : ¬ m.ok) : Bad S (dM m) := ⟨.inl ⟨m, rfl, M.sz_mono hz (by decide), h⟩, .inr ⟨lit1_ok rfl, fun p q e => nomatch e⟩⟩
theorem bad_F {S : SS} {p q : Int} (h1 : p.natAbs < 2 ^ 3) (h2 : q.natAbs < 2 ^ 3) (h : ¬ FrOk p q) : Bad S (dF p q) := by
  have e : 2 ^ 3 ≤ 2 ^ 3000 := Nat.pow_le_pow_right (by decide) (by decide)
  exact ⟨.inr ⟨lit2_ok rfl, fun m e => nomatch e⟩, .inl ⟨p, q, rfl, ⟨Nat.lt_of_lt_of_le h1 e, Nat.lt_of_lt_of_le h2 e⟩, h⟩⟩
theorem bad_lit {S : SS} {d : D} (h : lit2 d = true) (h1 : ∀ m, d ≠ dM m) (h2 : ∀ p q, d ≠ dF p q) : Bad S d := ⟨.inr ⟨lit2_ok h, h1⟩, .inr ⟨wf2_1 (lit2_ok h), h2⟩⟩
theorem bad_obj {S : SS} {k : Nat} (h : ∃ t, tyO S[k]? = some (.inl t) ∧ t ∈ tyNames) : Bad S (.obj k) := ⟨.inr ⟨obj_wf2 (obj_pv h), fun m e => nomatch e⟩, .inr ⟨wf2_1 (obj_wf2 (obj_pv h)), fun p q e => nomatch e⟩⟩
theorem bad_mono {S L : SS} {d : D} (h : Bad S d) : Bad (S ++ L) d := ⟨h.1.imp id noM_mono, h.2.imp id noF_mono⟩
theorem init_bad {c : CA} {S : SS} {d : D} {Q : GQ} {X : GX} (h : Bad S d) (q : X c.BadMatrix [] (S ++ [.ins c.Turn []])) : sp_Turn___init__ c [.obj S.length, d] (S ++ [.ins c.Turn []]) Q X := by
  rw [e_Turn___init__, withO_of]
  rcases h.1 with ⟨m, rfl, hz, n⟩ | n
  · exact .inl ⟨m, rfl, hz, fun o => absurd o n, fun _ => q⟩
  · exact .inr ⟨noM_mono n, q⟩
theorem call_bad {c : CA} {S : SS} {k : Nat} {m : M} {d : D} {Q : GQ} {X : GX} (hk : S[k]? = some (oT c m)) (hz : m.sz 3000) (h : Bad S d) (q : X c.BadFraction [] S) : sp_Turn___call__ c [.obj k, d] S Q X := by
  rw [e_Turn___call__, withT_of hk]
  refine ⟨hz, ?_⟩
  rcases h.2 with ⟨p, q', rfl, hz, n⟩ | n
  · exact .inl ⟨p, q', rfl, hz, fun o => absurd o n, fun _ => q⟩
  · exact .inr ⟨n, q⟩
def Wrong (S : SS) (d : D) : Prop := pv S d ∧ (∀ x, d = .str x → x.length ≤ 100) ∧ ∃ e, badD d = some e
theorem word_bad {c : CA} {S : SS} {d : D} {Q : GQ} {X : GX} (h : Wrong S d) (q : ∀ e, X c.BadWord [(INDEX, e)] S) : sp_Turn_of_word c [.ref c.Turn, d] S Q X := by
  rw [e_Turn_of_word]
  obtain ⟨h1, h2, e, he⟩ := h
  refine ⟨rfl, h1, h2, ?_⟩
  rw [he]
  exact q e
def Far (S : SS) (d : D) (p : PyData) : Prop := pv S d ∧ (∀ n : Int, d = .int n → n < -200 ∨ 200 < n) ∧ (∀ L, toP (S ++ L) 8 d = some p) ∧ showOk p
theorem far_mono {S S2 : SS} {d : D} {p : PyData} (h : Far S d p) (e : ∃ L, S2 = S ++ L) : Far S2 d p := by
  obtain ⟨L, rfl⟩ := e
  exact ⟨pv_mono h.1, h.2.1, fun L' => by rw [List.append_assoc]; exact h.2.2.1 _, h.2.2.2⟩
theorem raised_bad {c : CA} {S : SS} {k : Nat} {m : M} {d : D} {p : PyData} {Q : GQ} {X : GX} (hk : S[k]? = some (oT c m)) (ho : m.ok) (h : Far S d p) (q : X c.BadNumber [(VALUE, d)] S) : sp_Turn_raised c [.obj k, d] S Q X := by
  rw [e_Turn_raised, withT_of hk]
  exact ⟨h.1, ho, .inr ⟨h.2.1, q⟩⟩
def Kp (c : CA) (S : SS) (k : Nat) (u : M) (o : GO) (S2 : SS) : Prop := ∃ L, S2 = S.set k o ++ (oT c u :: L)
theorem Kp.ext {c : CA} {S S2 : SS} {k : Nat} {u : M} {o : GO} (h : Kp c S k u o S2) {S3 : SS} (e : ∃ L, S3 = S2 ++ L) : Kp c S k u o S3 := by
  obtain ⟨L, rfl⟩ := h
  obtain ⟨L', rfl⟩ := e
  exact ⟨L ++ L', by rw [List.append_assoc]; rfl⟩
theorem Kp.turn {c : CA} {S S2 : SS} {k : Nat} {u : M} {o : GO} (h : Kp c S k u o S2) : S2[S.length]? = some (oT c u) := by
  obtain ⟨L, rfl⟩ := h
  rw [stS_new0]; rfl
theorem Kp.src {c : CA} {S S2 : SS} {k : Nat} {u : M} {o : GO} (h : Kp c S k u o S2) (kl : k < S.length) : S2[k]? = some o := by
  obtain ⟨L, rfl⟩ := h
  exact stS_k kl
theorem Kp.next {c : CA} {S S2 : SS} {k : Nat} {u : M} {o o' : GO} (h : Kp c S k u o S2) (kl : k < S.length) : Kp c S k u o' (S2.set k o') := by
  obtain ⟨L, rfl⟩ := h
  exact ⟨L, stS_set kl⟩
end Gh

namespace Gh
open PySem
theorem len__law_refusals_right (c : CA) (ds : List D) (S : SS) (Q : GQ) (G : GX) (h : sp__law_refusals_right c ds S Q G) : ds.length = 1 := sp1_len ds S Q G h
def SRS : Str := ⟨#[83, 82, 83]⟩
theorem vc__law_refusals_right (c : CA) (hc : ClsOk c) (ds : List D) (S : SS) (Q : GQ) (G : GX) (h : sp__law_refusals_right c ds S Q G) : Body (b__law_refusals_right c) N__law_refusals_right ds S Q G := by
  refine body1 h fun d h => ?_
  obtain ⟨k, cell, n, g, rfl, hk, n0, n1, h⟩ := withSrc_inv h
  have kl := st_lt hk
  unfold b__law_refusals_right N__law_refusals_right
  simp only [Body, gsSeq]
  simp only [Body, gsNx, gsAsg, gsPar2, gsRet, gsRetN, gsDrop, gsIf, gsBrk, gsCt, gsAug, gsFld, gsNever, gsFor, gC, gV, gNil, gCons, gTup, gLst, gBin, gUn, gChain, gAndV, gOrV, gNotV, gIfE, gCall, gBlt, gMake, gMeth, gFld, gProp, gtV, gtT, truD, gtAnd, gtOr, gtNot, gtYes, oAdd, oSub, oMul, oMod, oFdiv, oFdivW, oPow, oLt, oLe, oGt, oGe, uNeg, oIs, oIsNot, ggNil, ggCons, ggTup, ggP, ggSub, oSetIx, runP, runPs, putG, giLst, giTup, giStr, giRng1, giRng2, gLc, wipeG, atG, oIx, goNone, goSome, gSlice, oSl, cutG, sIxG, cLen, cMax2, cMin2, cAbs, cStr, cBool, cInt, cTuple, cList, cIsi, isiB, isiO, tyD_obj, tyD_non, tyD_bl, tyD_int, tyD_str, tyD_tup, tyD_rol, tyO, oOwn, oOwnB, oOwnU, cOwn, isBlD, isStrD, isLenD, cBoolO, cStrO, cLenO, oInO, gCallO, itemsD, gJoin, oJoin, cRepr1, tbs, oks, okK_self, okK_n1, okK_n2, okK_n3, okK_n4, okK_n5, okK_n6, okK_n7, sp1, sp2, sp3, oAddI, withM_dM, withM_lit, withI_of, withX_of, withO_of, withT_at, withT_at0, withTL_some, st_set_new, st_set_new0, st_get_new, st_get_new0, List.append_assoc, Nat.add_assoc, st_new, st_new0, stS_new, stS_new0, gsRaise0, gsRaise1, gsTryT, gFldE, cIsiE, isiEx, gDict0, gBM, isTupD, mSplit, mStarts, mTxt0, oRep, oMulS, gSliceK, oSlK, gRepl, ggUnl, gLam, gAct, gMakeV, gCon, gCallO, giEnumS, oInF, flatD, eqF, List.map_cons, List.map_nil, List.replicate, List.length_cons, List.length_nil, List.length_append, List.length_set, List.cons_append, List.nil_append, List.getElem?_cons_zero, List.getElem?_cons_succ, List.set_cons_zero, List.set_cons_succ, List.lookup, List.all_cons, List.all_nil, List.mem_cons, List.not_mem_nil, or_false, Nat.reduceAdd, Nat.reduceSub, Nat.zero_add, Nat.add_zero, beq_self_eq_true, Bool.and_true, Bool.true_and, Bool.not_true, Bool.not_false, if_true, if_false, Bool.false_eq_true, decide_true, decide_false, and_true, true_and, Nat.reduceLeDiff, String.reduceEq, String.reduceNe, String.reduceBEq, String.reduceBNe, Int.reduceNeg, Int.reduceLT, Int.reduceLE, Int.reduceAdd, Int.reduceMul, Int.reduceMod, Int.reducePow, reduceIte, false_or, true_or, or_true, or_self, false_and, and_false, Bool.or_false, Bool.false_or, Bool.true_or, Bool.or_true, Bool.and_false, Bool.false_and, decide_eq_true_eq, Bool.not_eq_true, Int.toNat_zero, Int.reduceToNat, Int.toNat_natCast, Int.reduceLE, Int.reduceLT, oEq_int, oNe_int, ↓reduceIte, Nat.lt_irrefl,  e_Turn_of_word]
  refine ⟨⟨_, rfl, by simp [tyNames]⟩, fun x e => by cases e; decide, ?_⟩
  have eb : badD (.str ⟨#[83, 82, 83]⟩) = none := by decide
  rw [eb]
  have hu : (matW [83, 82, 83]).ok := matW_ok _
  have su : (matW [83, 82, 83]).sz 7 := matW_sz [83, 82, 83]
  obtain ⟨u, eu⟩ : ∃ u, u = matW [83, 82, 83] := ⟨_, rfl⟩
  rw [← eu] at hu su
  have eu2 : matW (⟨#[83, 82, 83]⟩ : Str).cps.toList = u := eu.symm
  simp only [gsSeq]
  simp only [Body, gsNx, gsAsg, gsPar2, gsRet, gsRetN, gsDrop, gsIf, gsBrk, gsCt, gsAug, gsFld, gsNever, gsFor, gC, gV, gNil, gCons, gTup, gLst, gBin, gUn, gChain, gAndV, gOrV, gNotV, gIfE, gCall, gBlt, gMake, gMeth, gFld, gProp, gtV, gtT, truD, gtAnd, gtOr, gtNot, gtYes, oAdd, oSub, oMul, oMod, oFdiv, oFdivW, oPow, oLt, oLe, oGt, oGe, uNeg, oIs, oIsNot, ggNil, ggCons, ggTup, ggP, ggSub, oSetIx, runP, runPs, putG, giLst, giTup, giStr, giRng1, giRng2, gLc, wipeG, atG, oIx, goNone, goSome, gSlice, oSl, cutG, sIxG, cLen, cMax2, cMin2, cAbs, cStr, cBool, cInt, cTuple, cList, cIsi, isiB, isiO, tyD_obj, tyD_non, tyD_bl, tyD_int, tyD_str, tyD_tup, tyD_rol, tyO, oOwn, oOwnB, oOwnU, cOwn, isBlD, isStrD, isLenD, cBoolO, cStrO, cLenO, oInO, gCallO, itemsD, gJoin, oJoin, cRepr1, tbs, oks, okK_self, okK_n1, okK_n2, okK_n3, okK_n4, okK_n5, okK_n6, okK_n7, sp1, sp2, sp3, oAddI, withM_dM, withM_lit, withI_of, withX_of, withO_of, withT_at, withT_at0, withTL_some, st_set_new, st_set_new0, st_get_new, st_get_new0, List.append_assoc, Nat.add_assoc, st_new, st_new0, stS_new, stS_new0, gsRaise0, gsRaise1, gsTryT, gFldE, cIsiE, isiEx, gDict0, gBM, isTupD, mSplit, mStarts, mTxt0, oRep, oMulS, gSliceK, oSlK, gRepl, ggUnl, gLam, gAct, gMakeV, gCon, gCallO, giEnumS, oInF, flatD, eqF, List.map_cons, List.map_nil, List.replicate, List.length_cons, List.length_nil, List.length_append, List.length_set, List.cons_append, List.nil_append, List.getElem?_cons_zero, List.getElem?_cons_succ, List.set_cons_zero, List.set_cons_succ, List.lookup, List.all_cons, List.all_nil, List.mem_cons, List.not_mem_nil, or_false, Nat.reduceAdd, Nat.reduceSub, Nat.zero_add, Nat.add_zero, beq_self_eq_true, Bool.and_true, Bool.true_and, Bool.not_true, Bool.not_false, if_true, if_false, Bool.false_eq_true, decide_true, decide_false, and_true, true_and, Nat.reduceLeDiff, String.reduceEq, String.reduceNe, String.reduceBEq, String.reduceBNe, Int.reduceNeg, Int.reduceLT, Int.reduceLE, Int.reduceAdd, Int.reduceMul, Int.reduceMod, Int.reducePow, reduceIte, false_or, true_or, or_true, or_self, false_and, and_false, Bool.or_false, Bool.false_or, Bool.true_or, Bool.or_true, Bool.and_false, Bool.false_and, decide_eq_true_eq, Bool.not_eq_true, Int.toNat_zero, Int.reduceToNat, Int.toNat_natCast, Int.reduceLE, Int.reduceLT, oEq_int, oNe_int, ↓reduceIte, Nat.lt_irrefl,  e_Turn_of_word, withX_of, eu2]
  simp only [gsSeq]
  simp only [Body, gsNx, gsAsg, gsPar2, gsRet, gsRetN, gsDrop, gsIf, gsBrk, gsCt, gsAug, gsFld, gsNever, gsFor, gC, gV, gNil, gCons, gTup, gLst, gBin, gUn, gChain, gAndV, gOrV, gNotV, gIfE, gCall, gBlt, gMake, gMeth, gFld, gProp, gtV, gtT, truD, gtAnd, gtOr, gtNot, gtYes, oAdd, oSub, oMul, oMod, oFdiv, oFdivW, oPow, oLt, oLe, oGt, oGe, uNeg, oIs, oIsNot, ggNil, ggCons, ggTup, ggP, ggSub, oSetIx, runP, runPs, putG, giLst, giTup, giStr, giRng1, giRng2, gLc, wipeG, atG, oIx, goNone, goSome, gSlice, oSl, cutG, sIxG, cLen, cMax2, cMin2, cAbs, cStr, cBool, cInt, cTuple, cList, cIsi, isiB, isiO, tyD_obj, tyD_non, tyD_bl, tyD_int, tyD_str, tyD_tup, tyD_rol, tyO, oOwn, oOwnB, oOwnU, cOwn, isBlD, isStrD, isLenD, cBoolO, cStrO, cLenO, oInO, gCallO, itemsD, gJoin, oJoin, cRepr1, tbs, oks, okK_self, okK_n1, okK_n2, okK_n3, okK_n4, okK_n5, okK_n6, okK_n7, sp1, sp2, sp3, oAddI, withM_dM, withM_lit, withI_of, withX_of, withO_of, withT_at, withT_at0, withTL_some, st_set_new, st_set_new0, st_get_new, st_get_new0, List.append_assoc, Nat.add_assoc, st_new, st_new0, stS_new, stS_new0, gsRaise0, gsRaise1, gsTryT, gFldE, cIsiE, isiEx, gDict0, gBM, isTupD, mSplit, mStarts, mTxt0, oRep, oMulS, gSliceK, oSlK, gRepl, ggUnl, gLam, gAct, gMakeV, gCon, gCallO, giEnumS, oInF, flatD, eqF, List.map_cons, List.map_nil, List.replicate, List.length_cons, List.length_nil, List.length_append, List.length_set, List.cons_append, List.nil_append, List.getElem?_cons_zero, List.getElem?_cons_succ, List.set_cons_zero, List.set_cons_succ, List.lookup, List.all_cons, List.all_nil, List.mem_cons, List.not_mem_nil, or_false, Nat.reduceAdd, Nat.reduceSub, Nat.zero_add, Nat.add_zero, beq_self_eq_true, Bool.and_true, Bool.true_and, Bool.not_true, Bool.not_false, if_true, if_false, Bool.false_eq_true, decide_true, decide_false, and_true, true_and, Nat.reduceLeDiff, String.reduceEq, String.reduceNe, String.reduceBEq, String.reduceBNe, Int.reduceNeg, Int.reduceLT, Int.reduceLE, Int.reduceAdd, Int.reduceMul, Int.reduceMod, Int.reducePow, reduceIte, false_or, true_or, or_true, or_self, false_and, and_false, Bool.or_false, Bool.false_or, Bool.true_or, Bool.or_true, Bool.and_false, Bool.false_and, decide_eq_true_eq, Bool.not_eq_true, Int.toNat_zero, Int.reduceToNat, Int.toNat_natCast, Int.reduceLE, Int.reduceLT, oEq_int, oNe_int, ↓reduceIte, Nat.lt_irrefl,  e_Turn_of_word, withX_of, eu2]
  simp only [gsSeq]
  simp only [Body, gsNx, gsAsg, gsPar2, gsRet, gsRetN, gsDrop, gsIf, gsBrk, gsCt, gsAug, gsFld, gsNever, gsFor, gC, gV, gNil, gCons, gTup, gLst, gBin, gUn, gChain, gAndV, gOrV, gNotV, gIfE, gCall, gBlt, gMake, gMeth, gFld, gProp, gtV, gtT, truD, gtAnd, gtOr, gtNot, gtYes, oAdd, oSub, oMul, oMod, oFdiv, oFdivW, oPow, oLt, oLe, oGt, oGe, uNeg, oIs, oIsNot, ggNil, ggCons, ggTup, ggP, ggSub, oSetIx, runP, runPs, putG, giLst, giTup, giStr, giRng1, giRng2, gLc, wipeG, atG, oIx, goNone, goSome, gSlice, oSl, cutG, sIxG, cLen, cMax2, cMin2, cAbs, cStr, cBool, cInt, cTuple, cList, cIsi, isiB, isiO, tyD_obj, tyD_non, tyD_bl, tyD_int, tyD_str, tyD_tup, tyD_rol, tyO, oOwn, oOwnB, oOwnU, cOwn, isBlD, isStrD, isLenD, cBoolO, cStrO, cLenO, oInO, gCallO, itemsD, gJoin, oJoin, cRepr1, tbs, oks, okK_self, okK_n1, okK_n2, okK_n3, okK_n4, okK_n5, okK_n6, okK_n7, sp1, sp2, sp3, oAddI, withM_dM, withM_lit, withI_of, withX_of, withO_of, withT_at, withT_at0, withTL_some, st_set_new, st_set_new0, st_get_new, st_get_new0, List.append_assoc, Nat.add_assoc, st_new, st_new0, stS_new, stS_new0, gsRaise0, gsRaise1, gsTryT, gFldE, cIsiE, isiEx, gDict0, gBM, isTupD, mSplit, mStarts, mTxt0, oRep, oMulS, gSliceK, oSlK, gRepl, ggUnl, gLam, gAct, gMakeV, gCon, gCallO, giEnumS, oInF, flatD, eqF, List.map_cons, List.map_nil, List.replicate, List.length_cons, List.length_nil, List.length_append, List.length_set, List.cons_append, List.nil_append, List.getElem?_cons_zero, List.getElem?_cons_succ, List.set_cons_zero, List.set_cons_succ, List.lookup, List.all_cons, List.all_nil, List.mem_cons, List.not_mem_nil, or_false, Nat.reduceAdd, Nat.reduceSub, Nat.zero_add, Nat.add_zero, beq_self_eq_true, Bool.and_true, Bool.true_and, Bool.not_true, Bool.not_false, if_true, if_false, Bool.false_eq_true, decide_true, decide_false, and_true, true_and, Nat.reduceLeDiff, String.reduceEq, String.reduceNe, String.reduceBEq, String.reduceBNe, Int.reduceNeg, Int.reduceLT, Int.reduceLE, Int.reduceAdd, Int.reduceMul, Int.reduceMod, Int.reducePow, reduceIte, false_or, true_or, or_true, or_self, false_and, and_false, Bool.or_false, Bool.false_or, Bool.true_or, Bool.or_true, Bool.and_false, Bool.false_and, decide_eq_true_eq, Bool.not_eq_true, Int.toNat_zero, Int.reduceToNat, Int.toNat_natCast, Int.reduceLE, Int.reduceLT, oEq_int, oNe_int, ↓reduceIte, Nat.lt_irrefl,  e__law_next, withSrc_of (st_old hk)]
  refine ⟨n0, by omega, fun v1 n1' g1 v10 v11 n10 n11 => ?_⟩
  rw [st_set_old kl]
  obtain ⟨T, hT⟩ : ∃ T, T = S.set k (srcO cell n1' g1) := ⟨_, rfl⟩
  have tl : S.length = T.length := by rw [hT, List.length_set]
  have kT : T[k]? = some (srcO cell n1' g1) := by rw [hT]; exact stS_kk kl
  rw [← hT, tl]
  simp only [Body, gsNx, gsAsg, gsPar2, gsRet, gsRetN, gsDrop, gsIf, gsBrk, gsCt, gsAug, gsFld, gsNever, gsFor, gC, gV, gNil, gCons, gTup, gLst, gBin, gUn, gChain, gAndV, gOrV, gNotV, gIfE, gCall, gBlt, gMake, gMeth, gFld, gProp, gtV, gtT, truD, gtAnd, gtOr, gtNot, gtYes, oAdd, oSub, oMul, oMod, oFdiv, oFdivW, oPow, oLt, oLe, oGt, oGe, uNeg, oIs, oIsNot, ggNil, ggCons, ggTup, ggP, ggSub, oSetIx, runP, runPs, putG, giLst, giTup, giStr, giRng1, giRng2, gLc, wipeG, atG, oIx, goNone, goSome, gSlice, oSl, cutG, sIxG, cLen, cMax2, cMin2, cAbs, cStr, cBool, cInt, cTuple, cList, cIsi, isiB, isiO, tyD_obj, tyD_non, tyD_bl, tyD_int, tyD_str, tyD_tup, tyD_rol, tyO, oOwn, oOwnB, oOwnU, cOwn, isBlD, isStrD, isLenD, cBoolO, cStrO, cLenO, oInO, gCallO, itemsD, gJoin, oJoin, cRepr1, tbs, oks, okK_self, okK_n1, okK_n2, okK_n3, okK_n4, okK_n5, okK_n6, okK_n7, sp1, sp2, sp3, oAddI, withM_dM, withM_lit, withI_of, withX_of, withO_of, withT_at, withT_at0, withTL_some, st_set_new, st_set_new0, st_get_new, st_get_new0, List.append_assoc, Nat.add_assoc, st_new, st_new0, stS_new, stS_new0, gsRaise0, gsRaise1, gsTryT, gFldE, cIsiE, isiEx, gDict0, gBM, isTupD, mSplit, mStarts, mTxt0, oRep, oMulS, gSliceK, oSlK, gRepl, ggUnl, gLam, gAct, gMakeV, gCon, gCallO, giEnumS, oInF, flatD, eqF, List.map_cons, List.map_nil, List.replicate, List.length_cons, List.length_nil, List.length_append, List.length_set, List.cons_append, List.nil_append, List.getElem?_cons_zero, List.getElem?_cons_succ, List.set_cons_zero, List.set_cons_succ, List.lookup, List.all_cons, List.all_nil, List.mem_cons, List.not_mem_nil, or_false, Nat.reduceAdd, Nat.reduceSub, Nat.zero_add, Nat.add_zero, beq_self_eq_true, Bool.and_true, Bool.true_and, Bool.not_true, Bool.not_false, if_true, if_false, Bool.false_eq_true, decide_true, decide_false, and_true, true_and, Nat.reduceLeDiff, String.reduceEq, String.reduceNe, String.reduceBEq, String.reduceBNe, Int.reduceNeg, Int.reduceLT, Int.reduceLE, Int.reduceAdd, Int.reduceMul, Int.reduceMod, Int.reducePow, reduceIte, false_or, true_or, or_true, or_self, false_and, and_false, Bool.or_false, Bool.false_or, Bool.true_or, Bool.or_true, Bool.and_false, Bool.false_and, decide_eq_true_eq, Bool.not_eq_true, Int.toNat_zero, Int.reduceToNat, Int.toNat_natCast, Int.reduceLE, Int.reduceLT, oEq_int, oNe_int, ↓reduceIte, Nat.lt_irrefl,  e__law_next]
  have hbad : ∃ bad, (if 0 ≤ v1 then [D.non, D.bl true, D.int 0, D.str { cps := #[] }, D.tup [], D.obj (List.length T + 1),
                                D.obj (List.length T + 2), D.str { cps := #[83, 83] },
                                D.tup [D.tup [D.int 1, D.int 0], D.tup [D.int 0, D.int 2]],
                                D.tup [D.tup [D.int 0, D.int 1], D.tup [D.int (-1), D.int 0]], D.tup [D.int 2, D.int 4],
                                D.tup [D.int 0, D.int 0], D.tup [D.bl true, D.int 1], D.tup [D.int 1, D.bl false]][v1.toNat]? else
      if -((14 : Nat) : Int) ≤ v1 then [D.non, D.bl true, D.int 0, D.str { cps := #[] }, D.tup [], D.obj (List.length T + 1),
                                D.obj (List.length T + 2), D.str { cps := #[83, 83] },
                                D.tup [D.tup [D.int 1, D.int 0], D.tup [D.int 0, D.int 2]],
                                D.tup [D.tup [D.int 0, D.int 1], D.tup [D.int (-1), D.int 0]], D.tup [D.int 2, D.int 4],
                                D.tup [D.int 0, D.int 0], D.tup [D.bl true, D.int 1], D.tup [D.int 1, D.bl false]][(v1 + ((14 : Nat) : Int)).toNat]? else none) = some bad ∧ ∀ L, Bad (T ++ [oT c u, GO.lst [], GO.dK []] ++ L) bad := by
    have : v1 = 0 ∨ v1 = 1 ∨ v1 = 2 ∨ v1 = 3 ∨ v1 = 4 ∨ v1 = 5 ∨ v1 = 6 ∨ v1 = 7 ∨ v1 = 8 ∨ v1 = 9 ∨ v1 = 10 ∨ v1 = 11 ∨ v1 = 12 ∨ v1 = 13 := by omega
    have o1 : ∀ L, Bad (T ++ [oT c u, GO.lst [], GO.dK []] ++ L) (.obj (T.length + 1)) := fun L => bad_obj ⟨"list", by rw [List.append_assoc, st_new]; rfl, by simp [tyNames]⟩
    have o2 : ∀ L, Bad (T ++ [oT c u, GO.lst [], GO.dK []] ++ L) (.obj (T.length + 2)) := fun L => bad_obj ⟨"dict", by rw [List.append_assoc, st_new]; rfl, by simp [tyNames]⟩
    have l1 : ∀ d : D, lit2 d = true → (∀ m, d ≠ dM m) → (∀ p q, d ≠ dF p q) → ∀ L, Bad (T ++ [oT c u, GO.lst [], GO.dK []] ++ L) d := fun d h1 h2 h3 L => bad_lit h1 h2 h3
    rcases this with rfl | rfl | rfl | rfl | rfl | rfl | rfl | rfl | rfl | rfl | rfl | rfl | rfl | rfl
    · exact ⟨_, rfl, l1 _ rfl (fun m e => nomatch e) (fun p q e => nomatch e)⟩
    · exact ⟨_, rfl, l1 _ rfl (fun m e => nomatch e) (fun p q e => nomatch e)⟩
    · exact ⟨_, rfl, l1 _ rfl (fun m e => nomatch e) (fun p q e => nomatch e)⟩
    · exact ⟨_, rfl, l1 _ rfl (fun m e => nomatch e) (fun p q e => nomatch e)⟩
    · exact ⟨_, rfl, l1 _ rfl (fun m e => nomatch e) (fun p q e => nomatch e)⟩
    · exact ⟨_, rfl, o1⟩
    · exact ⟨_, rfl, o2⟩
    · exact ⟨_, rfl, l1 _ rfl (fun m e => nomatch e) (fun p q e => nomatch e)⟩
    · exact ⟨_, rfl, fun L => bad_M (m := ⟨1, 0, 0, 2⟩) ⟨by decide, by decide, by decide, by decide⟩ (by decide)⟩
    · exact ⟨_, rfl, fun L => bad_M (m := ⟨0, 1, -1, 0⟩) ⟨by decide, by decide, by decide, by decide⟩ (by decide)⟩
    · exact ⟨_, rfl, fun L => bad_F (p := 2) (q := 4) (by decide) (by decide) (by unfold FrOk; decide)⟩
    · exact ⟨_, rfl, fun L => bad_F (p := 0) (q := 0) (by decide) (by decide) (by unfold FrOk; decide)⟩
    · exact ⟨_, rfl, l1 _ rfl (fun m e => nomatch e) (fun p q e => nomatch e)⟩
    · exact ⟨_, rfl, l1 _ rfl (fun m e => nomatch e) (fun p q e => nomatch e)⟩
  obtain ⟨bad, hb, hbad⟩ := hbad
  rw [hb]
  have hbad2 : ∀ L, Bad (T ++ (oT c u :: GO.lst [] :: GO.dK [] :: L)) bad := fun L => by
    have := hbad L
    rw [List.append_assoc] at this
    exact this
  clear hbad hb
  simp only [gsSeq]
  simp only [Body, gsNx, gsAsg, gsPar2, gsRet, gsRetN, gsDrop, gsIf, gsBrk, gsCt, gsAug, gsFld, gsNever, gsFor, gC, gV, gNil, gCons, gTup, gLst, gBin, gUn, gChain, gAndV, gOrV, gNotV, gIfE, gCall, gBlt, gMake, gMeth, gFld, gProp, gtV, gtT, truD, gtAnd, gtOr, gtNot, gtYes, oAdd, oSub, oMul, oMod, oFdiv, oFdivW, oPow, oLt, oLe, oGt, oGe, uNeg, oIs, oIsNot, ggNil, ggCons, ggTup, ggP, ggSub, oSetIx, runP, runPs, putG, giLst, giTup, giStr, giRng1, giRng2, gLc, wipeG, atG, oIx, goNone, goSome, gSlice, oSl, cutG, sIxG, cLen, cMax2, cMin2, cAbs, cStr, cBool, cInt, cTuple, cList, cIsi, isiB, isiO, tyD_obj, tyD_non, tyD_bl, tyD_int, tyD_str, tyD_tup, tyD_rol, tyO, oOwn, oOwnB, oOwnU, cOwn, isBlD, isStrD, isLenD, cBoolO, cStrO, cLenO, oInO, gCallO, itemsD, gJoin, oJoin, cRepr1, tbs, oks, okK_self, okK_n1, okK_n2, okK_n3, okK_n4, okK_n5, okK_n6, okK_n7, sp1, sp2, sp3, oAddI, withM_dM, withM_lit, withI_of, withX_of, withO_of, withT_at, withT_at0, withTL_some, st_set_new, st_set_new0, st_get_new, st_get_new0, List.append_assoc, Nat.add_assoc, st_new, st_new0, stS_new, stS_new0, gsRaise0, gsRaise1, gsTryT, gFldE, cIsiE, isiEx, gDict0, gBM, isTupD, mSplit, mStarts, mTxt0, oRep, oMulS, gSliceK, oSlK, gRepl, ggUnl, gLam, gAct, gMakeV, gCon, gCallO, giEnumS, oInF, flatD, eqF, List.map_cons, List.map_nil, List.replicate, List.length_cons, List.length_nil, List.length_append, List.length_set, List.cons_append, List.nil_append, List.getElem?_cons_zero, List.getElem?_cons_succ, List.set_cons_zero, List.set_cons_succ, List.lookup, List.all_cons, List.all_nil, List.mem_cons, List.not_mem_nil, or_false, Nat.reduceAdd, Nat.reduceSub, Nat.zero_add, Nat.add_zero, beq_self_eq_true, Bool.and_true, Bool.true_and, Bool.not_true, Bool.not_false, if_true, if_false, Bool.false_eq_true, decide_true, decide_false, and_true, true_and, Nat.reduceLeDiff, String.reduceEq, String.reduceNe, String.reduceBEq, String.reduceBNe, Int.reduceNeg, Int.reduceLT, Int.reduceLE, Int.reduceAdd, Int.reduceMul, Int.reduceMod, Int.reducePow, reduceIte, false_or, true_or, or_true, or_self, false_and, and_false, Bool.or_false, Bool.false_or, Bool.true_or, Bool.or_true, Bool.and_false, Bool.false_and, decide_eq_true_eq, Bool.not_eq_true, Int.toNat_zero, Int.reduceToNat, Int.toNat_natCast, Int.reduceLE, Int.reduceLT, oEq_int, oNe_int, ↓reduceIte, Nat.lt_irrefl,  e__law_next]
  refine fun f => told_matrix hc (fun G Q' hg => init_bad (hbad2 _) hg) fun S2 hS2 => ?_
  have kp : Kp c S k u (srcO cell n1' g1) S2 := by
    obtain ⟨L, rfl⟩ := hS2
    exact ⟨_, by rw [hT, List.append_assoc, List.append_assoc]; rfl⟩
  have hbad : Bad S2 bad := by
    obtain ⟨L, rfl⟩ := hS2
    exact bad_mono (bad_mono (hbad2 _))
  rw [← tl] at *
  clear hS2 hbad2
  simp only [Body, gsNx, gsAsg, gsPar2, gsRet, gsRetN, gsDrop, gsIf, gsBrk, gsCt, gsAug, gsFld, gsNever, gsFor, gC, gV, gNil, gCons, gTup, gLst, gBin, gUn, gChain, gAndV, gOrV, gNotV, gIfE, gCall, gBlt, gMake, gMeth, gFld, gProp, gtV, gtT, truD, gtAnd, gtOr, gtNot, gtYes, oAdd, oSub, oMul, oMod, oFdiv, oFdivW, oPow, oLt, oLe, oGt, oGe, uNeg, oIs, oIsNot, ggNil, ggCons, ggTup, ggP, ggSub, oSetIx, runP, runPs, putG, giLst, giTup, giStr, giRng1, giRng2, gLc, wipeG, atG, oIx, goNone, goSome, gSlice, oSl, cutG, sIxG, cLen, cMax2, cMin2, cAbs, cStr, cBool, cInt, cTuple, cList, cIsi, isiB, isiO, tyD_obj, tyD_non, tyD_bl, tyD_int, tyD_str, tyD_tup, tyD_rol, tyO, oOwn, oOwnB, oOwnU, cOwn, isBlD, isStrD, isLenD, cBoolO, cStrO, cLenO, oInO, gCallO, itemsD, gJoin, oJoin, cRepr1, tbs, oks, okK_self, okK_n1, okK_n2, okK_n3, okK_n4, okK_n5, okK_n6, okK_n7, sp1, sp2, sp3, oAddI, withM_dM, withM_lit, withI_of, withX_of, withO_of, withT_at, withT_at0, withTL_some, st_set_new, st_set_new0, st_get_new, st_get_new0, List.append_assoc, Nat.add_assoc, st_new, st_new0, stS_new, stS_new0, gsRaise0, gsRaise1, gsTryT, gFldE, cIsiE, isiEx, gDict0, gBM, isTupD, mSplit, mStarts, mTxt0, oRep, oMulS, gSliceK, oSlK, gRepl, ggUnl, gLam, gAct, gMakeV, gCon, gCallO, giEnumS, oInF, flatD, eqF, List.map_cons, List.map_nil, List.replicate, List.length_cons, List.length_nil, List.length_append, List.length_set, List.cons_append, List.nil_append, List.getElem?_cons_zero, List.getElem?_cons_succ, List.set_cons_zero, List.set_cons_succ, List.lookup, List.all_cons, List.all_nil, List.mem_cons, List.not_mem_nil, or_false, Nat.reduceAdd, Nat.reduceSub, Nat.zero_add, Nat.add_zero, beq_self_eq_true, Bool.and_true, Bool.true_and, Bool.not_true, Bool.not_false, if_true, if_false, Bool.false_eq_true, decide_true, decide_false, and_true, true_and, Nat.reduceLeDiff, String.reduceEq, String.reduceNe, String.reduceBEq, String.reduceBNe, Int.reduceNeg, Int.reduceLT, Int.reduceLE, Int.reduceAdd, Int.reduceMul, Int.reduceMod, Int.reducePow, reduceIte, false_or, true_or, or_true, or_self, false_and, and_false, Bool.or_false, Bool.false_or, Bool.true_or, Bool.or_true, Bool.and_false, Bool.false_and, decide_eq_true_eq, Bool.not_eq_true, Int.toNat_zero, Int.reduceToNat, Int.toNat_natCast, Int.reduceLE, Int.reduceLT, oEq_int, oNe_int, ↓reduceIte, Nat.lt_irrefl,  oNe_strs]
  simp only [gsSeq]
  simp only [Body, gsNx, gsAsg, gsPar2, gsRet, gsRetN, gsDrop, gsIf, gsBrk, gsCt, gsAug, gsFld, gsNever, gsFor, gC, gV, gNil, gCons, gTup, gLst, gBin, gUn, gChain, gAndV, gOrV, gNotV, gIfE, gCall, gBlt, gMake, gMeth, gFld, gProp, gtV, gtT, truD, gtAnd, gtOr, gtNot, gtYes, oAdd, oSub, oMul, oMod, oFdiv, oFdivW, oPow, oLt, oLe, oGt, oGe, uNeg, oIs, oIsNot, ggNil, ggCons, ggTup, ggP, ggSub, oSetIx, runP, runPs, putG, giLst, giTup, giStr, giRng1, giRng2, gLc, wipeG, atG, oIx, goNone, goSome, gSlice, oSl, cutG, sIxG, cLen, cMax2, cMin2, cAbs, cStr, cBool, cInt, cTuple, cList, cIsi, isiB, isiO, tyD_obj, tyD_non, tyD_bl, tyD_int, tyD_str, tyD_tup, tyD_rol, tyO, oOwn, oOwnB, oOwnU, cOwn, isBlD, isStrD, isLenD, cBoolO, cStrO, cLenO, oInO, gCallO, itemsD, gJoin, oJoin, cRepr1, tbs, oks, okK_self, okK_n1, okK_n2, okK_n3, okK_n4, okK_n5, okK_n6, okK_n7, sp1, sp2, sp3, oAddI, withM_dM, withM_lit, withI_of, withX_of, withO_of, withT_at, withT_at0, withTL_some, st_set_new, st_set_new0, st_get_new, st_get_new0, List.append_assoc, Nat.add_assoc, st_new, st_new0, stS_new, stS_new0, gsRaise0, gsRaise1, gsTryT, gFldE, cIsiE, isiEx, gDict0, gBM, isTupD, mSplit, mStarts, mTxt0, oRep, oMulS, gSliceK, oSlK, gRepl, ggUnl, gLam, gAct, gMakeV, gCon, gCallO, giEnumS, oInF, flatD, eqF, List.map_cons, List.map_nil, List.replicate, List.length_cons, List.length_nil, List.length_append, List.length_set, List.cons_append, List.nil_append, List.getElem?_cons_zero, List.getElem?_cons_succ, List.set_cons_zero, List.set_cons_succ, List.lookup, List.all_cons, List.all_nil, List.mem_cons, List.not_mem_nil, or_false, Nat.reduceAdd, Nat.reduceSub, Nat.zero_add, Nat.add_zero, beq_self_eq_true, Bool.and_true, Bool.true_and, Bool.not_true, Bool.not_false, if_true, if_false, Bool.false_eq_true, decide_true, decide_false, and_true, true_and, Nat.reduceLeDiff, String.reduceEq, String.reduceNe, String.reduceBEq, String.reduceBNe, Int.reduceNeg, Int.reduceLT, Int.reduceLE, Int.reduceAdd, Int.reduceMul, Int.reduceMod, Int.reducePow, reduceIte, false_or, true_or, or_true, or_self, false_and, and_false, Bool.or_false, Bool.false_or, Bool.true_or, Bool.or_true, Bool.and_false, Bool.false_and, decide_eq_true_eq, Bool.not_eq_true, Int.toNat_zero, Int.reduceToNat, Int.toNat_natCast, Int.reduceLE, Int.reduceLT, oEq_int, oNe_int, ↓reduceIte, Nat.lt_irrefl,  oNe_strs]
  refine fun f => told_fraction hc (fun G Q' hg => ?_) fun S3 hS3 => ?_
  · have ht := kp.turn
    unfold oT at ht
    simp only [Body, gsNx, gsSeq, gsAsg, gsPar2, gsRet, gsRetN, gsDrop, gsIf, gsBrk, gsCt, gsAug, gsFld, gsNever, gsFor, gC, gV, gNil, gCons, gTup, gLst, gBin, gUn, gChain, gAndV, gOrV, gNotV, gIfE, gCall, gBlt, gMake, gMeth, gFld, gProp, gtV, gtT, truD, gtAnd, gtOr, gtNot, gtYes, oAdd, oSub, oMul, oMod, oFdiv, oFdivW, oPow, oLt, oLe, oGt, oGe, uNeg, oIs, oIsNot, ggNil, ggCons, ggTup, ggP, ggSub, oSetIx, runP, runPs, putG, giLst, giTup, giStr, giRng1, giRng2, gLc, wipeG, atG, oIx, goNone, goSome, gSlice, oSl, cutG, sIxG, cLen, cMax2, cMin2, cAbs, cStr, cBool, cInt, cTuple, cList, cIsi, isiB, isiO, tyD_obj, tyD_non, tyD_bl, tyD_int, tyD_str, tyD_tup, tyD_rol, tyO, oOwn, oOwnB, oOwnU, cOwn, isBlD, isStrD, isLenD, cBoolO, cStrO, cLenO, oInO, gCallO, itemsD, gJoin, oJoin, cRepr1, tbs, oks, okK_self, okK_n1, okK_n2, okK_n3, okK_n4, okK_n5, okK_n6, okK_n7, sp1, sp2, sp3, oAddI, withM_dM, withM_lit, withI_of, withX_of, withO_of, withT_at, withT_at0, withTL_some, st_set_new, st_set_new0, st_get_new, st_get_new0, List.append_assoc, Nat.add_assoc, st_new, st_new0, stS_new, stS_new0, gsRaise0, gsRaise1, gsTryT, gFldE, cIsiE, isiEx, gDict0, gBM, isTupD, mSplit, mStarts, mTxt0, oRep, oMulS, gSliceK, oSlK, gRepl, ggUnl, gLam, gAct, gMakeV, gCon, gCallO, giEnumS, oInF, flatD, eqF, List.map_cons, List.map_nil, List.replicate, List.length_cons, List.length_nil, List.length_append, List.length_set, List.cons_append, List.nil_append, List.getElem?_cons_zero, List.getElem?_cons_succ, List.set_cons_zero, List.set_cons_succ, List.lookup, List.all_cons, List.all_nil, List.mem_cons, List.not_mem_nil, or_false, Nat.reduceAdd, Nat.reduceSub, Nat.zero_add, Nat.add_zero, beq_self_eq_true, Bool.and_true, Bool.true_and, Bool.not_true, Bool.not_false, if_true, if_false, Bool.false_eq_true, decide_true, decide_false, and_true, true_and, Nat.reduceLeDiff, String.reduceEq, String.reduceNe, String.reduceBEq, String.reduceBNe, Int.reduceNeg, Int.reduceLT, Int.reduceLE, Int.reduceAdd, Int.reduceMul, Int.reduceMod, Int.reducePow, reduceIte, false_or, true_or, or_true, or_self, false_and, and_false, Bool.or_false, Bool.false_or, Bool.true_or, Bool.or_true, Bool.and_false, Bool.false_and, decide_eq_true_eq, Bool.not_eq_true, Int.toNat_zero, Int.reduceToNat, Int.toNat_natCast, Int.reduceLE, Int.reduceLT, oEq_int, oNe_int, ↓reduceIte, Nat.lt_irrefl,  ht]
    exact call_bad (m := u) kp.turn (M.sz_mono su (by decide)) hbad hg
  replace kp := kp.ext hS3
  clear hbad hS3 S2
  simp only [Body, gsNx, gsAsg, gsPar2, gsRet, gsRetN, gsDrop, gsIf, gsBrk, gsCt, gsAug, gsFld, gsNever, gsFor, gC, gV, gNil, gCons, gTup, gLst, gBin, gUn, gChain, gAndV, gOrV, gNotV, gIfE, gCall, gBlt, gMake, gMeth, gFld, gProp, gtV, gtT, truD, gtAnd, gtOr, gtNot, gtYes, oAdd, oSub, oMul, oMod, oFdiv, oFdivW, oPow, oLt, oLe, oGt, oGe, uNeg, oIs, oIsNot, ggNil, ggCons, ggTup, ggP, ggSub, oSetIx, runP, runPs, putG, giLst, giTup, giStr, giRng1, giRng2, gLc, wipeG, atG, oIx, goNone, goSome, gSlice, oSl, cutG, sIxG, cLen, cMax2, cMin2, cAbs, cStr, cBool, cInt, cTuple, cList, cIsi, isiB, isiO, tyD_obj, tyD_non, tyD_bl, tyD_int, tyD_str, tyD_tup, tyD_rol, tyO, oOwn, oOwnB, oOwnU, cOwn, isBlD, isStrD, isLenD, cBoolO, cStrO, cLenO, oInO, gCallO, itemsD, gJoin, oJoin, cRepr1, tbs, oks, okK_self, okK_n1, okK_n2, okK_n3, okK_n4, okK_n5, okK_n6, okK_n7, sp1, sp2, sp3, oAddI, withM_dM, withM_lit, withI_of, withX_of, withO_of, withT_at, withT_at0, withTL_some, st_set_new, st_set_new0, st_get_new, st_get_new0, List.append_assoc, Nat.add_assoc, st_new, st_new0, stS_new, stS_new0, gsRaise0, gsRaise1, gsTryT, gFldE, cIsiE, isiEx, gDict0, gBM, isTupD, mSplit, mStarts, mTxt0, oRep, oMulS, gSliceK, oSlK, gRepl, ggUnl, gLam, gAct, gMakeV, gCon, gCallO, giEnumS, oInF, flatD, eqF, List.map_cons, List.map_nil, List.replicate, List.length_cons, List.length_nil, List.length_append, List.length_set, List.cons_append, List.nil_append, List.getElem?_cons_zero, List.getElem?_cons_succ, List.set_cons_zero, List.set_cons_succ, List.lookup, List.all_cons, List.all_nil, List.mem_cons, List.not_mem_nil, or_false, Nat.reduceAdd, Nat.reduceSub, Nat.zero_add, Nat.add_zero, beq_self_eq_true, Bool.and_true, Bool.true_and, Bool.not_true, Bool.not_false, if_true, if_false, Bool.false_eq_true, decide_true, decide_false, and_true, true_and, Nat.reduceLeDiff, String.reduceEq, String.reduceNe, String.reduceBEq, String.reduceBNe, Int.reduceNeg, Int.reduceLT, Int.reduceLE, Int.reduceAdd, Int.reduceMul, Int.reduceMod, Int.reducePow, reduceIte, false_or, true_or, or_true, or_self, false_and, and_false, Bool.or_false, Bool.false_or, Bool.true_or, Bool.or_true, Bool.and_false, Bool.false_and, decide_eq_true_eq, Bool.not_eq_true, Int.toNat_zero, Int.reduceToNat, Int.toNat_natCast, Int.reduceLE, Int.reduceLT, oEq_int, oNe_int, ↓reduceIte, Nat.lt_irrefl,  oNe_strs]
  simp only [gsSeq]
  simp only [Body, gsNx, gsAsg, gsPar2, gsRet, gsRetN, gsDrop, gsIf, gsBrk, gsCt, gsAug, gsFld, gsNever, gsFor, gC, gV, gNil, gCons, gTup, gLst, gBin, gUn, gChain, gAndV, gOrV, gNotV, gIfE, gCall, gBlt, gMake, gMeth, gFld, gProp, gtV, gtT, truD, gtAnd, gtOr, gtNot, gtYes, oAdd, oSub, oMul, oMod, oFdiv, oFdivW, oPow, oLt, oLe, oGt, oGe, uNeg, oIs, oIsNot, ggNil, ggCons, ggTup, ggP, ggSub, oSetIx, runP, runPs, putG, giLst, giTup, giStr, giRng1, giRng2, gLc, wipeG, atG, oIx, goNone, goSome, gSlice, oSl, cutG, sIxG, cLen, cMax2, cMin2, cAbs, cStr, cBool, cInt, cTuple, cList, cIsi, isiB, isiO, tyD_obj, tyD_non, tyD_bl, tyD_int, tyD_str, tyD_tup, tyD_rol, tyO, oOwn, oOwnB, oOwnU, cOwn, isBlD, isStrD, isLenD, cBoolO, cStrO, cLenO, oInO, gCallO, itemsD, gJoin, oJoin, cRepr1, tbs, oks, okK_self, okK_n1, okK_n2, okK_n3, okK_n4, okK_n5, okK_n6, okK_n7, sp1, sp2, sp3, oAddI, withM_dM, withM_lit, withI_of, withX_of, withO_of, withT_at, withT_at0, withTL_some, st_set_new, st_set_new0, st_get_new, st_get_new0, List.append_assoc, Nat.add_assoc, st_new, st_new0, stS_new, stS_new0, gsRaise0, gsRaise1, gsTryT, gFldE, cIsiE, isiEx, gDict0, gBM, isTupD, mSplit, mStarts, mTxt0, oRep, oMulS, gSliceK, oSlK, gRepl, ggUnl, gLam, gAct, gMakeV, gCon, gCallO, giEnumS, oInF, flatD, eqF, List.map_cons, List.map_nil, List.replicate, List.length_cons, List.length_nil, List.length_append, List.length_set, List.cons_append, List.nil_append, List.getElem?_cons_zero, List.getElem?_cons_succ, List.set_cons_zero, List.set_cons_succ, List.lookup, List.all_cons, List.all_nil, List.mem_cons, List.not_mem_nil, or_false, Nat.reduceAdd, Nat.reduceSub, Nat.zero_add, Nat.add_zero, beq_self_eq_true, Bool.and_true, Bool.true_and, Bool.not_true, Bool.not_false, if_true, if_false, Bool.false_eq_true, decide_true, decide_false, and_true, true_and, Nat.reduceLeDiff, String.reduceEq, String.reduceNe, String.reduceBEq, String.reduceBNe, Int.reduceNeg, Int.reduceLT, Int.reduceLE, Int.reduceAdd, Int.reduceMul, Int.reduceMod, Int.reducePow, reduceIte, false_or, true_or, or_true, or_self, false_and, and_false, Bool.or_false, Bool.false_or, Bool.true_or, Bool.or_true, Bool.and_false, Bool.false_and, decide_eq_true_eq, Bool.not_eq_true, Int.toNat_zero, Int.reduceToNat, Int.toNat_natCast, Int.reduceLE, Int.reduceLT, oEq_int, oNe_int, ↓reduceIte, Nat.lt_irrefl,  e__law_next, withSrc_of (st_old (kp.src kl)), st_set_old (st_lt (kp.src kl))]
  refine ⟨by omega, by omega, fun v2 n2 g2 v20 v21 n20 n21 => ?_⟩
  replace kp := kp.next (o' := srcO cell n2 g2) kl
  obtain ⟨S4, hS4⟩ : ∃ S4, S4 = S3.set k (srcO cell n2 g2) := ⟨_, rfl⟩
  have tl4 : S3.length = S4.length := by rw [hS4, List.length_set]
  rw [← hS4] at kp
  rw [← hS4, tl4]
  have hw : ∃ d, (if 0 ≤ v2 then [D.non, D.str { cps := #[83, 83] }, D.str { cps := #[120] }, D.tup [], D.int 7, D.str { cps := #[114, 82] }, D.obj (List.length S4)][v2.toNat]? else if -((7 : Nat) : Int) ≤ v2 then [D.non, D.str { cps := #[83, 83] }, D.str { cps := #[120] }, D.tup [], D.int 7, D.str { cps := #[114, 82] }, D.obj (List.length S4)][(v2 + ((7 : Nat) : Int)).toNat]? else none) = some d ∧ ∀ B L : SS, B.length = S4.length → Wrong (B ++ (GO.lst [.str ⟨#[83]⟩] :: L)) d := by
    have : v2 = 0 ∨ v2 = 1 ∨ v2 = 2 ∨ v2 = 3 ∨ v2 = 4 ∨ v2 = 5 ∨ v2 = 6 := by omega
    rcases this with rfl | rfl | rfl | rfl | rfl | rfl | rfl
    · exact ⟨_, rfl, fun B L e => ⟨pvL_ok rfl, (fun x e => nomatch e), _, rfl⟩⟩
    · exact ⟨_, rfl, fun B L e => ⟨pvL_ok rfl, fun x e => by cases e; decide, _, rfl⟩⟩
    · exact ⟨_, rfl, fun B L e => ⟨pvL_ok rfl, fun x e => by cases e; decide, _, rfl⟩⟩
    · exact ⟨_, rfl, fun B L e => ⟨pvL_ok rfl, (fun x e => nomatch e), _, rfl⟩⟩
    · exact ⟨_, rfl, fun B L e => ⟨pvL_ok rfl, (fun x e => nomatch e), _, rfl⟩⟩
    · exact ⟨_, rfl, fun B L e => ⟨pvL_ok rfl, fun x e => by cases e; decide, _, rfl⟩⟩
    · exact ⟨_, rfl, fun B L e => ⟨obj_pv ⟨"list", by rw [← e, st_new0]; rfl, by simp [tyNames]⟩, (fun x e => nomatch e), _, rfl⟩⟩
  obtain ⟨wrong, ew, hw⟩ := hw
  rw [ew]
  simp only [gsSeq]
  simp only [Body, gsNx, gsAsg, gsPar2, gsRet, gsRetN, gsDrop, gsIf, gsBrk, gsCt, gsAug, gsFld, gsNever, gsFor, gC, gV, gNil, gCons, gTup, gLst, gBin, gUn, gChain, gAndV, gOrV, gNotV, gIfE, gCall, gBlt, gMake, gMeth, gFld, gProp, gtV, gtT, truD, gtAnd, gtOr, gtNot, gtYes, oAdd, oSub, oMul, oMod, oFdiv, oFdivW, oPow, oLt, oLe, oGt, oGe, uNeg, oIs, oIsNot, ggNil, ggCons, ggTup, ggP, ggSub, oSetIx, runP, runPs, putG, giLst, giTup, giStr, giRng1, giRng2, gLc, wipeG, atG, oIx, goNone, goSome, gSlice, oSl, cutG, sIxG, cLen, cMax2, cMin2, cAbs, cStr, cBool, cInt, cTuple, cList, cIsi, isiB, isiO, tyD_obj, tyD_non, tyD_bl, tyD_int, tyD_str, tyD_tup, tyD_rol, tyO, oOwn, oOwnB, oOwnU, cOwn, isBlD, isStrD, isLenD, cBoolO, cStrO, cLenO, oInO, gCallO, itemsD, gJoin, oJoin, cRepr1, tbs, oks, okK_self, okK_n1, okK_n2, okK_n3, okK_n4, okK_n5, okK_n6, okK_n7, sp1, sp2, sp3, oAddI, withM_dM, withM_lit, withI_of, withX_of, withO_of, withT_at, withT_at0, withTL_some, st_set_new, st_set_new0, st_get_new, st_get_new0, List.append_assoc, Nat.add_assoc, st_new, st_new0, stS_new, stS_new0, gsRaise0, gsRaise1, gsTryT, gFldE, cIsiE, isiEx, gDict0, gBM, isTupD, mSplit, mStarts, mTxt0, oRep, oMulS, gSliceK, oSlK, gRepl, ggUnl, gLam, gAct, gMakeV, gCon, gCallO, giEnumS, oInF, flatD, eqF, List.map_cons, List.map_nil, List.replicate, List.length_cons, List.length_nil, List.length_append, List.length_set, List.cons_append, List.nil_append, List.getElem?_cons_zero, List.getElem?_cons_succ, List.set_cons_zero, List.set_cons_succ, List.lookup, List.all_cons, List.all_nil, List.mem_cons, List.not_mem_nil, or_false, Nat.reduceAdd, Nat.reduceSub, Nat.zero_add, Nat.add_zero, beq_self_eq_true, Bool.and_true, Bool.true_and, Bool.not_true, Bool.not_false, if_true, if_false, Bool.false_eq_true, decide_true, decide_false, and_true, true_and, Nat.reduceLeDiff, String.reduceEq, String.reduceNe, String.reduceBEq, String.reduceBNe, Int.reduceNeg, Int.reduceLT, Int.reduceLE, Int.reduceAdd, Int.reduceMul, Int.reduceMod, Int.reducePow, reduceIte, false_or, true_or, or_true, or_self, false_and, and_false, Bool.or_false, Bool.false_or, Bool.true_or, Bool.or_true, Bool.and_false, Bool.false_and, decide_eq_true_eq, Bool.not_eq_true, Int.toNat_zero, Int.reduceToNat, Int.toNat_natCast, Int.reduceLE, Int.reduceLT, oEq_int, oNe_int, ↓reduceIte, Nat.lt_irrefl,  e__law_next, withSrc_of (st_old (kp.src kl)), st_set_old (st_lt (kp.src kl))]
  refine ⟨by decide, by omega, by omega, fun v3 n3 g3 v30 v31 n30 n31 => ?_⟩
  replace kp := kp.next (o' := srcO cell n3 g3) kl
  obtain ⟨S5, hS5⟩ : ∃ S5, S5 = S4.set k (srcO cell n3 g3) := ⟨_, rfl⟩
  have tl5 : S4.length = S5.length := by rw [hS5, List.length_set]
  rw [← hS5] at kp
  rw [← hS5, tl5]
  rw [tl5] at hw
  have hf : ∃ d p, (if 0 ≤ v3 then [D.non, D.bl true, D.int 201, D.int (-201), D.str { cps := #[49] }, D.tup [], D.int 1000000000000000000000000000000, D.obj (List.length S5 + 2)][v3.toNat]? else if -((8 : Nat) : Int) ≤ v3 then [D.non, D.bl true, D.int 201, D.int (-201), D.str { cps := #[49] }, D.tup [], D.int 1000000000000000000000000000000, D.obj (List.length S5 + 2)][(v3 + ((8 : Nat) : Int)).toNat]? else none) = some d ∧ ∀ L : SS, Far (S5 ++ (GO.lst [.str ⟨#[83]⟩] :: GO.lst [D.non, D.str { cps := #[83, 83] }, D.str { cps := #[120] }, D.tup [], D.int 7, D.str { cps := #[114, 82] }, D.obj (List.length S5)] :: GO.lst [.int 1] :: L)) d p := by
    have : v3 = 0 ∨ v3 = 1 ∨ v3 = 2 ∨ v3 = 3 ∨ v3 = 4 ∨ v3 = 5 ∨ v3 = 6 ∨ v3 = 7 := by omega
    have fl : ∀ (S : SS) (d : D) (p : PyData), pvL d = true → (∀ n : Int, d = .int n → n < -200 ∨ 200 < n) → (∀ S, toP S 8 d = some p) → showOk p → Far S d p := fun S d p h1 h2 h3 h4 => ⟨pvL_ok h1, h2, fun L => h3 _, h4⟩
    rcases this with rfl | rfl | rfl | rfl | rfl | rfl | rfl | rfl
    · exact ⟨_, _, rfl, fun L => fl _ _ _ rfl (fun n e => nomatch e) (fun S => rfl) (by unfold showOk; decide +kernel)⟩
    · exact ⟨_, _, rfl, fun L => fl _ _ _ rfl (fun n e => nomatch e) (fun S => rfl) (by unfold showOk; decide +kernel)⟩
    · exact ⟨_, _, rfl, fun L => fl _ _ _ rfl (fun n e => by cases e; decide) (fun S => rfl) (by unfold showOk; decide +kernel)⟩
    · exact ⟨_, _, rfl, fun L => fl _ _ _ rfl (fun n e => by cases e; decide) (fun S => rfl) (by unfold showOk; decide +kernel)⟩
    · exact ⟨_, _, rfl, fun L => fl _ _ _ rfl (fun n e => nomatch e) (fun S => rfl) (by unfold showOk; decide +kernel)⟩
    · exact ⟨_, _, rfl, fun L => fl _ _ _ rfl (fun n e => nomatch e) (fun S => rfl) (by unfold showOk; decide +kernel)⟩
    · exact ⟨_, _, rfl, fun L => fl _ _ _ rfl (fun n e => by cases e; decide) (fun S => rfl) (by unfold showOk; decide +kernel)⟩
    · refine ⟨_, PyData.list [.int 1], rfl, fun L => ⟨obj_pv ⟨"list", by rw [st_new]; rfl, by simp [tyNames]⟩, (fun n e => nomatch e), fun L' => ?_, by unfold showOk; decide +kernel⟩⟩
      rw [List.append_assoc]
      show (match (S5 ++ _)[S5.length + 2]? with
        | some (.lst ds) => (seqP (toP _ 7) ds).map PyData.list
        | _ => none) = _
      rw [st_new]; rfl
  obtain ⟨far, p, ef, hf⟩ := hf
  rw [ef]
  simp only [gsSeq]
  simp only [Body, gsNx, gsAsg, gsPar2, gsRet, gsRetN, gsDrop, gsIf, gsBrk, gsCt, gsAug, gsFld, gsNever, gsFor, gC, gV, gNil, gCons, gTup, gLst, gBin, gUn, gChain, gAndV, gOrV, gNotV, gIfE, gCall, gBlt, gMake, gMeth, gFld, gProp, gtV, gtT, truD, gtAnd, gtOr, gtNot, gtYes, oAdd, oSub, oMul, oMod, oFdiv, oFdivW, oPow, oLt, oLe, oGt, oGe, uNeg, oIs, oIsNot, ggNil, ggCons, ggTup, ggP, ggSub, oSetIx, runP, runPs, putG, giLst, giTup, giStr, giRng1, giRng2, gLc, wipeG, atG, oIx, goNone, goSome, gSlice, oSl, cutG, sIxG, cLen, cMax2, cMin2, cAbs, cStr, cBool, cInt, cTuple, cList, cIsi, isiB, isiO, tyD_obj, tyD_non, tyD_bl, tyD_int, tyD_str, tyD_tup, tyD_rol, tyO, oOwn, oOwnB, oOwnU, cOwn, isBlD, isStrD, isLenD, cBoolO, cStrO, cLenO, oInO, gCallO, itemsD, gJoin, oJoin, cRepr1, tbs, oks, okK_self, okK_n1, okK_n2, okK_n3, okK_n4, okK_n5, okK_n6, okK_n7, sp1, sp2, sp3, oAddI, withM_dM, withM_lit, withI_of, withX_of, withO_of, withT_at, withT_at0, withTL_some, st_set_new, st_set_new0, st_get_new, st_get_new0, List.append_assoc, Nat.add_assoc, st_new, st_new0, stS_new, stS_new0, gsRaise0, gsRaise1, gsTryT, gFldE, cIsiE, isiEx, gDict0, gBM, isTupD, mSplit, mStarts, mTxt0, oRep, oMulS, gSliceK, oSlK, gRepl, ggUnl, gLam, gAct, gMakeV, gCon, gCallO, giEnumS, oInF, flatD, eqF, List.map_cons, List.map_nil, List.replicate, List.length_cons, List.length_nil, List.length_append, List.length_set, List.cons_append, List.nil_append, List.getElem?_cons_zero, List.getElem?_cons_succ, List.set_cons_zero, List.set_cons_succ, List.lookup, List.all_cons, List.all_nil, List.mem_cons, List.not_mem_nil, or_false, Nat.reduceAdd, Nat.reduceSub, Nat.zero_add, Nat.add_zero, beq_self_eq_true, Bool.and_true, Bool.true_and, Bool.not_true, Bool.not_false, if_true, if_false, Bool.false_eq_true, decide_true, decide_false, and_true, true_and, Nat.reduceLeDiff, String.reduceEq, String.reduceNe, String.reduceBEq, String.reduceBNe, Int.reduceNeg, Int.reduceLT, Int.reduceLE, Int.reduceAdd, Int.reduceMul, Int.reduceMod, Int.reducePow, reduceIte, false_or, true_or, or_true, or_self, false_and, and_false, Bool.or_false, Bool.false_or, Bool.true_or, Bool.or_true, Bool.and_false, Bool.false_and, decide_eq_true_eq, Bool.not_eq_true, Int.toNat_zero, Int.reduceToNat, Int.toNat_natCast, Int.reduceLE, Int.reduceLT, oEq_int, oNe_int, ↓reduceIte, Nat.lt_irrefl,  oNe_strs]
  refine fun f => told_word hc (fun G Q' hg => word_bad (hw _ _ rfl) hg) fun S6 hS6 => ?_
  replace hf := far_mono (hf _) hS6
  replace kp := (kp.ext ⟨_, rfl⟩).ext hS6
  clear hS6 hw ef ew hS5 tl5 S5
  simp only [Body, gsNx, gsAsg, gsPar2, gsRet, gsRetN, gsDrop, gsIf, gsBrk, gsCt, gsAug, gsFld, gsNever, gsFor, gC, gV, gNil, gCons, gTup, gLst, gBin, gUn, gChain, gAndV, gOrV, gNotV, gIfE, gCall, gBlt, gMake, gMeth, gFld, gProp, gtV, gtT, truD, gtAnd, gtOr, gtNot, gtYes, oAdd, oSub, oMul, oMod, oFdiv, oFdivW, oPow, oLt, oLe, oGt, oGe, uNeg, oIs, oIsNot, ggNil, ggCons, ggTup, ggP, ggSub, oSetIx, runP, runPs, putG, giLst, giTup, giStr, giRng1, giRng2, gLc, wipeG, atG, oIx, goNone, goSome, gSlice, oSl, cutG, sIxG, cLen, cMax2, cMin2, cAbs, cStr, cBool, cInt, cTuple, cList, cIsi, isiB, isiO, tyD_obj, tyD_non, tyD_bl, tyD_int, tyD_str, tyD_tup, tyD_rol, tyO, oOwn, oOwnB, oOwnU, cOwn, isBlD, isStrD, isLenD, cBoolO, cStrO, cLenO, oInO, gCallO, itemsD, gJoin, oJoin, cRepr1, tbs, oks, okK_self, okK_n1, okK_n2, okK_n3, okK_n4, okK_n5, okK_n6, okK_n7, sp1, sp2, sp3, oAddI, withM_dM, withM_lit, withI_of, withX_of, withO_of, withT_at, withT_at0, withTL_some, st_set_new, st_set_new0, st_get_new, st_get_new0, List.append_assoc, Nat.add_assoc, st_new, st_new0, stS_new, stS_new0, gsRaise0, gsRaise1, gsTryT, gFldE, cIsiE, isiEx, gDict0, gBM, isTupD, mSplit, mStarts, mTxt0, oRep, oMulS, gSliceK, oSlK, gRepl, ggUnl, gLam, gAct, gMakeV, gCon, gCallO, giEnumS, oInF, flatD, eqF, List.map_cons, List.map_nil, List.replicate, List.length_cons, List.length_nil, List.length_append, List.length_set, List.cons_append, List.nil_append, List.getElem?_cons_zero, List.getElem?_cons_succ, List.set_cons_zero, List.set_cons_succ, List.lookup, List.all_cons, List.all_nil, List.mem_cons, List.not_mem_nil, or_false, Nat.reduceAdd, Nat.reduceSub, Nat.zero_add, Nat.add_zero, beq_self_eq_true, Bool.and_true, Bool.true_and, Bool.not_true, Bool.not_false, if_true, if_false, Bool.false_eq_true, decide_true, decide_false, and_true, true_and, Nat.reduceLeDiff, String.reduceEq, String.reduceNe, String.reduceBEq, String.reduceBNe, Int.reduceNeg, Int.reduceLT, Int.reduceLE, Int.reduceAdd, Int.reduceMul, Int.reduceMod, Int.reducePow, reduceIte, false_or, true_or, or_true, or_self, false_and, and_false, Bool.or_false, Bool.false_or, Bool.true_or, Bool.or_true, Bool.and_false, Bool.false_and, decide_eq_true_eq, Bool.not_eq_true, Int.toNat_zero, Int.reduceToNat, Int.toNat_natCast, Int.reduceLE, Int.reduceLT, oEq_int, oNe_int, ↓reduceIte, Nat.lt_irrefl,  oNe_strs]
  refine fun f => told_number hc (fun G Q' hg => ?_) hf.2.2.1 hf.2.2.2 fun S7 hS7 => ?_
  · have ht := kp.turn
    unfold oT at ht
    simp only [Body, gsNx, gsSeq, gsAsg, gsPar2, gsRet, gsRetN, gsDrop, gsIf, gsBrk, gsCt, gsAug, gsFld, gsNever, gsFor, gC, gV, gNil, gCons, gTup, gLst, gBin, gUn, gChain, gAndV, gOrV, gNotV, gIfE, gCall, gBlt, gMake, gMeth, gFld, gProp, gtV, gtT, truD, gtAnd, gtOr, gtNot, gtYes, oAdd, oSub, oMul, oMod, oFdiv, oFdivW, oPow, oLt, oLe, oGt, oGe, uNeg, oIs, oIsNot, ggNil, ggCons, ggTup, ggP, ggSub, oSetIx, runP, runPs, putG, giLst, giTup, giStr, giRng1, giRng2, gLc, wipeG, atG, oIx, goNone, goSome, gSlice, oSl, cutG, sIxG, cLen, cMax2, cMin2, cAbs, cStr, cBool, cInt, cTuple, cList, cIsi, isiB, isiO, tyD_obj, tyD_non, tyD_bl, tyD_int, tyD_str, tyD_tup, tyD_rol, tyO, oOwn, oOwnB, oOwnU, cOwn, isBlD, isStrD, isLenD, cBoolO, cStrO, cLenO, oInO, gCallO, itemsD, gJoin, oJoin, cRepr1, tbs, oks, okK_self, okK_n1, okK_n2, okK_n3, okK_n4, okK_n5, okK_n6, okK_n7, sp1, sp2, sp3, oAddI, withM_dM, withM_lit, withI_of, withX_of, withO_of, withT_at, withT_at0, withTL_some, st_set_new, st_set_new0, st_get_new, st_get_new0, List.append_assoc, Nat.add_assoc, st_new, st_new0, stS_new, stS_new0, gsRaise0, gsRaise1, gsTryT, gFldE, cIsiE, isiEx, gDict0, gBM, isTupD, mSplit, mStarts, mTxt0, oRep, oMulS, gSliceK, oSlK, gRepl, ggUnl, gLam, gAct, gMakeV, gCon, gCallO, giEnumS, oInF, flatD, eqF, List.map_cons, List.map_nil, List.replicate, List.length_cons, List.length_nil, List.length_append, List.length_set, List.cons_append, List.nil_append, List.getElem?_cons_zero, List.getElem?_cons_succ, List.set_cons_zero, List.set_cons_succ, List.lookup, List.all_cons, List.all_nil, List.mem_cons, List.not_mem_nil, or_false, Nat.reduceAdd, Nat.reduceSub, Nat.zero_add, Nat.add_zero, beq_self_eq_true, Bool.and_true, Bool.true_and, Bool.not_true, Bool.not_false, if_true, if_false, Bool.false_eq_true, decide_true, decide_false, and_true, true_and, Nat.reduceLeDiff, String.reduceEq, String.reduceNe, String.reduceBEq, String.reduceBNe, Int.reduceNeg, Int.reduceLT, Int.reduceLE, Int.reduceAdd, Int.reduceMul, Int.reduceMod, Int.reducePow, reduceIte, false_or, true_or, or_true, or_self, false_and, and_false, Bool.or_false, Bool.false_or, Bool.true_or, Bool.or_true, Bool.and_false, Bool.false_and, decide_eq_true_eq, Bool.not_eq_true, Int.toNat_zero, Int.reduceToNat, Int.toNat_natCast, Int.reduceLE, Int.reduceLT, oEq_int, oNe_int, ↓reduceIte, Nat.lt_irrefl,  ht, raised_held, HELD]
    exact raised_bad kp.turn hu hf hg
  replace hf := far_mono hf hS7
  replace kp := kp.ext hS7
  have ht := kp.turn
  unfold oT at ht
  simp only [Body, gsNx, gsAsg, gsPar2, gsRet, gsRetN, gsDrop, gsIf, gsBrk, gsCt, gsAug, gsFld, gsNever, gsFor, gC, gV, gNil, gCons, gTup, gLst, gBin, gUn, gChain, gAndV, gOrV, gNotV, gIfE, gCall, gBlt, gMake, gMeth, gFld, gProp, gtV, gtT, truD, gtAnd, gtOr, gtNot, gtYes, oAdd, oSub, oMul, oMod, oFdiv, oFdivW, oPow, oLt, oLe, oGt, oGe, uNeg, oIs, oIsNot, ggNil, ggCons, ggTup, ggP, ggSub, oSetIx, runP, runPs, putG, giLst, giTup, giStr, giRng1, giRng2, gLc, wipeG, atG, oIx, goNone, goSome, gSlice, oSl, cutG, sIxG, cLen, cMax2, cMin2, cAbs, cStr, cBool, cInt, cTuple, cList, cIsi, isiB, isiO, tyD_obj, tyD_non, tyD_bl, tyD_int, tyD_str, tyD_tup, tyD_rol, tyO, oOwn, oOwnB, oOwnU, cOwn, isBlD, isStrD, isLenD, cBoolO, cStrO, cLenO, oInO, gCallO, itemsD, gJoin, oJoin, cRepr1, tbs, oks, okK_self, okK_n1, okK_n2, okK_n3, okK_n4, okK_n5, okK_n6, okK_n7, sp1, sp2, sp3, oAddI, withM_dM, withM_lit, withI_of, withX_of, withO_of, withT_at, withT_at0, withTL_some, st_set_new, st_set_new0, st_get_new, st_get_new0, List.append_assoc, Nat.add_assoc, st_new, st_new0, stS_new, stS_new0, gsRaise0, gsRaise1, gsTryT, gFldE, cIsiE, isiEx, gDict0, gBM, isTupD, mSplit, mStarts, mTxt0, oRep, oMulS, gSliceK, oSlK, gRepl, ggUnl, gLam, gAct, gMakeV, gCon, gCallO, giEnumS, oInF, flatD, eqF, List.map_cons, List.map_nil, List.replicate, List.length_cons, List.length_nil, List.length_append, List.length_set, List.cons_append, List.nil_append, List.getElem?_cons_zero, List.getElem?_cons_succ, List.set_cons_zero, List.set_cons_succ, List.lookup, List.all_cons, List.all_nil, List.mem_cons, List.not_mem_nil, or_false, Nat.reduceAdd, Nat.reduceSub, Nat.zero_add, Nat.add_zero, beq_self_eq_true, Bool.and_true, Bool.true_and, Bool.not_true, Bool.not_false, if_true, if_false, Bool.false_eq_true, decide_true, decide_false, and_true, true_and, Nat.reduceLeDiff, String.reduceEq, String.reduceNe, String.reduceBEq, String.reduceBNe, Int.reduceNeg, Int.reduceLT, Int.reduceLE, Int.reduceAdd, Int.reduceMul, Int.reduceMod, Int.reducePow, reduceIte, false_or, true_or, or_true, or_self, false_and, and_false, Bool.or_false, Bool.false_or, Bool.true_or, Bool.or_true, Bool.and_false, Bool.false_and, decide_eq_true_eq, Bool.not_eq_true, Int.toNat_zero, Int.reduceToNat, Int.toNat_natCast, Int.reduceLE, Int.reduceLT, oEq_int, oNe_int, ↓reduceIte, Nat.lt_irrefl,  cRepr]
  refine ⟨p, by have := hf.2.2.1 []; rwa [List.append_nil] at this, hf.2.2.2.1, hf.2.2.2.2.1, hf.2.2.2.2.2.1, by have := hf.2.2.2.2.2.2; omega, ?_⟩
  refine ⟨by have := hf.2.2.2.2.2.2; show 7 + _ ≤ _; omega, ?_⟩
  rw [show NUM ++ p.shown = (⟨#[110, 117, 109, 98, 101, 114, 32]⟩ : Str) ++ p.shown from rfl, oEq_strs]
  simp only [Body, gsNx, gsAsg, gsPar2, gsRet, gsRetN, gsDrop, gsIf, gsBrk, gsCt, gsAug, gsFld, gsNever, gsFor, gC, gV, gNil, gCons, gTup, gLst, gBin, gUn, gChain, gAndV, gOrV, gNotV, gIfE, gCall, gBlt, gMake, gMeth, gFld, gProp, gtV, gtT, truD, gtAnd, gtOr, gtNot, gtYes, oAdd, oSub, oMul, oMod, oFdiv, oFdivW, oPow, oLt, oLe, oGt, oGe, uNeg, oIs, oIsNot, ggNil, ggCons, ggTup, ggP, ggSub, oSetIx, runP, runPs, putG, giLst, giTup, giStr, giRng1, giRng2, gLc, wipeG, atG, oIx, goNone, goSome, gSlice, oSl, cutG, sIxG, cLen, cMax2, cMin2, cAbs, cStr, cBool, cInt, cTuple, cList, cIsi, isiB, isiO, tyD_obj, tyD_non, tyD_bl, tyD_int, tyD_str, tyD_tup, tyD_rol, tyO, oOwn, oOwnB, oOwnU, cOwn, isBlD, isStrD, isLenD, cBoolO, cStrO, cLenO, oInO, gCallO, itemsD, gJoin, oJoin, cRepr1, tbs, oks, okK_self, okK_n1, okK_n2, okK_n3, okK_n4, okK_n5, okK_n6, okK_n7, sp1, sp2, sp3, oAddI, withM_dM, withM_lit, withI_of, withX_of, withO_of, withT_at, withT_at0, withTL_some, st_set_new, st_set_new0, st_get_new, st_get_new0, List.append_assoc, Nat.add_assoc, st_new, st_new0, stS_new, stS_new0, gsRaise0, gsRaise1, gsTryT, gFldE, cIsiE, isiEx, gDict0, gBM, isTupD, mSplit, mStarts, mTxt0, oRep, oMulS, gSliceK, oSlK, gRepl, ggUnl, gLam, gAct, gMakeV, gCon, gCallO, giEnumS, oInF, flatD, eqF, List.map_cons, List.map_nil, List.replicate, List.length_cons, List.length_nil, List.length_append, List.length_set, List.cons_append, List.nil_append, List.getElem?_cons_zero, List.getElem?_cons_succ, List.set_cons_zero, List.set_cons_succ, List.lookup, List.all_cons, List.all_nil, List.mem_cons, List.not_mem_nil, or_false, Nat.reduceAdd, Nat.reduceSub, Nat.zero_add, Nat.add_zero, beq_self_eq_true, Bool.and_true, Bool.true_and, Bool.not_true, Bool.not_false, if_true, if_false, Bool.false_eq_true, decide_true, decide_false, and_true, true_and, Nat.reduceLeDiff, String.reduceEq, String.reduceNe, String.reduceBEq, String.reduceBNe, Int.reduceNeg, Int.reduceLT, Int.reduceLE, Int.reduceAdd, Int.reduceMul, Int.reduceMod, Int.reducePow, reduceIte, false_or, true_or, or_true, or_self, false_and, and_false, Bool.or_false, Bool.false_or, Bool.true_or, Bool.or_true, Bool.and_false, Bool.false_and, decide_eq_true_eq, Bool.not_eq_true, Int.toNat_zero, Int.reduceToNat, Int.toNat_natCast, Int.reduceLE, Int.reduceLT, oEq_int, oNe_int, ↓reduceIte, Nat.lt_irrefl,  ht, e_Turn_rows, withT_of kp.turn, e__law_matrix]
  refine ⟨by decide, by decide +kernel, ?_⟩
  rw [eu2, oEq_M, decide_eq_true rfl]
  obtain ⟨L, rfl⟩ := kp
  exact cut_set rfl rfl (h n3 g3 n30 (by omega))
end Gh

namespace Gh
open PySem
theorem raised_t {c : CA} {S : SS} {k : Nat} {m m' : M} {n : Int} {Q : GQ} {X : GX} (h : S[k]? = some (oT c m)) (ho : m.ok) (hz : m.sz 4) (n0 : -200 ≤ n) (n1 : n ≤ 200) (e : (if 0 ≤ n then m.pw n.toNat else m.inv.pw (-n).toNat) = m') (q : Q (.obj S.length) (S ++ [oT c m'])) : sp_Turn_raised c [.obj k, .int n] S Q X := by
  rw [e_Turn_raised, withT_of h]
  exact ⟨⟨_, rfl, by simp [tyNames]⟩, ho, .inl ⟨n, rfl, n0, n1, .inl hz, by rw [e]; exact q⟩⟩
theorem mk_turnP {c : CA} {S : SS} {m : M} {P : SS → Prop} {X : GX} (hz : m.sz 3000) (ho : m.ok) (h : P (S ++ [oT c m])) : sp_Turn___init__ c [.obj S.length, dM m] (S ++ [.ins c.Turn []]) (fun d S2 => d = .non ∧ P S2) X :=
  mk_turn (Q := fun _ S2 => P S2) hz ho h
theorem vc_law (c : CA) (hc : ClsOk c) (ds : List D) (S : SS) (Q : GQ) (G : GX) (h : sp_law c ds S Q G) : Body (b_law c) N_law ds S Q G := by
  refine body1 h fun d h => ?_
  obtain ⟨ns, rfl, h⟩ := h
  unfold b_law N_law
  simp only [Body, gsSeq]
  simp only [Body, gsNx, gsAsg, gsPar2, gsRet, gsRetN, gsDrop, gsIf, gsBrk, gsCt, gsAug, gsFld, gsNever, gsFor, gC, gV, gNil, gCons, gTup, gLst, gBin, gUn, gChain, gAndV, gOrV, gNotV, gIfE, gCall, gBlt, gMake, gMeth, gFld, gProp, gtV, gtT, truD, gtAnd, gtOr, gtNot, gtYes, oAdd, oSub, oMul, oMod, oFdiv, oFdivW, oPow, oLt, oLe, oGt, oGe, uNeg, oIs, oIsNot, ggNil, ggCons, ggTup, ggP, ggSub, oSetIx, runP, runPs, putG, giLst, giTup, giStr, giRng1, giRng2, gLc, wipeG, atG, oIx, goNone, goSome, gSlice, oSl, cutG, sIxG, cLen, cMax2, cMin2, cAbs, cStr, cBool, cInt, cTuple, cList, cIsi, isiB, isiO, tyD_obj, tyD_non, tyD_bl, tyD_int, tyD_str, tyD_tup, tyD_rol, tyO, oOwn, oOwnB, oOwnU, cOwn, isBlD, isStrD, isLenD, cBoolO, cStrO, cLenO, oInO, gCallO, itemsD, gJoin, oJoin, cRepr1, tbs, oks, okK_self, okK_n1, okK_n2, okK_n3, okK_n4, okK_n5, okK_n6, okK_n7, sp1, sp2, sp3, oAddI, withM_dM, withM_lit, withI_of, withX_of, withO_of, withT_at, withT_at0, withTL_some, st_set_new, st_set_new0, st_get_new, st_get_new0, List.append_assoc, Nat.add_assoc, st_new, st_new0, stS_new, stS_new0, gsRaise0, gsRaise1, gsTryT, gFldE, cIsiE, isiEx, gDict0, gBM, isTupD, mSplit, mStarts, mTxt0, oRep, oMulS, gSliceK, oSlK, gRepl, ggUnl, gLam, gAct, gMakeV, gCon, gCallO, giEnumS, oInF, flatD, eqF, List.map_cons, List.map_nil, List.replicate, List.length_cons, List.length_nil, List.length_append, List.length_set, List.cons_append, List.nil_append, List.getElem?_cons_zero, List.getElem?_cons_succ, List.set_cons_zero, List.set_cons_succ, List.lookup, List.all_cons, List.all_nil, List.mem_cons, List.not_mem_nil, or_false, Nat.reduceAdd, Nat.reduceSub, Nat.zero_add, Nat.add_zero, beq_self_eq_true, Bool.and_true, Bool.true_and, Bool.not_true, Bool.not_false, if_true, if_false, Bool.false_eq_true, decide_true, decide_false, and_true, true_and, Nat.reduceLeDiff, String.reduceEq, String.reduceNe, String.reduceBEq, String.reduceBNe, Int.reduceNeg, Int.reduceLT, Int.reduceLE, Int.reduceAdd, Int.reduceMul, Int.reduceMod, Int.reducePow, reduceIte, false_or, true_or, or_true, or_self, false_and, and_false, Bool.or_false, Bool.false_or, Bool.true_or, Bool.or_true, Bool.and_false, Bool.false_and, decide_eq_true_eq, Bool.not_eq_true, Int.toNat_zero, Int.reduceToNat, Int.toNat_natCast, Int.reduceLE, Int.reduceLT, oEq_int, oNe_int, ↓reduceIte, Nat.lt_irrefl,  sp1]
  generalize ((List.map D.int ns).length : Int) = len
  have hm : ∃ m : Nat, m ≤ 1000 ∧ (if (if len < 3 then len else 3) > 1 then if len < 3 then len else 3 else 1) = (m : Int) := by
    refine ⟨(if (if len < 3 then len else 3) > 1 then if len < 3 then len else 3 else 1).toNat, ?_, ?_⟩ <;> split <;> (try split) <;> omega
  obtain ⟨m, m1, hm⟩ := hm
  rw [hm]
  refine ⟨by omega, forL_inv (fun i σ S' => ∃ a b e f, σ = [some (.rol (ns.map .int)), a, b, e, f]) ⟨_, _, _, _, rfl⟩ (fun i d σ S' N hd hI hN => ⟨trivial, ?_⟩) fun σ S' hI => ⟨trivial, ?_⟩⟩
  · obtain ⟨a, b, e, f, rfl⟩ := hI
    obtain ⟨rfl, hi⟩ := rngG_get hd
    simp only [gsSeq]
    simp only [Body, gsNx, gsAsg, gsPar2, gsRet, gsRetN, gsDrop, gsIf, gsBrk, gsCt, gsAug, gsFld, gsNever, gsFor, gC, gV, gNil, gCons, gTup, gLst, gBin, gUn, gChain, gAndV, gOrV, gNotV, gIfE, gCall, gBlt, gMake, gMeth, gFld, gProp, gtV, gtT, truD, gtAnd, gtOr, gtNot, gtYes, oAdd, oSub, oMul, oMod, oFdiv, oFdivW, oPow, oLt, oLe, oGt, oGe, uNeg, oIs, oIsNot, ggNil, ggCons, ggTup, ggP, ggSub, oSetIx, runP, runPs, putG, giLst, giTup, giStr, giRng1, giRng2, gLc, wipeG, atG, oIx, goNone, goSome, gSlice, oSl, cutG, sIxG, cLen, cMax2, cMin2, cAbs, cStr, cBool, cInt, cTuple, cList, cIsi, isiB, isiO, tyD_obj, tyD_non, tyD_bl, tyD_int, tyD_str, tyD_tup, tyD_rol, tyO, oOwn, oOwnB, oOwnU, cOwn, isBlD, isStrD, isLenD, cBoolO, cStrO, cLenO, oInO, gCallO, itemsD, gJoin, oJoin, cRepr1, tbs, oks, okK_self, okK_n1, okK_n2, okK_n3, okK_n4, okK_n5, okK_n6, okK_n7, sp1, sp2, sp3, oAddI, withM_dM, withM_lit, withI_of, withX_of, withO_of, withT_at, withT_at0, withTL_some, st_set_new, st_set_new0, st_get_new, st_get_new0, List.append_assoc, Nat.add_assoc, st_new, st_new0, stS_new, stS_new0, gsRaise0, gsRaise1, gsTryT, gFldE, cIsiE, isiEx, gDict0, gBM, isTupD, mSplit, mStarts, mTxt0, oRep, oMulS, gSliceK, oSlK, gRepl, ggUnl, gLam, gAct, gMakeV, gCon, gCallO, giEnumS, oInF, flatD, eqF, List.map_cons, List.map_nil, List.replicate, List.length_cons, List.length_nil, List.length_append, List.length_set, List.cons_append, List.nil_append, List.getElem?_cons_zero, List.getElem?_cons_succ, List.set_cons_zero, List.set_cons_succ, List.lookup, List.all_cons, List.all_nil, List.mem_cons, List.not_mem_nil, or_false, Nat.reduceAdd, Nat.reduceSub, Nat.zero_add, Nat.add_zero, beq_self_eq_true, Bool.and_true, Bool.true_and, Bool.not_true, Bool.not_false, if_true, if_false, Bool.false_eq_true, decide_true, decide_false, and_true, true_and, Nat.reduceLeDiff, String.reduceEq, String.reduceNe, String.reduceBEq, String.reduceBNe, Int.reduceNeg, Int.reduceLT, Int.reduceLE, Int.reduceAdd, Int.reduceMul, Int.reduceMod, Int.reducePow, reduceIte, false_or, true_or, or_true, or_self, false_and, and_false, Bool.or_false, Bool.false_or, Bool.true_or, Bool.or_true, Bool.and_false, Bool.false_and, decide_eq_true_eq, Bool.not_eq_true, Int.toNat_zero, Int.reduceToNat, Int.toNat_natCast, Int.reduceLE, Int.reduceLT, oEq_int, oNe_int, ↓reduceIte, Nat.lt_irrefl,  e__law_source]
    refine ⟨ns, _, rfl, rfl, by omega, by omega, fun cell g0 => ?_⟩
    refine forL_inv (fun j σ S2 => ∃ (n g0 : Int) (x y : Option D), 0 ≤ n ∧ n ≤ 3000 + 2000 * (j : Int) ∧ S2[S'.length + 1]? = some (srcO cell n g0) ∧ σ = [some (.rol (ns.map .int)), some (.int (0 + (i : Int))), some (.obj (S'.length + 1)), x, y]) ?_ (fun j d σ S2 N2 hd2 hI2 hN2 => ⟨trivial, ?_⟩) fun σ S2 hI2 => ⟨trivial, ?_⟩
    · exact ⟨3 * (0 + (i : Int)), g0, _, _, by omega, by omega, by rw [st_new]; rfl, rfl⟩
    · obtain ⟨n, g1, x, y, h0, h1, h2, rfl⟩ := hI2
      obtain ⟨rfl, hj⟩ := rngG_get hd2
      have hj : j < 4 := hj
      simp only [Body, gsNx, gsAsg, gsPar2, gsRet, gsRetN, gsDrop, gsIf, gsBrk, gsCt, gsAug, gsFld, gsNever, gsFor, gC, gV, gNil, gCons, gTup, gLst, gBin, gUn, gChain, gAndV, gOrV, gNotV, gIfE, gCall, gBlt, gMake, gMeth, gFld, gProp, gtV, gtT, truD, gtAnd, gtOr, gtNot, gtYes, oAdd, oSub, oMul, oMod, oFdiv, oFdivW, oPow, oLt, oLe, oGt, oGe, uNeg, oIs, oIsNot, ggNil, ggCons, ggTup, ggP, ggSub, oSetIx, runP, runPs, putG, giLst, giTup, giStr, giRng1, giRng2, gLc, wipeG, atG, oIx, goNone, goSome, gSlice, oSl, cutG, sIxG, cLen, cMax2, cMin2, cAbs, cStr, cBool, cInt, cTuple, cList, cIsi, isiB, isiO, tyD_obj, tyD_non, tyD_bl, tyD_int, tyD_str, tyD_tup, tyD_rol, tyO, oOwn, oOwnB, oOwnU, cOwn, isBlD, isStrD, isLenD, cBoolO, cStrO, cLenO, oInO, gCallO, itemsD, gJoin, oJoin, cRepr1, tbs, oks, okK_self, okK_n1, okK_n2, okK_n3, okK_n4, okK_n5, okK_n6, okK_n7, sp1, sp2, sp3, oAddI, withM_dM, withM_lit, withI_of, withX_of, withO_of, withT_at, withT_at0, withTL_some, st_set_new, st_set_new0, st_get_new, st_get_new0, List.append_assoc, Nat.add_assoc, st_new, st_new0, stS_new, stS_new0, gsRaise0, gsRaise1, gsTryT, gFldE, cIsiE, isiEx, gDict0, gBM, isTupD, mSplit, mStarts, mTxt0, oRep, oMulS, gSliceK, oSlK, gRepl, ggUnl, gLam, gAct, gMakeV, gCon, gCallO, giEnumS, oInF, flatD, eqF, List.map_cons, List.map_nil, List.replicate, List.length_cons, List.length_nil, List.length_append, List.length_set, List.cons_append, List.nil_append, List.getElem?_cons_zero, List.getElem?_cons_succ, List.set_cons_zero, List.set_cons_succ, List.lookup, List.all_cons, List.all_nil, List.mem_cons, List.not_mem_nil, or_false, Nat.reduceAdd, Nat.reduceSub, Nat.zero_add, Nat.add_zero, beq_self_eq_true, Bool.and_true, Bool.true_and, Bool.not_true, Bool.not_false, if_true, if_false, Bool.false_eq_true, decide_true, decide_false, and_true, true_and, Nat.reduceLeDiff, String.reduceEq, String.reduceNe, String.reduceBEq, String.reduceBNe, Int.reduceNeg, Int.reduceLT, Int.reduceLE, Int.reduceAdd, Int.reduceMul, Int.reduceMod, Int.reducePow, reduceIte, false_or, true_or, or_true, or_self, false_and, and_false, Bool.or_false, Bool.false_or, Bool.true_or, Bool.or_true, Bool.and_false, Bool.false_and, decide_eq_true_eq, Bool.not_eq_true, Int.toNat_zero, Int.reduceToNat, Int.toNat_natCast, Int.reduceLE, Int.reduceLT, oEq_int, oNe_int, ↓reduceIte, Nat.lt_irrefl,  e__law_calls_right, e__law_refusals_right, withSrc_of h2]
      refine ⟨h0, by omega, fun n' g' a0 a1 => ?_⟩
      rw [withSrc_of (stS_kk (st_lt h2))]
      refine ⟨a0, by omega, fun n2 g2 b0 b1 => ?_⟩
      rw [List.set_set]
      refine hN2 _ _ ⟨n2, g2, _, _, b0, ?_, stS_kk (st_lt h2), rfl⟩
      have : ((j + 1 : Nat) : Int) = j + 1 := by omega
      omega
    · obtain ⟨n, g1, x, y, h0, h1, h2, rfl⟩ := hI2
      exact hN _ _ ⟨_, _, _, _, rfl⟩
  · obtain ⟨a, b, e, f, rfl⟩ := hI
    have eT : D.tup [D.tup [D.int 1, D.int 1], D.tup [D.int 0, D.int 1]] = dM ⟨1, 1, 0, 1⟩ := rfl
    have oT1 : M.ok ⟨1, 1, 0, 1⟩ := ⟨by decide, by decide⟩
    have zT : M.sz 4 ⟨1, 1, 0, 1⟩ := ⟨by decide, by decide, by decide, by decide⟩
    simp only [gsSeq]
    simp only [Body, gsNx, gsAsg, gsPar2, gsRet, gsRetN, gsDrop, gsIf, gsBrk, gsCt, gsAug, gsFld, gsNever, gsFor, gC, gV, gNil, gCons, gTup, gLst, gBin, gUn, gChain, gAndV, gOrV, gNotV, gIfE, gCall, gBlt, gMake, gMeth, gFld, gProp, gtV, gtT, truD, gtAnd, gtOr, gtNot, gtYes, oAdd, oSub, oMul, oMod, oFdiv, oFdivW, oPow, oLt, oLe, oGt, oGe, uNeg, oIs, oIsNot, ggNil, ggCons, ggTup, ggP, ggSub, oSetIx, runP, runPs, putG, giLst, giTup, giStr, giRng1, giRng2, gLc, wipeG, atG, oIx, goNone, goSome, gSlice, oSl, cutG, sIxG, cLen, cMax2, cMin2, cAbs, cStr, cBool, cInt, cTuple, cList, cIsi, isiB, isiO, tyD_obj, tyD_non, tyD_bl, tyD_int, tyD_str, tyD_tup, tyD_rol, tyO, oOwn, oOwnB, oOwnU, cOwn, isBlD, isStrD, isLenD, cBoolO, cStrO, cLenO, oInO, gCallO, itemsD, gJoin, oJoin, cRepr1, tbs, oks, okK_self, okK_n1, okK_n2, okK_n3, okK_n4, okK_n5, okK_n6, okK_n7, sp1, sp2, sp3, oAddI, withM_dM, withM_lit, withI_of, withX_of, withO_of, withT_at, withT_at0, withTL_some, st_set_new, st_set_new0, st_get_new, st_get_new0, List.append_assoc, Nat.add_assoc, st_new, st_new0, stS_new, stS_new0, gsRaise0, gsRaise1, gsTryT, gFldE, cIsiE, isiEx, gDict0, gBM, isTupD, mSplit, mStarts, mTxt0, oRep, oMulS, gSliceK, oSlK, gRepl, ggUnl, gLam, gAct, gMakeV, gCon, gCallO, giEnumS, oInF, flatD, eqF, List.map_cons, List.map_nil, List.replicate, List.length_cons, List.length_nil, List.length_append, List.length_set, List.cons_append, List.nil_append, List.getElem?_cons_zero, List.getElem?_cons_succ, List.set_cons_zero, List.set_cons_succ, List.lookup, List.all_cons, List.all_nil, List.mem_cons, List.not_mem_nil, or_false, Nat.reduceAdd, Nat.reduceSub, Nat.zero_add, Nat.add_zero, beq_self_eq_true, Bool.and_true, Bool.true_and, Bool.not_true, Bool.not_false, if_true, if_false, Bool.false_eq_true, decide_true, decide_false, and_true, true_and, Nat.reduceLeDiff, String.reduceEq, String.reduceNe, String.reduceBEq, String.reduceBNe, Int.reduceNeg, Int.reduceLT, Int.reduceLE, Int.reduceAdd, Int.reduceMul, Int.reduceMod, Int.reducePow, reduceIte, false_or, true_or, or_true, or_self, false_and, and_false, Bool.or_false, Bool.false_or, Bool.true_or, Bool.or_true, Bool.and_false, Bool.false_and, decide_eq_true_eq, Bool.not_eq_true, Int.toNat_zero, Int.reduceToNat, Int.toNat_natCast, Int.reduceLE, Int.reduceLT, oEq_int, oNe_int, ↓reduceIte, Nat.lt_irrefl,  eT]
    refine mk_turnP (M.sz_mono zT (by decide)) oT1 ?_
    simp only [gsSeq]
    simp only [Body, gsNx, gsAsg, gsPar2, gsRet, gsRetN, gsDrop, gsIf, gsBrk, gsCt, gsAug, gsFld, gsNever, gsFor, gC, gV, gNil, gCons, gTup, gLst, gBin, gUn, gChain, gAndV, gOrV, gNotV, gIfE, gCall, gBlt, gMake, gMeth, gFld, gProp, gtV, gtT, truD, gtAnd, gtOr, gtNot, gtYes, oAdd, oSub, oMul, oMod, oFdiv, oFdivW, oPow, oLt, oLe, oGt, oGe, uNeg, oIs, oIsNot, ggNil, ggCons, ggTup, ggP, ggSub, oSetIx, runP, runPs, putG, giLst, giTup, giStr, giRng1, giRng2, gLc, wipeG, atG, oIx, goNone, goSome, gSlice, oSl, cutG, sIxG, cLen, cMax2, cMin2, cAbs, cStr, cBool, cInt, cTuple, cList, cIsi, isiB, isiO, tyD_obj, tyD_non, tyD_bl, tyD_int, tyD_str, tyD_tup, tyD_rol, tyO, oOwn, oOwnB, oOwnU, cOwn, isBlD, isStrD, isLenD, cBoolO, cStrO, cLenO, oInO, gCallO, itemsD, gJoin, oJoin, cRepr1, tbs, oks, okK_self, okK_n1, okK_n2, okK_n3, okK_n4, okK_n5, okK_n6, okK_n7, sp1, sp2, sp3, oAddI, withM_dM, withM_lit, withI_of, withX_of, withO_of, withT_at, withT_at0, withTL_some, st_set_new, st_set_new0, st_get_new, st_get_new0, List.append_assoc, Nat.add_assoc, st_new, st_new0, stS_new, stS_new0, gsRaise0, gsRaise1, gsTryT, gFldE, cIsiE, isiEx, gDict0, gBM, isTupD, mSplit, mStarts, mTxt0, oRep, oMulS, gSliceK, oSlK, gRepl, ggUnl, gLam, gAct, gMakeV, gCon, gCallO, giEnumS, oInF, flatD, eqF, List.map_cons, List.map_nil, List.replicate, List.length_cons, List.length_nil, List.length_append, List.length_set, List.cons_append, List.nil_append, List.getElem?_cons_zero, List.getElem?_cons_succ, List.set_cons_zero, List.set_cons_succ, List.lookup, List.all_cons, List.all_nil, List.mem_cons, List.not_mem_nil, or_false, Nat.reduceAdd, Nat.reduceSub, Nat.zero_add, Nat.add_zero, beq_self_eq_true, Bool.and_true, Bool.true_and, Bool.not_true, Bool.not_false, if_true, if_false, Bool.false_eq_true, decide_true, decide_false, and_true, true_and, Nat.reduceLeDiff, String.reduceEq, String.reduceNe, String.reduceBEq, String.reduceBNe, Int.reduceNeg, Int.reduceLT, Int.reduceLE, Int.reduceAdd, Int.reduceMul, Int.reduceMod, Int.reducePow, reduceIte, false_or, true_or, or_true, or_self, false_and, and_false, Bool.or_false, Bool.false_or, Bool.true_or, Bool.or_true, Bool.and_false, Bool.false_and, decide_eq_true_eq, Bool.not_eq_true, Int.toNat_zero, Int.reduceToNat, Int.toNat_natCast, Int.reduceLE, Int.reduceLT, oEq_int, oNe_int, ↓reduceIte, Nat.lt_irrefl,  oT, HELD, raised_held]
    refine raised_t (m := ⟨1, 1, 0, 1⟩) (m' := ⟨1, -200, 0, 1⟩) (by rw [st_new0]; rfl) oT1 zT (by decide) (by decide) (by decide +kernel) ?_
    simp only [Body, gsNx, gsAsg, gsPar2, gsRet, gsRetN, gsDrop, gsIf, gsBrk, gsCt, gsAug, gsFld, gsNever, gsFor, gC, gV, gNil, gCons, gTup, gLst, gBin, gUn, gChain, gAndV, gOrV, gNotV, gIfE, gCall, gBlt, gMake, gMeth, gFld, gProp, gtV, gtT, truD, gtAnd, gtOr, gtNot, gtYes, oAdd, oSub, oMul, oMod, oFdiv, oFdivW, oPow, oLt, oLe, oGt, oGe, uNeg, oIs, oIsNot, ggNil, ggCons, ggTup, ggP, ggSub, oSetIx, runP, runPs, putG, giLst, giTup, giStr, giRng1, giRng2, gLc, wipeG, atG, oIx, goNone, goSome, gSlice, oSl, cutG, sIxG, cLen, cMax2, cMin2, cAbs, cStr, cBool, cInt, cTuple, cList, cIsi, isiB, isiO, tyD_obj, tyD_non, tyD_bl, tyD_int, tyD_str, tyD_tup, tyD_rol, tyO, oOwn, oOwnB, oOwnU, cOwn, isBlD, isStrD, isLenD, cBoolO, cStrO, cLenO, oInO, gCallO, itemsD, gJoin, oJoin, cRepr1, tbs, oks, okK_self, okK_n1, okK_n2, okK_n3, okK_n4, okK_n5, okK_n6, okK_n7, sp1, sp2, sp3, oAddI, withM_dM, withM_lit, withI_of, withX_of, withO_of, withT_at, withT_at0, withTL_some, st_set_new, st_set_new0, st_get_new, st_get_new0, List.append_assoc, Nat.add_assoc, st_new, st_new0, stS_new, stS_new0, gsRaise0, gsRaise1, gsTryT, gFldE, cIsiE, isiEx, gDict0, gBM, isTupD, mSplit, mStarts, mTxt0, oRep, oMulS, gSliceK, oSlK, gRepl, ggUnl, gLam, gAct, gMakeV, gCon, gCallO, giEnumS, oInF, flatD, eqF, List.map_cons, List.map_nil, List.replicate, List.length_cons, List.length_nil, List.length_append, List.length_set, List.cons_append, List.nil_append, List.getElem?_cons_zero, List.getElem?_cons_succ, List.set_cons_zero, List.set_cons_succ, List.lookup, List.all_cons, List.all_nil, List.mem_cons, List.not_mem_nil, or_false, Nat.reduceAdd, Nat.reduceSub, Nat.zero_add, Nat.add_zero, beq_self_eq_true, Bool.and_true, Bool.true_and, Bool.not_true, Bool.not_false, if_true, if_false, Bool.false_eq_true, decide_true, decide_false, and_true, true_and, Nat.reduceLeDiff, String.reduceEq, String.reduceNe, String.reduceBEq, String.reduceBNe, Int.reduceNeg, Int.reduceLT, Int.reduceLE, Int.reduceAdd, Int.reduceMul, Int.reduceMod, Int.reducePow, reduceIte, false_or, true_or, or_true, or_self, false_and, and_false, Bool.or_false, Bool.false_or, Bool.true_or, Bool.or_true, Bool.and_false, Bool.false_and, decide_eq_true_eq, Bool.not_eq_true, Int.toNat_zero, Int.reduceToNat, Int.toNat_natCast, Int.reduceLE, Int.reduceLT, oEq_int, oNe_int, ↓reduceIte, Nat.lt_irrefl,  oT, HELD, raised_held, e_Turn_rows]
    refine raised_t (m := ⟨1, 1, 0, 1⟩) (m' := ⟨1, 200, 0, 1⟩) (by rw [st_new0]; rfl) oT1 zT (by decide) (by decide) (by decide +kernel) ?_
    simp only [Body, gsNx, gsAsg, gsPar2, gsRet, gsRetN, gsDrop, gsIf, gsBrk, gsCt, gsAug, gsFld, gsNever, gsFor, gC, gV, gNil, gCons, gTup, gLst, gBin, gUn, gChain, gAndV, gOrV, gNotV, gIfE, gCall, gBlt, gMake, gMeth, gFld, gProp, gtV, gtT, truD, gtAnd, gtOr, gtNot, gtYes, oAdd, oSub, oMul, oMod, oFdiv, oFdivW, oPow, oLt, oLe, oGt, oGe, uNeg, oIs, oIsNot, ggNil, ggCons, ggTup, ggP, ggSub, oSetIx, runP, runPs, putG, giLst, giTup, giStr, giRng1, giRng2, gLc, wipeG, atG, oIx, goNone, goSome, gSlice, oSl, cutG, sIxG, cLen, cMax2, cMin2, cAbs, cStr, cBool, cInt, cTuple, cList, cIsi, isiB, isiO, tyD_obj, tyD_non, tyD_bl, tyD_int, tyD_str, tyD_tup, tyD_rol, tyO, oOwn, oOwnB, oOwnU, cOwn, isBlD, isStrD, isLenD, cBoolO, cStrO, cLenO, oInO, gCallO, itemsD, gJoin, oJoin, cRepr1, tbs, oks, okK_self, okK_n1, okK_n2, okK_n3, okK_n4, okK_n5, okK_n6, okK_n7, sp1, sp2, sp3, oAddI, withM_dM, withM_lit, withI_of, withX_of, withO_of, withT_at, withT_at0, withTL_some, st_set_new, st_set_new0, st_get_new, st_get_new0, List.append_assoc, Nat.add_assoc, st_new, st_new0, stS_new, stS_new0, gsRaise0, gsRaise1, gsTryT, gFldE, cIsiE, isiEx, gDict0, gBM, isTupD, mSplit, mStarts, mTxt0, oRep, oMulS, gSliceK, oSlK, gRepl, ggUnl, gLam, gAct, gMakeV, gCon, gCallO, giEnumS, oInF, flatD, eqF, List.map_cons, List.map_nil, List.replicate, List.length_cons, List.length_nil, List.length_append, List.length_set, List.cons_append, List.nil_append, List.getElem?_cons_zero, List.getElem?_cons_succ, List.set_cons_zero, List.set_cons_succ, List.lookup, List.all_cons, List.all_nil, List.mem_cons, List.not_mem_nil, or_false, Nat.reduceAdd, Nat.reduceSub, Nat.zero_add, Nat.add_zero, beq_self_eq_true, Bool.and_true, Bool.true_and, Bool.not_true, Bool.not_false, if_true, if_false, Bool.false_eq_true, decide_true, decide_false, and_true, true_and, Nat.reduceLeDiff, String.reduceEq, String.reduceNe, String.reduceBEq, String.reduceBNe, Int.reduceNeg, Int.reduceLT, Int.reduceLE, Int.reduceAdd, Int.reduceMul, Int.reduceMod, Int.reducePow, reduceIte, false_or, true_or, or_true, or_self, false_and, and_false, Bool.or_false, Bool.false_or, Bool.true_or, Bool.or_true, Bool.and_false, Bool.false_and, decide_eq_true_eq, Bool.not_eq_true, Int.toNat_zero, Int.reduceToNat, Int.toNat_natCast, Int.reduceLE, Int.reduceLT, oEq_int, oNe_int, ↓reduceIte, Nat.lt_irrefl,  oT, HELD, raised_held, e_Turn_rows]
    refine oNe_lsts (ps := [pM ⟨1, -200, 0, 1⟩, pM ⟨1, 200, 0, 1⟩]) rfl rfl (seqP_cons toP_M (seqP_cons toP_M rfl)) rfl ?_
    simp only [gsSeq]
    simp only [Body, gsNx, gsAsg, gsPar2, gsRet, gsRetN, gsDrop, gsIf, gsBrk, gsCt, gsAug, gsFld, gsNever, gsFor, gC, gV, gNil, gCons, gTup, gLst, gBin, gUn, gChain, gAndV, gOrV, gNotV, gIfE, gCall, gBlt, gMake, gMeth, gFld, gProp, gtV, gtT, truD, gtAnd, gtOr, gtNot, gtYes, oAdd, oSub, oMul, oMod, oFdiv, oFdivW, oPow, oLt, oLe, oGt, oGe, uNeg, oIs, oIsNot, ggNil, ggCons, ggTup, ggP, ggSub, oSetIx, runP, runPs, putG, giLst, giTup, giStr, giRng1, giRng2, gLc, wipeG, atG, oIx, goNone, goSome, gSlice, oSl, cutG, sIxG, cLen, cMax2, cMin2, cAbs, cStr, cBool, cInt, cTuple, cList, cIsi, isiB, isiO, tyD_obj, tyD_non, tyD_bl, tyD_int, tyD_str, tyD_tup, tyD_rol, tyO, oOwn, oOwnB, oOwnU, cOwn, isBlD, isStrD, isLenD, cBoolO, cStrO, cLenO, oInO, gCallO, itemsD, gJoin, oJoin, cRepr1, tbs, oks, okK_self, okK_n1, okK_n2, okK_n3, okK_n4, okK_n5, okK_n6, okK_n7, sp1, sp2, sp3, oAddI, withM_dM, withM_lit, withI_of, withX_of, withO_of, withT_at, withT_at0, withTL_some, st_set_new, st_set_new0, st_get_new, st_get_new0, List.append_assoc, Nat.add_assoc, st_new, st_new0, stS_new, stS_new0, gsRaise0, gsRaise1, gsTryT, gFldE, cIsiE, isiEx, gDict0, gBM, isTupD, mSplit, mStarts, mTxt0, oRep, oMulS, gSliceK, oSlK, gRepl, ggUnl, gLam, gAct, gMakeV, gCon, gCallO, giEnumS, oInF, flatD, eqF, List.map_cons, List.map_nil, List.replicate, List.length_cons, List.length_nil, List.length_append, List.length_set, List.cons_append, List.nil_append, List.getElem?_cons_zero, List.getElem?_cons_succ, List.set_cons_zero, List.set_cons_succ, List.lookup, List.all_cons, List.all_nil, List.mem_cons, List.not_mem_nil, or_false, Nat.reduceAdd, Nat.reduceSub, Nat.zero_add, Nat.add_zero, beq_self_eq_true, Bool.and_true, Bool.true_and, Bool.not_true, Bool.not_false, if_true, if_false, Bool.false_eq_true, decide_true, decide_false, and_true, true_and, Nat.reduceLeDiff, String.reduceEq, String.reduceNe, String.reduceBEq, String.reduceBNe, Int.reduceNeg, Int.reduceLT, Int.reduceLE, Int.reduceAdd, Int.reduceMul, Int.reduceMod, Int.reducePow, reduceIte, false_or, true_or, or_true, or_self, false_and, and_false, Bool.or_false, Bool.false_or, Bool.true_or, Bool.or_true, Bool.and_false, Bool.false_and, decide_eq_true_eq, Bool.not_eq_true, Int.toNat_zero, Int.reduceToNat, Int.toNat_natCast, Int.reduceLE, Int.reduceLT, oEq_int, oNe_int, ↓reduceIte, Nat.lt_irrefl,  oT, HELD, raised_held, e_Turn_rows]
    have f12 : FrOk 1 2 := .inr ⟨by decide, by decide⟩
    refine call_good (m := ⟨1, 1, 0, 1⟩) (f := (1, 2)) (by rw [st_new0]; rfl) (M.sz_mono zT (by decide)) f12 ⟨by decide, by decide⟩ ?_
    have et : dFp (tk ⟨1, 1, 0, 1⟩ (1, 2)) = dF 3 2 := by rfl
    rw [et]
    refine oEq_F ?_
    exact cut_same (h _)
theorem law_good (c : CA) (ns : List Int) (h : ns.length ≤ 63) : sp_law c [.rol (ns.map .int)] [] (fun d _ => d = .bl true) (fun _ _ _ => False) := ⟨ns, rfl, fun _ => rfl⟩
end Gh

namespace Gh
open PySem PySem.Spec PyProof.Rows L2
def top (i : Nat) : Stmt := PySem.Challenge.pw_cuspfloor_k62_turns_called.main.body.getD i (.Pass ⟨0, 0, 0, 0⟩)
def inClass : Stmt → Nat → Stmt
  | .ClassDef _ _ _ body .., k => body.getD k (.Pass ⟨0, 0, 0, 0⟩)
  | st, _ => st
def ca (K : PySem.W.Frag) : CA where
  BadExpression := 0
  BadFloor := 0
  BadFraction := (He.ga K (Str.ofString "BadFraction"))
  BadMatrix := (He.ga K (Str.ofString "BadMatrix"))
  BadNumber := (He.ga K (Str.ofString "BadNumber"))
  BadPlace := 0
  BadRule := 0
  BadText := 0
  BadWord := (He.ga K (Str.ofString "BadWord"))
  Common := 0
  Conjugated := 0
  Group := 0
  LevelFull := 0
  LevelOne := 0
  LevelZero := 0
  LimitError := (He.ga K (Str.ofString "LimitError"))
  MatrixError := (He.ga K (Str.ofString "MatrixError"))
  NotMember := 0
  NothingToUndo := 0
  Rehearsal := 0
  Rule := 0
  TooLong := 0
  TooMany := 0
  Tracker := 0
  Turn := (He.ga K (Str.ofString "Turn"))
  WalkError := (He.ga K (Str.ofString "WalkError"))
  Walker := 0
  own := fun C => C == (He.ga K (Str.ofString "Turn"))
  isC := fun C D => none
def st_common_divisor : Stmt := (top 22)
def st_is_integer : Stmt := (top 12)
def st_is_pair : Stmt := (top 13)
def st_is_fraction : Stmt := (top 23)
def st_need_fraction : Stmt := (top 24)
def st_taken_to : Stmt := (top 25)
def st_Turn___call__ : Stmt := (inClass (top 34) 9)
def st_is_unit : Stmt := (top 14)
def st_normal_of : Stmt := (top 15)
def st_is_matrix : Stmt := (top 16)
def st_need_matrix : Stmt := (top 17)
def st_Turn___init__ : Stmt := (inClass (top 34) 1)
def st_inverse_of : Stmt := (top 19)
def st_times : Stmt := (top 18)
def st_power_of : Stmt := (top 20)
def st_Turn_raised : Stmt := (inClass (top 34) 10)
def st_Turn_rows : Stmt := (inClass (top 34) 3)
def st_Turn___invert__ : Stmt := (inClass (top 34) 5)
def st_Turn___mul__ : Stmt := (inClass (top 34) 4)
def st_matrix_of_letter : Stmt := (top 29)
def st_matrix_of_text : Stmt := (top 30)
def st_need_word : Stmt := (top 28)
def st_Turn_of_word : Stmt := (inClass (top 34) 2)
def st__law_signed : Stmt := (top 38)
def st__law_back : Stmt := (top 40)
def st__law_of : Stmt := (top 41)
def st__law_times : Stmt := (top 39)
def st__law_matrix : Stmt := (top 42)
def st__law_moved : Stmt := (top 45)
def st__law_next : Stmt := (top 37)
def st__law_repeated : Stmt := (top 44)
def st__law_text : Stmt := (top 43)
def st__law_calls_right : Stmt := (top 47)
def st__law_call_told : Stmt := (top 46)
def st__law_refusals_right : Stmt := (top 48)
def st__law_source : Stmt := (top 36)
def st_law : Stmt := (top 49)
def st_BadNumber___init__ : Stmt := (inClass (top 7) 0)
def st_BadWord___init__ : Stmt := (inClass (top 6) 0)
def tn : List (PySem.W.Frag → Addr) := [fun K => (He.ga K (Str.ofString "_law_refusals_right"))]
instance : TabsC := ⟨fun K => [((codeT K (He.ga K (Str.ofString "_law_refusals_right"))).2, (envOfC (Str.ofString "_law_refusals_right") (defScope st__law_refusals_right) 0 0 .none).qual ++ Str.ofString "<lambda>")]⟩
structure TF (K : PySem.W.Frag) (mg : Str → Option Value) (base : Heap) : Prop where
  g_BadFraction : mg (Str.ofString "BadFraction") = some (.ref (He.ga K (Str.ofString "BadFraction"))) ∧ PySem.W.keepIn K (.ref (He.ga K (Str.ofString "BadFraction"))) = true
  g_BadMatrix : mg (Str.ofString "BadMatrix") = some (.ref (He.ga K (Str.ofString "BadMatrix"))) ∧ PySem.W.keepIn K (.ref (He.ga K (Str.ofString "BadMatrix"))) = true
  g_BadNumber : mg (Str.ofString "BadNumber") = some (.ref (He.ga K (Str.ofString "BadNumber"))) ∧ PySem.W.keepIn K (.ref (He.ga K (Str.ofString "BadNumber"))) = true
  g_BadWord : mg (Str.ofString "BadWord") = some (.ref (He.ga K (Str.ofString "BadWord"))) ∧ PySem.W.keepIn K (.ref (He.ga K (Str.ofString "BadWord"))) = true
  g_LimitError : mg (Str.ofString "LimitError") = some (.ref (He.ga K (Str.ofString "LimitError"))) ∧ PySem.W.keepIn K (.ref (He.ga K (Str.ofString "LimitError"))) = true
  g_MatrixError : mg (Str.ofString "MatrixError") = some (.ref (He.ga K (Str.ofString "MatrixError"))) ∧ PySem.W.keepIn K (.ref (He.ga K (Str.ofString "MatrixError"))) = true
  g_Turn : mg (Str.ofString "Turn") = some (.ref (He.ga K (Str.ofString "Turn"))) ∧ PySem.W.keepIn K (.ref (He.ga K (Str.ofString "Turn"))) = true
  g_WalkError : mg (Str.ofString "WalkError") = some (.ref (He.ga K (Str.ofString "WalkError"))) ∧ PySem.W.keepIn K (.ref (He.ga K (Str.ofString "WalkError"))) = true
  g__law_back : mg (Str.ofString "_law_back") = some (.ref (He.ga K (Str.ofString "_law_back"))) ∧ PySem.W.keepIn K (.ref (He.ga K (Str.ofString "_law_back"))) = true
  g__law_call_told : mg (Str.ofString "_law_call_told") = some (.ref (He.ga K (Str.ofString "_law_call_told"))) ∧ PySem.W.keepIn K (.ref (He.ga K (Str.ofString "_law_call_told"))) = true
  g__law_calls_right : mg (Str.ofString "_law_calls_right") = some (.ref (He.ga K (Str.ofString "_law_calls_right"))) ∧ PySem.W.keepIn K (.ref (He.ga K (Str.ofString "_law_calls_right"))) = true
  g__law_matrix : mg (Str.ofString "_law_matrix") = some (.ref (He.ga K (Str.ofString "_law_matrix"))) ∧ PySem.W.keepIn K (.ref (He.ga K (Str.ofString "_law_matrix"))) = true
  g__law_moved : mg (Str.ofString "_law_moved") = some (.ref (He.ga K (Str.ofString "_law_moved"))) ∧ PySem.W.keepIn K (.ref (He.ga K (Str.ofString "_law_moved"))) = true
  g__law_next : mg (Str.ofString "_law_next") = some (.ref (He.ga K (Str.ofString "_law_next"))) ∧ PySem.W.keepIn K (.ref (He.ga K (Str.ofString "_law_next"))) = true
  g__law_of : mg (Str.ofString "_law_of") = some (.ref (He.ga K (Str.ofString "_law_of"))) ∧ PySem.W.keepIn K (.ref (He.ga K (Str.ofString "_law_of"))) = true
  g__law_refusals_right : mg (Str.ofString "_law_refusals_right") = some (.ref (He.ga K (Str.ofString "_law_refusals_right"))) ∧ PySem.W.keepIn K (.ref (He.ga K (Str.ofString "_law_refusals_right"))) = true
  g__law_repeated : mg (Str.ofString "_law_repeated") = some (.ref (He.ga K (Str.ofString "_law_repeated"))) ∧ PySem.W.keepIn K (.ref (He.ga K (Str.ofString "_law_repeated"))) = true
  g__law_signed : mg (Str.ofString "_law_signed") = some (.ref (He.ga K (Str.ofString "_law_signed"))) ∧ PySem.W.keepIn K (.ref (He.ga K (Str.ofString "_law_signed"))) = true
  g__law_source : mg (Str.ofString "_law_source") = some (.ref (He.ga K (Str.ofString "_law_source"))) ∧ PySem.W.keepIn K (.ref (He.ga K (Str.ofString "_law_source"))) = true
  g__law_text : mg (Str.ofString "_law_text") = some (.ref (He.ga K (Str.ofString "_law_text"))) ∧ PySem.W.keepIn K (.ref (He.ga K (Str.ofString "_law_text"))) = true
  g__law_times : mg (Str.ofString "_law_times") = some (.ref (He.ga K (Str.ofString "_law_times"))) ∧ PySem.W.keepIn K (.ref (He.ga K (Str.ofString "_law_times"))) = true
  g_common_divisor : mg (Str.ofString "common_divisor") = some (.ref (He.ga K (Str.ofString "common_divisor"))) ∧ PySem.W.keepIn K (.ref (He.ga K (Str.ofString "common_divisor"))) = true
  g_inverse_of : mg (Str.ofString "inverse_of") = some (.ref (He.ga K (Str.ofString "inverse_of"))) ∧ PySem.W.keepIn K (.ref (He.ga K (Str.ofString "inverse_of"))) = true
  g_is_fraction : mg (Str.ofString "is_fraction") = some (.ref (He.ga K (Str.ofString "is_fraction"))) ∧ PySem.W.keepIn K (.ref (He.ga K (Str.ofString "is_fraction"))) = true
  g_is_integer : mg (Str.ofString "is_integer") = some (.ref (He.ga K (Str.ofString "is_integer"))) ∧ PySem.W.keepIn K (.ref (He.ga K (Str.ofString "is_integer"))) = true
  g_is_matrix : mg (Str.ofString "is_matrix") = some (.ref (He.ga K (Str.ofString "is_matrix"))) ∧ PySem.W.keepIn K (.ref (He.ga K (Str.ofString "is_matrix"))) = true
  g_is_pair : mg (Str.ofString "is_pair") = some (.ref (He.ga K (Str.ofString "is_pair"))) ∧ PySem.W.keepIn K (.ref (He.ga K (Str.ofString "is_pair"))) = true
  g_is_unit : mg (Str.ofString "is_unit") = some (.ref (He.ga K (Str.ofString "is_unit"))) ∧ PySem.W.keepIn K (.ref (He.ga K (Str.ofString "is_unit"))) = true
  g_law : mg (Str.ofString "law") = some (.ref (He.ga K (Str.ofString "law"))) ∧ PySem.W.keepIn K (.ref (He.ga K (Str.ofString "law"))) = true
  g_matrix_of_letter : mg (Str.ofString "matrix_of_letter") = some (.ref (He.ga K (Str.ofString "matrix_of_letter"))) ∧ PySem.W.keepIn K (.ref (He.ga K (Str.ofString "matrix_of_letter"))) = true
  g_matrix_of_text : mg (Str.ofString "matrix_of_text") = some (.ref (He.ga K (Str.ofString "matrix_of_text"))) ∧ PySem.W.keepIn K (.ref (He.ga K (Str.ofString "matrix_of_text"))) = true
  g_need_fraction : mg (Str.ofString "need_fraction") = some (.ref (He.ga K (Str.ofString "need_fraction"))) ∧ PySem.W.keepIn K (.ref (He.ga K (Str.ofString "need_fraction"))) = true
  g_need_matrix : mg (Str.ofString "need_matrix") = some (.ref (He.ga K (Str.ofString "need_matrix"))) ∧ PySem.W.keepIn K (.ref (He.ga K (Str.ofString "need_matrix"))) = true
  g_need_word : mg (Str.ofString "need_word") = some (.ref (He.ga K (Str.ofString "need_word"))) ∧ PySem.W.keepIn K (.ref (He.ga K (Str.ofString "need_word"))) = true
  g_normal_of : mg (Str.ofString "normal_of") = some (.ref (He.ga K (Str.ofString "normal_of"))) ∧ PySem.W.keepIn K (.ref (He.ga K (Str.ofString "normal_of"))) = true
  g_power_of : mg (Str.ofString "power_of") = some (.ref (He.ga K (Str.ofString "power_of"))) ∧ PySem.W.keepIn K (.ref (He.ga K (Str.ofString "power_of"))) = true
  g_taken_to : mg (Str.ofString "taken_to") = some (.ref (He.ga K (Str.ofString "taken_to"))) ∧ PySem.W.keepIn K (.ref (He.ga K (Str.ofString "taken_to"))) = true
  g_times : mg (Str.ofString "times") = some (.ref (He.ga K (Str.ofString "times"))) ∧ PySem.W.keepIn K (.ref (He.ga K (Str.ofString "times"))) = true
  n_abs : mg (Str.ofString "abs") = none
  n_bool : mg (Str.ofString "bool") = none
  n_enumerate : mg (Str.ofString "enumerate") = none
  n_int : mg (Str.ofString "int") = none
  n_isinstance : mg (Str.ofString "isinstance") = none
  n_len : mg (Str.ofString "len") = none
  n_max : mg (Str.ofString "max") = none
  n_min : mg (Str.ofString "min") = none
  n_range : mg (Str.ofString "range") = none
  n_repr : mg (Str.ofString "repr") = none
  n_str : mg (Str.ofString "str") = none
  n_tuple : mg (Str.ofString "tuple") = none
  v_IDENTITY : ∃ u, mg (Str.ofString "IDENTITY") = some u ∧ KD K (.tup [(.tup [(.int 1), (.int 0)]), (.tup [(.int 0), (.int 1)])]) u
  v_MAX_WORD : ∃ u, mg (Str.ofString "MAX_WORD") = some u ∧ KD K (.int 2000) u
  v_R : ∃ u, mg (Str.ofString "R") = some u ∧ KD K (.tup [(.tup [(.int 0), (.int (-1))]), (.tup [(.int 1), (.int 1)])]) u
  v_S : ∃ u, mg (Str.ofString "S") = some u ∧ KD K (.tup [(.tup [(.int 0), (.int (-1))]), (.tup [(.int 1), (.int 0)])]) u
  o_Turn : OwnC K (He.ga K (Str.ofString "Turn"))
  fn_held_Turn : NoAttr K (He.ga K (Str.ofString "Turn")) (Str.ofString "held")
  mk_Turn : Mk K (He.ga K (Str.ofString "Turn")) (He.ma K (He.ga K (Str.ofString "Turn")) (Str.ofString "__init__"))
  kt_bool_Turn : PySem.W.kitOne K (.ref (He.ga K (Str.ofString "Turn"))) (.type "bool") = some false
  kt_int_Turn : PySem.W.kitOne K (.ref (He.ga K (Str.ofString "Turn"))) (.type "int") = some false
  kt_str_Turn : PySem.W.kitOne K (.ref (He.ga K (Str.ofString "Turn"))) (.type "str") = some false
  kt_tuple_Turn : PySem.W.kitOne K (.ref (He.ga K (Str.ofString "Turn"))) (.type "tuple") = some false
  m_Turn___call__ : Meth K (He.ga K (Str.ofString "Turn")) (Str.ofString "__call__") (He.ma K (He.ga K (Str.ofString "Turn")) (Str.ofString "__call__"))
  m_Turn___invert__ : Meth K (He.ga K (Str.ofString "Turn")) (Str.ofString "__invert__") (He.ma K (He.ga K (Str.ofString "Turn")) (Str.ofString "__invert__"))
  m_Turn___mul__ : Meth K (He.ga K (Str.ofString "Turn")) (Str.ofString "__mul__") (He.ma K (He.ga K (Str.ofString "Turn")) (Str.ofString "__mul__"))
  m_Turn_raised : Meth K (He.ga K (Str.ofString "Turn")) (Str.ofString "raised") (He.ma K (He.ga K (Str.ofString "Turn")) (Str.ofString "raised"))
  sf_Turn : PySem.W.selfFirst K (He.ga K (Str.ofString "Turn")) = true
  p_rows_Turn : PropOf K (He.ga K (Str.ofString "Turn")) (Str.ofString "rows") (He.ma K (He.ga K (Str.ofString "Turn")) (Str.ofString "rows")) (getr K (Str.ofString "Turn") (Str.ofString "rows"))
  x0_BadFraction : Ex0 K (He.ga K (Str.ofString "BadFraction"))
  x0_BadMatrix : Ex0 K (He.ga K (Str.ofString "BadMatrix"))
  ox_BadNumber : OexC K (He.ga K (Str.ofString "BadNumber"))
  no_BadNumber_value : NoAttr K (He.ga K (Str.ofString "BadNumber")) (Str.ofString "value")
  it_BadNumber : PySem.W.findIn K (.ref (He.ga K (Str.ofString "BadNumber"))) "__init__" = some (some (.ref (He.ma K (He.ga K (Str.ofString "BadNumber")) "__init__"))) ∧ PySem.W.typeIn K (.ref (He.ma K (He.ga K (Str.ofString "BadNumber")) "__init__")) = some (.type "function")
  ox_BadWord : OexC K (He.ga K (Str.ofString "BadWord"))
  no_BadWord_index : NoAttr K (He.ga K (Str.ofString "BadWord")) (Str.ofString "index")
  it_BadWord : PySem.W.findIn K (.ref (He.ga K (Str.ofString "BadWord"))) "__init__" = some (some (.ref (He.ma K (He.ga K (Str.ofString "BadWord")) "__init__"))) ∧ PySem.W.typeIn K (.ref (He.ma K (He.ga K (Str.ofString "BadWord")) "__init__")) = some (.type "function")
  fx_value_BadNumber : NoAttr K (He.ga K (Str.ofString "BadNumber")) (Str.ofString "value")
  kx_BadFraction_BadMatrix : PySem.W.kitOne K (.ref (He.ga K (Str.ofString "BadMatrix"))) (.ref (He.ga K (Str.ofString "BadFraction"))) = some false
  kx_BadFraction_BadFraction : PySem.W.kitOne K (.ref (He.ga K (Str.ofString "BadFraction"))) (.ref (He.ga K (Str.ofString "BadFraction"))) = some true
  kx_BadFraction_BadWord : PySem.W.kitOne K (.ref (He.ga K (Str.ofString "BadWord"))) (.ref (He.ga K (Str.ofString "BadFraction"))) = some false
  kx_BadFraction_BadNumber : PySem.W.kitOne K (.ref (He.ga K (Str.ofString "BadNumber"))) (.ref (He.ga K (Str.ofString "BadFraction"))) = some false
  kx_BadMatrix_BadMatrix : PySem.W.kitOne K (.ref (He.ga K (Str.ofString "BadMatrix"))) (.ref (He.ga K (Str.ofString "BadMatrix"))) = some true
  kx_BadMatrix_BadFraction : PySem.W.kitOne K (.ref (He.ga K (Str.ofString "BadFraction"))) (.ref (He.ga K (Str.ofString "BadMatrix"))) = some false
  kx_BadMatrix_BadWord : PySem.W.kitOne K (.ref (He.ga K (Str.ofString "BadWord"))) (.ref (He.ga K (Str.ofString "BadMatrix"))) = some false
  kx_BadMatrix_BadNumber : PySem.W.kitOne K (.ref (He.ga K (Str.ofString "BadNumber"))) (.ref (He.ga K (Str.ofString "BadMatrix"))) = some false
  kx_BadNumber_BadMatrix : PySem.W.kitOne K (.ref (He.ga K (Str.ofString "BadMatrix"))) (.ref (He.ga K (Str.ofString "BadNumber"))) = some false
  kx_BadNumber_BadFraction : PySem.W.kitOne K (.ref (He.ga K (Str.ofString "BadFraction"))) (.ref (He.ga K (Str.ofString "BadNumber"))) = some false
  kx_BadNumber_BadWord : PySem.W.kitOne K (.ref (He.ga K (Str.ofString "BadWord"))) (.ref (He.ga K (Str.ofString "BadNumber"))) = some false
  kx_BadNumber_BadNumber : PySem.W.kitOne K (.ref (He.ga K (Str.ofString "BadNumber"))) (.ref (He.ga K (Str.ofString "BadNumber"))) = some true
  kx_BadWord_BadMatrix : PySem.W.kitOne K (.ref (He.ga K (Str.ofString "BadMatrix"))) (.ref (He.ga K (Str.ofString "BadWord"))) = some false
  kx_BadWord_BadFraction : PySem.W.kitOne K (.ref (He.ga K (Str.ofString "BadFraction"))) (.ref (He.ga K (Str.ofString "BadWord"))) = some false
  kx_BadWord_BadWord : PySem.W.kitOne K (.ref (He.ga K (Str.ofString "BadWord"))) (.ref (He.ga K (Str.ofString "BadWord"))) = some true
  kx_BadWord_BadNumber : PySem.W.kitOne K (.ref (He.ga K (Str.ofString "BadNumber"))) (.ref (He.ga K (Str.ofString "BadWord"))) = some false
  cr_Turn : ClX.CRead K (He.ga K (Str.ofString "Turn")) (.type "type")
  cm_Turn_of_word : ClX.CMet K (He.ga K (Str.ofString "Turn")) (.type "type") (Str.ofString "of_word") (He.ma K (He.ga K (Str.ofString "Turn")) (Str.ofString "of_word")) (cmG K (Str.ofString "Turn") (Str.ofString "of_word"))
  cv_Turn_MOST_EXPONENT : ∃ v u, ClX.CVal K (He.ga K (Str.ofString "Turn")) (.type "type") (Str.ofString "MOST_EXPONENT") v u ∧ ∀ η H, VR K η H (.int 200) v
  cn_Turn_MOST_EXPONENT : ∃ v u, Con K (He.ga K (Str.ofString "Turn")) (Str.ofString "MOST_EXPONENT") v u ∧ ∀ η H, VR K η H (.int 200) v
  cf_Turn : PySem.W.fnIn K (He.ma K (He.ga K (Str.ofString "Turn")) "__call__") = true
  xi_BadFraction : ExI K (He.ga K (Str.ofString "BadFraction"))
  xi_BadMatrix : ExI K (He.ga K (Str.ofString "BadMatrix"))
  xi_BadNumber : ExI K (He.ga K (Str.ofString "BadNumber"))
  xi_BadWord : ExI K (He.ga K (Str.ofString "BadWord"))
  xm_MatrixError_LimitError_WalkError_BadMatrix : PySem.W.exmAny K (.ref (He.ga K (Str.ofString "BadMatrix"))) [.ref (He.ga K (Str.ofString "MatrixError")), .ref (He.ga K (Str.ofString "LimitError")), .ref (He.ga K (Str.ofString "WalkError"))] = some true
  xm_MatrixError_LimitError_WalkError_BadFraction : PySem.W.exmAny K (.ref (He.ga K (Str.ofString "BadFraction"))) [.ref (He.ga K (Str.ofString "MatrixError")), .ref (He.ga K (Str.ofString "LimitError")), .ref (He.ga K (Str.ofString "WalkError"))] = some true
  xm_MatrixError_LimitError_WalkError_BadWord : PySem.W.exmAny K (.ref (He.ga K (Str.ofString "BadWord"))) [.ref (He.ga K (Str.ofString "MatrixError")), .ref (He.ga K (Str.ofString "LimitError")), .ref (He.ga K (Str.ofString "WalkError"))] = some true
  xm_MatrixError_LimitError_WalkError_BadNumber : PySem.W.exmAny K (.ref (He.ga K (Str.ofString "BadNumber"))) [.ref (He.ga K (Str.ofString "MatrixError")), .ref (He.ga K (Str.ofString "LimitError")), .ref (He.ga K (Str.ofString "WalkError"))] = some true
  ndX : [(He.ga K (Str.ofString "BadMatrix")), (He.ga K (Str.ofString "BadFraction")), (He.ga K (Str.ofString "BadWord")), (He.ga K (Str.ofString "BadNumber"))].Nodup
  ndT : ((TabsC.tt K).map (·.1)).Nodup
  hd__law_refusals_right : PySem.W.codeHdIn K (codeT K (He.ga K (Str.ofString "_law_refusals_right"))).1 (codeT K (He.ga K (Str.ofString "_law_refusals_right"))).2 = true
  tb__law_refusals_right : LamX.TabB base mg (codeT K (He.ga K (Str.ofString "_law_refusals_right"))).1 (codeT K (He.ga K (Str.ofString "_law_refusals_right"))).2
  d_common_divisor : ∃ fd, FunD K (Str.ofString "common_divisor") (Str.ofString "common_divisor") (defArgs st_common_divisor) (defBody st_common_divisor) (defScope st_common_divisor) [] [] (He.ga K (Str.ofString "common_divisor")) fd
  d_is_integer : ∃ fd, FunD K (Str.ofString "is_integer") (Str.ofString "is_integer") (defArgs st_is_integer) (defBody st_is_integer) (defScope st_is_integer) [] [] (He.ga K (Str.ofString "is_integer")) fd
  d_is_pair : ∃ fd, FunD K (Str.ofString "is_pair") (Str.ofString "is_pair") (defArgs st_is_pair) (defBody st_is_pair) (defScope st_is_pair) [] [] (He.ga K (Str.ofString "is_pair")) fd
  d_is_fraction : ∃ fd, FunD K (Str.ofString "is_fraction") (Str.ofString "is_fraction") (defArgs st_is_fraction) (defBody st_is_fraction) (defScope st_is_fraction) [] [] (He.ga K (Str.ofString "is_fraction")) fd
  d_need_fraction : ∃ fd, FunD K (Str.ofString "need_fraction") (Str.ofString "need_fraction") (defArgs st_need_fraction) (defBody st_need_fraction) (defScope st_need_fraction) [] [] (He.ga K (Str.ofString "need_fraction")) fd
  d_taken_to : ∃ fd, FunD K (Str.ofString "taken_to") (Str.ofString "taken_to") (defArgs st_taken_to) (defBody st_taken_to) (defScope st_taken_to) [] [] (He.ga K (Str.ofString "taken_to")) fd
  d_Turn___call__ : ∃ fd, FunD K (Str.ofString "__call__") (Str.ofString "Turn.__call__") (defArgs st_Turn___call__) (defBody st_Turn___call__) (defScope st_Turn___call__) [] [] (He.ma K (He.ga K (Str.ofString "Turn")) (Str.ofString "__call__")) fd
  d_is_unit : ∃ fd, FunD K (Str.ofString "is_unit") (Str.ofString "is_unit") (defArgs st_is_unit) (defBody st_is_unit) (defScope st_is_unit) [] [] (He.ga K (Str.ofString "is_unit")) fd
  d_normal_of : ∃ fd, FunD K (Str.ofString "normal_of") (Str.ofString "normal_of") (defArgs st_normal_of) (defBody st_normal_of) (defScope st_normal_of) [] [] (He.ga K (Str.ofString "normal_of")) fd
  d_is_matrix : ∃ fd, FunD K (Str.ofString "is_matrix") (Str.ofString "is_matrix") (defArgs st_is_matrix) (defBody st_is_matrix) (defScope st_is_matrix) [] [] (He.ga K (Str.ofString "is_matrix")) fd
  d_need_matrix : ∃ fd, FunD K (Str.ofString "need_matrix") (Str.ofString "need_matrix") (defArgs st_need_matrix) (defBody st_need_matrix) (defScope st_need_matrix) [] [] (He.ga K (Str.ofString "need_matrix")) fd
  d_Turn___init__ : ∃ fd, FunD K (Str.ofString "__init__") (Str.ofString "Turn.__init__") (defArgs st_Turn___init__) (defBody st_Turn___init__) (defScope st_Turn___init__) [] [] (He.ma K (He.ga K (Str.ofString "Turn")) (Str.ofString "__init__")) fd
  d_inverse_of : ∃ fd, FunD K (Str.ofString "inverse_of") (Str.ofString "inverse_of") (defArgs st_inverse_of) (defBody st_inverse_of) (defScope st_inverse_of) [] [] (He.ga K (Str.ofString "inverse_of")) fd
  d_times : ∃ fd, FunD K (Str.ofString "times") (Str.ofString "times") (defArgs st_times) (defBody st_times) (defScope st_times) [] [] (He.ga K (Str.ofString "times")) fd
  d_power_of : ∃ fd, FunD K (Str.ofString "power_of") (Str.ofString "power_of") (defArgs st_power_of) (defBody st_power_of) (defScope st_power_of) [] [] (He.ga K (Str.ofString "power_of")) fd
  d_Turn_raised : ∃ fd, FunD K (Str.ofString "raised") (Str.ofString "Turn.raised") (defArgs st_Turn_raised) (defBody st_Turn_raised) (defScope st_Turn_raised) [] [] (He.ma K (He.ga K (Str.ofString "Turn")) (Str.ofString "raised")) fd
  d_Turn_rows : ∃ fd, FunD K (Str.ofString "rows") (Str.ofString "Turn.rows") (defArgs st_Turn_rows) (defBody st_Turn_rows) (defScope st_Turn_rows) [] [] (getr K (Str.ofString "Turn") (Str.ofString "rows")) fd
  d_Turn___invert__ : ∃ fd, FunD K (Str.ofString "__invert__") (Str.ofString "Turn.__invert__") (defArgs st_Turn___invert__) (defBody st_Turn___invert__) (defScope st_Turn___invert__) [] [] (He.ma K (He.ga K (Str.ofString "Turn")) (Str.ofString "__invert__")) fd
  d_Turn___mul__ : ∃ fd, FunD K (Str.ofString "__mul__") (Str.ofString "Turn.__mul__") (defArgs st_Turn___mul__) (defBody st_Turn___mul__) (defScope st_Turn___mul__) [] [] (He.ma K (He.ga K (Str.ofString "Turn")) (Str.ofString "__mul__")) fd
  d_matrix_of_letter : ∃ fd, FunD K (Str.ofString "matrix_of_letter") (Str.ofString "matrix_of_letter") (defArgs st_matrix_of_letter) (defBody st_matrix_of_letter) (defScope st_matrix_of_letter) [] [] (He.ga K (Str.ofString "matrix_of_letter")) fd
  d_matrix_of_text : ∃ fd, FunD K (Str.ofString "matrix_of_text") (Str.ofString "matrix_of_text") (defArgs st_matrix_of_text) (defBody st_matrix_of_text) (defScope st_matrix_of_text) [] [] (He.ga K (Str.ofString "matrix_of_text")) fd
  d_need_word : ∃ fd, FunD K (Str.ofString "need_word") (Str.ofString "need_word") (defArgs st_need_word) (defBody st_need_word) (defScope st_need_word) [] [] (He.ga K (Str.ofString "need_word")) fd
  d_Turn_of_word : ∃ fd, FunD K (Str.ofString "of_word") (Str.ofString "Turn.of_word") (defArgs st_Turn_of_word) (defBody st_Turn_of_word) (defScope st_Turn_of_word) [] [] (cmG K (Str.ofString "Turn") (Str.ofString "of_word")) fd
  d__law_signed : ∃ fd, FunD K (Str.ofString "_law_signed") (Str.ofString "_law_signed") (defArgs st__law_signed) (defBody st__law_signed) (defScope st__law_signed) [] [] (He.ga K (Str.ofString "_law_signed")) fd
  d__law_back : ∃ fd, FunD K (Str.ofString "_law_back") (Str.ofString "_law_back") (defArgs st__law_back) (defBody st__law_back) (defScope st__law_back) [] [] (He.ga K (Str.ofString "_law_back")) fd
  d__law_of : ∃ fd, FunD K (Str.ofString "_law_of") (Str.ofString "_law_of") (defArgs st__law_of) (defBody st__law_of) (defScope st__law_of) [] [] (He.ga K (Str.ofString "_law_of")) fd
  d__law_times : ∃ fd, FunD K (Str.ofString "_law_times") (Str.ofString "_law_times") (defArgs st__law_times) (defBody st__law_times) (defScope st__law_times) [] [] (He.ga K (Str.ofString "_law_times")) fd
  d__law_matrix : ∃ fd, FunD K (Str.ofString "_law_matrix") (Str.ofString "_law_matrix") (defArgs st__law_matrix) (defBody st__law_matrix) (defScope st__law_matrix) [] [] (He.ga K (Str.ofString "_law_matrix")) fd
  d__law_moved : ∃ fd, FunD K (Str.ofString "_law_moved") (Str.ofString "_law_moved") (defArgs st__law_moved) (defBody st__law_moved) (defScope st__law_moved) [] [] (He.ga K (Str.ofString "_law_moved")) fd
  d__law_next : ∃ fd, FunD K (Str.ofString "_law_next") (Str.ofString "_law_next") (defArgs st__law_next) (defBody st__law_next) (defScope st__law_next) [] [] (He.ga K (Str.ofString "_law_next")) fd
  d__law_repeated : ∃ fd, FunD K (Str.ofString "_law_repeated") (Str.ofString "_law_repeated") (defArgs st__law_repeated) (defBody st__law_repeated) (defScope st__law_repeated) [] [] (He.ga K (Str.ofString "_law_repeated")) fd
  d__law_text : ∃ fd, FunD K (Str.ofString "_law_text") (Str.ofString "_law_text") (defArgs st__law_text) (defBody st__law_text) (defScope st__law_text) [] [] (He.ga K (Str.ofString "_law_text")) fd
  d__law_calls_right : ∃ fd, FunD K (Str.ofString "_law_calls_right") (Str.ofString "_law_calls_right") (defArgs st__law_calls_right) (defBody st__law_calls_right) (defScope st__law_calls_right) [] [] (He.ga K (Str.ofString "_law_calls_right")) fd
  d__law_call_told : ∃ fd, FunD K (Str.ofString "_law_call_told") (Str.ofString "_law_call_told") (defArgs st__law_call_told) (defBody st__law_call_told) (defScope st__law_call_told) [] [] (He.ga K (Str.ofString "_law_call_told")) fd
  d__law_refusals_right : ∃ fd, FunD K (Str.ofString "_law_refusals_right") (Str.ofString "_law_refusals_right") (defArgs st__law_refusals_right) (defBody st__law_refusals_right) (defScope st__law_refusals_right) [] [] (He.ga K (Str.ofString "_law_refusals_right")) fd
  d__law_source : ∃ fd, FunD K (Str.ofString "_law_source") (Str.ofString "_law_source") (defArgs st__law_source) (defBody st__law_source) (defScope st__law_source) [] [] (He.ga K (Str.ofString "_law_source")) fd
  d_law : ∃ fd, FunD K (Str.ofString "law") (Str.ofString "law") (defArgs st_law) (defBody st_law) (defScope st_law) [] [] (He.ga K (Str.ofString "law")) fd
  d_BadNumber___init__ : ∃ fd, FunD K (Str.ofString "__init__") (Str.ofString "BadNumber.__init__") (defArgs st_BadNumber___init__) (defBody st_BadNumber___init__) (defScope st_BadNumber___init__) [] [] (He.ma K (He.ga K (Str.ofString "BadNumber")) (Str.ofString "__init__")) fd
  d_BadWord___init__ : ∃ fd, FunD K (Str.ofString "__init__") (Str.ofString "BadWord.__init__") (defArgs st_BadWord___init__) (defBody st_BadWord___init__) (defScope st_BadWord___init__) [] [] (He.ma K (He.ga K (Str.ofString "BadWord")) (Str.ofString "__init__")) fd
def df_common_divisor : Df := ⟨fun K => (He.ga K (Str.ofString "common_divisor")), Str.ofString "common_divisor", Str.ofString "common_divisor", defArgs st_common_divisor, defBody st_common_divisor, defScope st_common_divisor, []⟩
def df_is_integer : Df := ⟨fun K => (He.ga K (Str.ofString "is_integer")), Str.ofString "is_integer", Str.ofString "is_integer", defArgs st_is_integer, defBody st_is_integer, defScope st_is_integer, []⟩
def df_is_pair : Df := ⟨fun K => (He.ga K (Str.ofString "is_pair")), Str.ofString "is_pair", Str.ofString "is_pair", defArgs st_is_pair, defBody st_is_pair, defScope st_is_pair, []⟩
def df_is_fraction : Df := ⟨fun K => (He.ga K (Str.ofString "is_fraction")), Str.ofString "is_fraction", Str.ofString "is_fraction", defArgs st_is_fraction, defBody st_is_fraction, defScope st_is_fraction, []⟩
def df_need_fraction : Df := ⟨fun K => (He.ga K (Str.ofString "need_fraction")), Str.ofString "need_fraction", Str.ofString "need_fraction", defArgs st_need_fraction, defBody st_need_fraction, defScope st_need_fraction, []⟩
def df_taken_to : Df := ⟨fun K => (He.ga K (Str.ofString "taken_to")), Str.ofString "taken_to", Str.ofString "taken_to", defArgs st_taken_to, defBody st_taken_to, defScope st_taken_to, []⟩
def df_Turn___call__ : Df := ⟨fun K => (He.ma K (He.ga K (Str.ofString "Turn")) (Str.ofString "__call__")), Str.ofString "__call__", Str.ofString "Turn.__call__", defArgs st_Turn___call__, defBody st_Turn___call__, defScope st_Turn___call__, []⟩
def df_is_unit : Df := ⟨fun K => (He.ga K (Str.ofString "is_unit")), Str.ofString "is_unit", Str.ofString "is_unit", defArgs st_is_unit, defBody st_is_unit, defScope st_is_unit, []⟩
def df_normal_of : Df := ⟨fun K => (He.ga K (Str.ofString "normal_of")), Str.ofString "normal_of", Str.ofString "normal_of", defArgs st_normal_of, defBody st_normal_of, defScope st_normal_of, []⟩
def df_is_matrix : Df := ⟨fun K => (He.ga K (Str.ofString "is_matrix")), Str.ofString "is_matrix", Str.ofString "is_matrix", defArgs st_is_matrix, defBody st_is_matrix, defScope st_is_matrix, []⟩
def df_need_matrix : Df := ⟨fun K => (He.ga K (Str.ofString "need_matrix")), Str.ofString "need_matrix", Str.ofString "need_matrix", defArgs st_need_matrix, defBody st_need_matrix, defScope st_need_matrix, []⟩
def df_Turn___init__ : Df := ⟨fun K => (He.ma K (He.ga K (Str.ofString "Turn")) (Str.ofString "__init__")), Str.ofString "__init__", Str.ofString "Turn.__init__", defArgs st_Turn___init__, defBody st_Turn___init__, defScope st_Turn___init__, []⟩
def df_inverse_of : Df := ⟨fun K => (He.ga K (Str.ofString "inverse_of")), Str.ofString "inverse_of", Str.ofString "inverse_of", defArgs st_inverse_of, defBody st_inverse_of, defScope st_inverse_of, []⟩
def df_times : Df := ⟨fun K => (He.ga K (Str.ofString "times")), Str.ofString "times", Str.ofString "times", defArgs st_times, defBody st_times, defScope st_times, []⟩
def df_power_of : Df := ⟨fun K => (He.ga K (Str.ofString "power_of")), Str.ofString "power_of", Str.ofString "power_of", defArgs st_power_of, defBody st_power_of, defScope st_power_of, []⟩
def df_Turn_raised : Df := ⟨fun K => (He.ma K (He.ga K (Str.ofString "Turn")) (Str.ofString "raised")), Str.ofString "raised", Str.ofString "Turn.raised", defArgs st_Turn_raised, defBody st_Turn_raised, defScope st_Turn_raised, []⟩
def df_Turn_rows : Df := ⟨fun K => (getr K (Str.ofString "Turn") (Str.ofString "rows")), Str.ofString "rows", Str.ofString "Turn.rows", defArgs st_Turn_rows, defBody st_Turn_rows, defScope st_Turn_rows, []⟩
def df_Turn___invert__ : Df := ⟨fun K => (He.ma K (He.ga K (Str.ofString "Turn")) (Str.ofString "__invert__")), Str.ofString "__invert__", Str.ofString "Turn.__invert__", defArgs st_Turn___invert__, defBody st_Turn___invert__, defScope st_Turn___invert__, []⟩
def df_Turn___mul__ : Df := ⟨fun K => (He.ma K (He.ga K (Str.ofString "Turn")) (Str.ofString "__mul__")), Str.ofString "__mul__", Str.ofString "Turn.__mul__", defArgs st_Turn___mul__, defBody st_Turn___mul__, defScope st_Turn___mul__, []⟩
def df_matrix_of_letter : Df := ⟨fun K => (He.ga K (Str.ofString "matrix_of_letter")), Str.ofString "matrix_of_letter", Str.ofString "matrix_of_letter", defArgs st_matrix_of_letter, defBody st_matrix_of_letter, defScope st_matrix_of_letter, []⟩
def df_matrix_of_text : Df := ⟨fun K => (He.ga K (Str.ofString "matrix_of_text")), Str.ofString "matrix_of_text", Str.ofString "matrix_of_text", defArgs st_matrix_of_text, defBody st_matrix_of_text, defScope st_matrix_of_text, []⟩
def df_need_word : Df := ⟨fun K => (He.ga K (Str.ofString "need_word")), Str.ofString "need_word", Str.ofString "need_word", defArgs st_need_word, defBody st_need_word, defScope st_need_word, []⟩
def df_Turn_of_word : Df := ⟨fun K => (cmG K (Str.ofString "Turn") (Str.ofString "of_word")), Str.ofString "of_word", Str.ofString "Turn.of_word", defArgs st_Turn_of_word, defBody st_Turn_of_word, defScope st_Turn_of_word, []⟩
def df__law_signed : Df := ⟨fun K => (He.ga K (Str.ofString "_law_signed")), Str.ofString "_law_signed", Str.ofString "_law_signed", defArgs st__law_signed, defBody st__law_signed, defScope st__law_signed, []⟩
def df__law_back : Df := ⟨fun K => (He.ga K (Str.ofString "_law_back")), Str.ofString "_law_back", Str.ofString "_law_back", defArgs st__law_back, defBody st__law_back, defScope st__law_back, []⟩
def df__law_of : Df := ⟨fun K => (He.ga K (Str.ofString "_law_of")), Str.ofString "_law_of", Str.ofString "_law_of", defArgs st__law_of, defBody st__law_of, defScope st__law_of, []⟩
def df__law_times : Df := ⟨fun K => (He.ga K (Str.ofString "_law_times")), Str.ofString "_law_times", Str.ofString "_law_times", defArgs st__law_times, defBody st__law_times, defScope st__law_times, []⟩
def df__law_matrix : Df := ⟨fun K => (He.ga K (Str.ofString "_law_matrix")), Str.ofString "_law_matrix", Str.ofString "_law_matrix", defArgs st__law_matrix, defBody st__law_matrix, defScope st__law_matrix, []⟩
def df__law_moved : Df := ⟨fun K => (He.ga K (Str.ofString "_law_moved")), Str.ofString "_law_moved", Str.ofString "_law_moved", defArgs st__law_moved, defBody st__law_moved, defScope st__law_moved, []⟩
def df__law_next : Df := ⟨fun K => (He.ga K (Str.ofString "_law_next")), Str.ofString "_law_next", Str.ofString "_law_next", defArgs st__law_next, defBody st__law_next, defScope st__law_next, []⟩
def df__law_repeated : Df := ⟨fun K => (He.ga K (Str.ofString "_law_repeated")), Str.ofString "_law_repeated", Str.ofString "_law_repeated", defArgs st__law_repeated, defBody st__law_repeated, defScope st__law_repeated, []⟩
def df__law_text : Df := ⟨fun K => (He.ga K (Str.ofString "_law_text")), Str.ofString "_law_text", Str.ofString "_law_text", defArgs st__law_text, defBody st__law_text, defScope st__law_text, []⟩
def df__law_calls_right : Df := ⟨fun K => (He.ga K (Str.ofString "_law_calls_right")), Str.ofString "_law_calls_right", Str.ofString "_law_calls_right", defArgs st__law_calls_right, defBody st__law_calls_right, defScope st__law_calls_right, []⟩
def df__law_call_told : Df := ⟨fun K => (He.ga K (Str.ofString "_law_call_told")), Str.ofString "_law_call_told", Str.ofString "_law_call_told", defArgs st__law_call_told, defBody st__law_call_told, defScope st__law_call_told, []⟩
def df__law_refusals_right : Df := ⟨fun K => (He.ga K (Str.ofString "_law_refusals_right")), Str.ofString "_law_refusals_right", Str.ofString "_law_refusals_right", defArgs st__law_refusals_right, defBody st__law_refusals_right, defScope st__law_refusals_right, []⟩
def df__law_source : Df := ⟨fun K => (He.ga K (Str.ofString "_law_source")), Str.ofString "_law_source", Str.ofString "_law_source", defArgs st__law_source, defBody st__law_source, defScope st__law_source, []⟩
def df_law : Df := ⟨fun K => (He.ga K (Str.ofString "law")), Str.ofString "law", Str.ofString "law", defArgs st_law, defBody st_law, defScope st_law, []⟩
def df_BadNumber___init__ : Df := ⟨fun K => (He.ma K (He.ga K (Str.ofString "BadNumber")) (Str.ofString "__init__")), Str.ofString "__init__", Str.ofString "BadNumber.__init__", defArgs st_BadNumber___init__, defBody st_BadNumber___init__, defScope st_BadNumber___init__, []⟩
def df_BadWord___init__ : Df := ⟨fun K => (He.ma K (He.ga K (Str.ofString "BadWord")) (Str.ofString "__init__")), Str.ofString "__init__", Str.ofString "BadWord.__init__", defArgs st_BadWord___init__, defBody st_BadWord___init__, defScope st_BadWord___init__, []⟩
def fa0 : List (PySem.W.Frag → Bool) := [fGlo (Str.ofString "BadFraction"), fGlo (Str.ofString "BadMatrix"), fGlo (Str.ofString "BadNumber"), fGlo (Str.ofString "BadWord"), fGlo (Str.ofString "LimitError"), fGlo (Str.ofString "MatrixError"), fGlo (Str.ofString "Turn"), fGlo (Str.ofString "WalkError"), fGlo (Str.ofString "_law_back"), fGlo (Str.ofString "_law_call_told"), fGlo (Str.ofString "_law_calls_right"), fGlo (Str.ofString "_law_matrix"), fGlo (Str.ofString "_law_moved"), fGlo (Str.ofString "_law_next"), fGlo (Str.ofString "_law_of"), fGlo (Str.ofString "_law_refusals_right"), fGlo (Str.ofString "_law_repeated"), fGlo (Str.ofString "_law_signed"), fGlo (Str.ofString "_law_source"), fGlo (Str.ofString "_law_text"), fGlo (Str.ofString "_law_times"), fGlo (Str.ofString "common_divisor"), fGlo (Str.ofString "inverse_of"), fGlo (Str.ofString "is_fraction"), fGlo (Str.ofString "is_integer")]
def fa1 : List (PySem.W.Frag → Bool) := [fGlo (Str.ofString "is_matrix"), fGlo (Str.ofString "is_pair"), fGlo (Str.ofString "is_unit"), fGlo (Str.ofString "law"), fGlo (Str.ofString "matrix_of_letter"), fGlo (Str.ofString "matrix_of_text"), fGlo (Str.ofString "need_fraction"), fGlo (Str.ofString "need_matrix"), fGlo (Str.ofString "need_word"), fGlo (Str.ofString "normal_of"), fGlo (Str.ofString "power_of"), fGlo (Str.ofString "taken_to"), fGlo (Str.ofString "times"), fFree (Str.ofString "abs"), fFree (Str.ofString "bool"), fFree (Str.ofString "enumerate"), fFree (Str.ofString "int"), fFree (Str.ofString "isinstance"), fFree (Str.ofString "len"), fFree (Str.ofString "max"), fFree (Str.ofString "min"), fFree (Str.ofString "range"), fFree (Str.ofString "repr"), fFree (Str.ofString "str"), fFree (Str.ofString "tuple")]
def fa2 : List (PySem.W.Frag → Bool) := [fVal (Str.ofString "IDENTITY") (.tup [(.tup [(.int 1), (.int 0)]), (.tup [(.int 0), (.int 1)])]), fVal (Str.ofString "MAX_WORD") (.int 2000), fVal (Str.ofString "R") (.tup [(.tup [(.int 0), (.int (-1))]), (.tup [(.int 1), (.int 1)])]), fVal (Str.ofString "S") (.tup [(.tup [(.int 0), (.int (-1))]), (.tup [(.int 1), (.int 0)])]), fOwn (Str.ofString "Turn"), fNoat (Str.ofString "Turn") (Str.ofString "held"), fMake (Str.ofString "Turn"), fKit (Str.ofString "Turn") (fun _ => .type "bool") false, fKit (Str.ofString "Turn") (fun _ => .type "int") false, fKit (Str.ofString "Turn") (fun _ => .type "str") false, fKit (Str.ofString "Turn") (fun _ => .type "tuple") false, fMeth (Str.ofString "Turn") (Str.ofString "__call__"), fMeth (Str.ofString "Turn") (Str.ofString "__invert__"), fMeth (Str.ofString "Turn") (Str.ofString "__mul__"), fMeth (Str.ofString "Turn") (Str.ofString "raised"), fFirst (Str.ofString "Turn"), fProp (Str.ofString "Turn") (Str.ofString "rows"), fEx0 (Str.ofString "BadFraction"), fEx0 (Str.ofString "BadMatrix"), fOex (Str.ofString "BadNumber"), fNoat (Str.ofString "BadNumber") (Str.ofString "value"), fFnT (Str.ofString "BadNumber") "__init__", fOex (Str.ofString "BadWord"), fNoat (Str.ofString "BadWord") (Str.ofString "index"), fFnT (Str.ofString "BadWord") "__init__"]
def fa3 : List (PySem.W.Frag → Bool) := [fKit (Str.ofString "BadMatrix") (fun K => .ref (He.ga K (Str.ofString "BadFraction"))) false, fKit (Str.ofString "BadFraction") (fun K => .ref (He.ga K (Str.ofString "BadFraction"))) true, fKit (Str.ofString "BadWord") (fun K => .ref (He.ga K (Str.ofString "BadFraction"))) false, fKit (Str.ofString "BadNumber") (fun K => .ref (He.ga K (Str.ofString "BadFraction"))) false, fKit (Str.ofString "BadMatrix") (fun K => .ref (He.ga K (Str.ofString "BadMatrix"))) true, fKit (Str.ofString "BadFraction") (fun K => .ref (He.ga K (Str.ofString "BadMatrix"))) false, fKit (Str.ofString "BadWord") (fun K => .ref (He.ga K (Str.ofString "BadMatrix"))) false, fKit (Str.ofString "BadNumber") (fun K => .ref (He.ga K (Str.ofString "BadMatrix"))) false, fKit (Str.ofString "BadMatrix") (fun K => .ref (He.ga K (Str.ofString "BadNumber"))) false, fKit (Str.ofString "BadFraction") (fun K => .ref (He.ga K (Str.ofString "BadNumber"))) false, fKit (Str.ofString "BadWord") (fun K => .ref (He.ga K (Str.ofString "BadNumber"))) false, fKit (Str.ofString "BadNumber") (fun K => .ref (He.ga K (Str.ofString "BadNumber"))) true, fKit (Str.ofString "BadMatrix") (fun K => .ref (He.ga K (Str.ofString "BadWord"))) false, fKit (Str.ofString "BadFraction") (fun K => .ref (He.ga K (Str.ofString "BadWord"))) false, fKit (Str.ofString "BadWord") (fun K => .ref (He.ga K (Str.ofString "BadWord"))) true, fKit (Str.ofString "BadNumber") (fun K => .ref (He.ga K (Str.ofString "BadWord"))) false, fCRd (Str.ofString "Turn"), fCMet (Str.ofString "Turn") (Str.ofString "of_word"), fCVal (Str.ofString "Turn") (Str.ofString "MOST_EXPONENT") (.int 200), fCon (Str.ofString "Turn") (Str.ofString "MOST_EXPONENT") (.int 200), (fun K => PySem.W.fnIn K (He.ma K (He.ga K (Str.ofString "Turn")) "__call__")), fExI (Str.ofString "BadFraction"), fExI (Str.ofString "BadMatrix"), fExI (Str.ofString "BadNumber"), fExI (Str.ofString "BadWord")]
def fa4 : List (PySem.W.Frag → Bool) := [fExm (Str.ofString "BadMatrix") (Str.ofString "MatrixError") (Str.ofString "LimitError") (Str.ofString "WalkError"), fExm (Str.ofString "BadFraction") (Str.ofString "MatrixError") (Str.ofString "LimitError") (Str.ofString "WalkError"), fExm (Str.ofString "BadWord") (Str.ofString "MatrixError") (Str.ofString "LimitError") (Str.ofString "WalkError"), fExm (Str.ofString "BadNumber") (Str.ofString "MatrixError") (Str.ofString "LimitError") (Str.ofString "WalkError"), (fun K => decide ([(He.ga K (Str.ofString "BadMatrix")), (He.ga K (Str.ofString "BadFraction")), (He.ga K (Str.ofString "BadWord")), (He.ga K (Str.ofString "BadNumber"))].Nodup)), (fun K => decide (((TabsC.tt K).map (·.1)).Nodup))]
def fa : List (PySem.W.Frag → Bool) := fa0 ++ fa1 ++ fa2 ++ fa3 ++ fa4
def fn0 : List Df := [df_common_divisor, df_is_integer, df_is_pair, df_is_fraction, df_need_fraction, df_taken_to, df_Turn___call__, df_is_unit, df_normal_of, df_is_matrix, df_need_matrix, df_Turn___init__, df_inverse_of, df_times, df_power_of, df_Turn_raised, df_Turn_rows, df_Turn___invert__, df_Turn___mul__, df_matrix_of_letter, df_matrix_of_text, df_need_word, df_Turn_of_word, df__law_signed, df__law_back]
def fn1 : List Df := [df__law_of, df__law_times, df__law_matrix, df__law_moved, df__law_next, df__law_repeated, df__law_text, df__law_calls_right, df__law_call_told, df__law_refusals_right, df__law_source, df_law, df_BadNumber___init__, df_BadWord___init__]
def fn : List Df := fn0 ++ fn1
theorem tf_of {K : PySem.W.Frag} {h : Heap} {mg : Str → Option Value} {base : Heap} (X : K.In h) (G : h.Ns mainGlobals mg) (c : Left fa fn K) (tl : TabsL tn K h) (tb : ∀ d ∈ tn, LamX.TabB base mg (codeT K (d K)).1 (codeT K (d K)).2) : TF K mg base where
  g_BadFraction := glo_ok X G (c.fact 0 (f := fGlo (Str.ofString "BadFraction")) rfl)
  g_BadMatrix := glo_ok X G (c.fact 1 (f := fGlo (Str.ofString "BadMatrix")) rfl)
  g_BadNumber := glo_ok X G (c.fact 2 (f := fGlo (Str.ofString "BadNumber")) rfl)
  g_BadWord := glo_ok X G (c.fact 3 (f := fGlo (Str.ofString "BadWord")) rfl)
  g_LimitError := glo_ok X G (c.fact 4 (f := fGlo (Str.ofString "LimitError")) rfl)
  g_MatrixError := glo_ok X G (c.fact 5 (f := fGlo (Str.ofString "MatrixError")) rfl)
  g_Turn := glo_ok X G (c.fact 6 (f := fGlo (Str.ofString "Turn")) rfl)
  g_WalkError := glo_ok X G (c.fact 7 (f := fGlo (Str.ofString "WalkError")) rfl)
  g__law_back := glo_ok X G (c.fact 8 (f := fGlo (Str.ofString "_law_back")) rfl)
  g__law_call_told := glo_ok X G (c.fact 9 (f := fGlo (Str.ofString "_law_call_told")) rfl)
  g__law_calls_right := glo_ok X G (c.fact 10 (f := fGlo (Str.ofString "_law_calls_right")) rfl)
  g__law_matrix := glo_ok X G (c.fact 11 (f := fGlo (Str.ofString "_law_matrix")) rfl)
  g__law_moved := glo_ok X G (c.fact 12 (f := fGlo (Str.ofString "_law_moved")) rfl)
  g__law_next := glo_ok X G (c.fact 13 (f := fGlo (Str.ofString "_law_next")) rfl)
  g__law_of := glo_ok X G (c.fact 14 (f := fGlo (Str.ofString "_law_of")) rfl)
  g__law_refusals_right := glo_ok X G (c.fact 15 (f := fGlo (Str.ofString "_law_refusals_right")) rfl)
  g__law_repeated := glo_ok X G (c.fact 16 (f := fGlo (Str.ofString "_law_repeated")) rfl)
  g__law_signed := glo_ok X G (c.fact 17 (f := fGlo (Str.ofString "_law_signed")) rfl)
  g__law_source := glo_ok X G (c.fact 18 (f := fGlo (Str.ofString "_law_source")) rfl)
  g__law_text := glo_ok X G (c.fact 19 (f := fGlo (Str.ofString "_law_text")) rfl)
  g__law_times := glo_ok X G (c.fact 20 (f := fGlo (Str.ofString "_law_times")) rfl)
  g_common_divisor := glo_ok X G (c.fact 21 (f := fGlo (Str.ofString "common_divisor")) rfl)
  g_inverse_of := glo_ok X G (c.fact 22 (f := fGlo (Str.ofString "inverse_of")) rfl)
  g_is_fraction := glo_ok X G (c.fact 23 (f := fGlo (Str.ofString "is_fraction")) rfl)
  g_is_integer := glo_ok X G (c.fact 24 (f := fGlo (Str.ofString "is_integer")) rfl)
  g_is_matrix := glo_ok X G (c.fact 25 (f := fGlo (Str.ofString "is_matrix")) rfl)
  g_is_pair := glo_ok X G (c.fact 26 (f := fGlo (Str.ofString "is_pair")) rfl)
  g_is_unit := glo_ok X G (c.fact 27 (f := fGlo (Str.ofString "is_unit")) rfl)
  g_law := glo_ok X G (c.fact 28 (f := fGlo (Str.ofString "law")) rfl)
  g_matrix_of_letter := glo_ok X G (c.fact 29 (f := fGlo (Str.ofString "matrix_of_letter")) rfl)
  g_matrix_of_text := glo_ok X G (c.fact 30 (f := fGlo (Str.ofString "matrix_of_text")) rfl)
  g_need_fraction := glo_ok X G (c.fact 31 (f := fGlo (Str.ofString "need_fraction")) rfl)
  g_need_matrix := glo_ok X G (c.fact 32 (f := fGlo (Str.ofString "need_matrix")) rfl)
  g_need_word := glo_ok X G (c.fact 33 (f := fGlo (Str.ofString "need_word")) rfl)
  g_normal_of := glo_ok X G (c.fact 34 (f := fGlo (Str.ofString "normal_of")) rfl)
  g_power_of := glo_ok X G (c.fact 35 (f := fGlo (Str.ofString "power_of")) rfl)
  g_taken_to := glo_ok X G (c.fact 36 (f := fGlo (Str.ofString "taken_to")) rfl)
  g_times := glo_ok X G (c.fact 37 (f := fGlo (Str.ofString "times")) rfl)
  n_abs := free_ok X G (c.fact 38 (f := fFree (Str.ofString "abs")) rfl)
  n_bool := free_ok X G (c.fact 39 (f := fFree (Str.ofString "bool")) rfl)
  n_enumerate := free_ok X G (c.fact 40 (f := fFree (Str.ofString "enumerate")) rfl)
  n_int := free_ok X G (c.fact 41 (f := fFree (Str.ofString "int")) rfl)
  n_isinstance := free_ok X G (c.fact 42 (f := fFree (Str.ofString "isinstance")) rfl)
  n_len := free_ok X G (c.fact 43 (f := fFree (Str.ofString "len")) rfl)
  n_max := free_ok X G (c.fact 44 (f := fFree (Str.ofString "max")) rfl)
  n_min := free_ok X G (c.fact 45 (f := fFree (Str.ofString "min")) rfl)
  n_range := free_ok X G (c.fact 46 (f := fFree (Str.ofString "range")) rfl)
  n_repr := free_ok X G (c.fact 47 (f := fFree (Str.ofString "repr")) rfl)
  n_str := free_ok X G (c.fact 48 (f := fFree (Str.ofString "str")) rfl)
  n_tuple := free_ok X G (c.fact 49 (f := fFree (Str.ofString "tuple")) rfl)
  v_IDENTITY := val_ok X G (c.fact 50 (f := fVal (Str.ofString "IDENTITY") (.tup [(.tup [(.int 1), (.int 0)]), (.tup [(.int 0), (.int 1)])])) rfl)
  v_MAX_WORD := val_ok X G (c.fact 51 (f := fVal (Str.ofString "MAX_WORD") (.int 2000)) rfl)
  v_R := val_ok X G (c.fact 52 (f := fVal (Str.ofString "R") (.tup [(.tup [(.int 0), (.int (-1))]), (.tup [(.int 1), (.int 1)])])) rfl)
  v_S := val_ok X G (c.fact 53 (f := fVal (Str.ofString "S") (.tup [(.tup [(.int 0), (.int (-1))]), (.tup [(.int 1), (.int 0)])])) rfl)
  o_Turn := own_ok (c.fact 54 (f := fOwn (Str.ofString "Turn")) rfl)
  fn_held_Turn := noat_ok (c.fact 55 (f := fNoat (Str.ofString "Turn") (Str.ofString "held")) rfl)
  mk_Turn := make_ok (c.fact 56 (f := fMake (Str.ofString "Turn")) rfl) (c.fact 6 (f := fGlo (Str.ofString "Turn")) rfl)
  kt_bool_Turn := kit_ok (c.fact 57 (f := fKit (Str.ofString "Turn") (fun _ => .type "bool") false) rfl)
  kt_int_Turn := kit_ok (c.fact 58 (f := fKit (Str.ofString "Turn") (fun _ => .type "int") false) rfl)
  kt_str_Turn := kit_ok (c.fact 59 (f := fKit (Str.ofString "Turn") (fun _ => .type "str") false) rfl)
  kt_tuple_Turn := kit_ok (c.fact 60 (f := fKit (Str.ofString "Turn") (fun _ => .type "tuple") false) rfl)
  m_Turn___call__ := meth_ok (c.fact 61 (f := fMeth (Str.ofString "Turn") (Str.ofString "__call__")) rfl)
  m_Turn___invert__ := meth_ok (c.fact 62 (f := fMeth (Str.ofString "Turn") (Str.ofString "__invert__")) rfl)
  m_Turn___mul__ := meth_ok (c.fact 63 (f := fMeth (Str.ofString "Turn") (Str.ofString "__mul__")) rfl)
  m_Turn_raised := meth_ok (c.fact 64 (f := fMeth (Str.ofString "Turn") (Str.ofString "raised")) rfl)
  sf_Turn := (c.fact 65 (f := fFirst (Str.ofString "Turn")) rfl)
  p_rows_Turn := prop_ok (c.fact 66 (f := fProp (Str.ofString "Turn") (Str.ofString "rows")) rfl)
  x0_BadFraction := ex0_ok (c.fact 67 (f := fEx0 (Str.ofString "BadFraction")) rfl)
  x0_BadMatrix := ex0_ok (c.fact 68 (f := fEx0 (Str.ofString "BadMatrix")) rfl)
  ox_BadNumber := oex_ok (c.fact 69 (f := fOex (Str.ofString "BadNumber")) rfl)
  no_BadNumber_value := noat_ok (c.fact 70 (f := fNoat (Str.ofString "BadNumber") (Str.ofString "value")) rfl)
  it_BadNumber := fnT_ok (c.fact 71 (f := fFnT (Str.ofString "BadNumber") "__init__") rfl)
  ox_BadWord := oex_ok (c.fact 72 (f := fOex (Str.ofString "BadWord")) rfl)
  no_BadWord_index := noat_ok (c.fact 73 (f := fNoat (Str.ofString "BadWord") (Str.ofString "index")) rfl)
  it_BadWord := fnT_ok (c.fact 74 (f := fFnT (Str.ofString "BadWord") "__init__") rfl)
  fx_value_BadNumber := noat_ok (c.fact 70 (f := fNoat (Str.ofString "BadNumber") (Str.ofString "value")) rfl)
  kx_BadFraction_BadMatrix := kit_ok (c.fact 75 (f := fKit (Str.ofString "BadMatrix") (fun K => .ref (He.ga K (Str.ofString "BadFraction"))) false) rfl)
  kx_BadFraction_BadFraction := kit_ok (c.fact 76 (f := fKit (Str.ofString "BadFraction") (fun K => .ref (He.ga K (Str.ofString "BadFraction"))) true) rfl)
  kx_BadFraction_BadWord := kit_ok (c.fact 77 (f := fKit (Str.ofString "BadWord") (fun K => .ref (He.ga K (Str.ofString "BadFraction"))) false) rfl)
  kx_BadFraction_BadNumber := kit_ok (c.fact 78 (f := fKit (Str.ofString "BadNumber") (fun K => .ref (He.ga K (Str.ofString "BadFraction"))) false) rfl)
  kx_BadMatrix_BadMatrix := kit_ok (c.fact 79 (f := fKit (Str.ofString "BadMatrix") (fun K => .ref (He.ga K (Str.ofString "BadMatrix"))) true) rfl)
  kx_BadMatrix_BadFraction := kit_ok (c.fact 80 (f := fKit (Str.ofString "BadFraction") (fun K => .ref (He.ga K (Str.ofString "BadMatrix"))) false) rfl)
  kx_BadMatrix_BadWord := kit_ok (c.fact 81 (f := fKit (Str.ofString "BadWord") (fun K => .ref (He.ga K (Str.ofString "BadMatrix"))) false) rfl)
  kx_BadMatrix_BadNumber := kit_ok (c.fact 82 (f := fKit (Str.ofString "BadNumber") (fun K => .ref (He.ga K (Str.ofString "BadMatrix"))) false) rfl)
  kx_BadNumber_BadMatrix := kit_ok (c.fact 83 (f := fKit (Str.ofString "BadMatrix") (fun K => .ref (He.ga K (Str.ofString "BadNumber"))) false) rfl)
  kx_BadNumber_BadFraction := kit_ok (c.fact 84 (f := fKit (Str.ofString "BadFraction") (fun K => .ref (He.ga K (Str.ofString "BadNumber"))) false) rfl)
  kx_BadNumber_BadWord := kit_ok (c.fact 85 (f := fKit (Str.ofString "BadWord") (fun K => .ref (He.ga K (Str.ofString "BadNumber"))) false) rfl)
  kx_BadNumber_BadNumber := kit_ok (c.fact 86 (f := fKit (Str.ofString "BadNumber") (fun K => .ref (He.ga K (Str.ofString "BadNumber"))) true) rfl)
  kx_BadWord_BadMatrix := kit_ok (c.fact 87 (f := fKit (Str.ofString "BadMatrix") (fun K => .ref (He.ga K (Str.ofString "BadWord"))) false) rfl)
  kx_BadWord_BadFraction := kit_ok (c.fact 88 (f := fKit (Str.ofString "BadFraction") (fun K => .ref (He.ga K (Str.ofString "BadWord"))) false) rfl)
  kx_BadWord_BadWord := kit_ok (c.fact 89 (f := fKit (Str.ofString "BadWord") (fun K => .ref (He.ga K (Str.ofString "BadWord"))) true) rfl)
  kx_BadWord_BadNumber := kit_ok (c.fact 90 (f := fKit (Str.ofString "BadNumber") (fun K => .ref (He.ga K (Str.ofString "BadWord"))) false) rfl)
  cr_Turn := crd_ok (c.fact 91 (f := fCRd (Str.ofString "Turn")) rfl)
  cm_Turn_of_word := cmet_ok (c.fact 92 (f := fCMet (Str.ofString "Turn") (Str.ofString "of_word")) rfl)
  cv_Turn_MOST_EXPONENT := cval_ok (c.fact 93 (f := fCVal (Str.ofString "Turn") (Str.ofString "MOST_EXPONENT") (.int 200)) rfl)
  cn_Turn_MOST_EXPONENT := con_ok (c.fact 94 (f := fCon (Str.ofString "Turn") (Str.ofString "MOST_EXPONENT") (.int 200)) rfl) (by decide +kernel)
  cf_Turn := (c.fact 95 (f := (fun K => PySem.W.fnIn K (He.ma K (He.ga K (Str.ofString "Turn")) "__call__"))) rfl)
  xi_BadFraction := exI_ok (c.fact 96 (f := fExI (Str.ofString "BadFraction")) rfl)
  xi_BadMatrix := exI_ok (c.fact 97 (f := fExI (Str.ofString "BadMatrix")) rfl)
  xi_BadNumber := exI_ok (c.fact 98 (f := fExI (Str.ofString "BadNumber")) rfl)
  xi_BadWord := exI_ok (c.fact 99 (f := fExI (Str.ofString "BadWord")) rfl)
  xm_MatrixError_LimitError_WalkError_BadMatrix := exm_ok (c.fact 100 (f := fExm (Str.ofString "BadMatrix") (Str.ofString "MatrixError") (Str.ofString "LimitError") (Str.ofString "WalkError")) rfl)
  xm_MatrixError_LimitError_WalkError_BadFraction := exm_ok (c.fact 101 (f := fExm (Str.ofString "BadFraction") (Str.ofString "MatrixError") (Str.ofString "LimitError") (Str.ofString "WalkError")) rfl)
  xm_MatrixError_LimitError_WalkError_BadWord := exm_ok (c.fact 102 (f := fExm (Str.ofString "BadWord") (Str.ofString "MatrixError") (Str.ofString "LimitError") (Str.ofString "WalkError")) rfl)
  xm_MatrixError_LimitError_WalkError_BadNumber := exm_ok (c.fact 103 (f := fExm (Str.ofString "BadNumber") (Str.ofString "MatrixError") (Str.ofString "LimitError") (Str.ofString "WalkError")) rfl)
  ndX := of_decide_eq_true (c.fact 104 (f := (fun K => decide ([(He.ga K (Str.ofString "BadMatrix")), (He.ga K (Str.ofString "BadFraction")), (He.ga K (Str.ofString "BadWord")), (He.ga K (Str.ofString "BadNumber"))].Nodup))) rfl)
  ndT := of_decide_eq_true (c.fact 105 (f := (fun K => decide (((TabsC.tt K).map (·.1)).Nodup))) rfl)
  hd__law_refusals_right := (tl _ (List.mem_of_getElem? (i := 0) rfl)).1
  tb__law_refusals_right := tb _ (List.mem_of_getElem? (i := 0) rfl)
  d_common_divisor := c.def_ 0 (d := df_common_divisor) rfl
  d_is_integer := c.def_ 1 (d := df_is_integer) rfl
  d_is_pair := c.def_ 2 (d := df_is_pair) rfl
  d_is_fraction := c.def_ 3 (d := df_is_fraction) rfl
  d_need_fraction := c.def_ 4 (d := df_need_fraction) rfl
  d_taken_to := c.def_ 5 (d := df_taken_to) rfl
  d_Turn___call__ := c.def_ 6 (d := df_Turn___call__) rfl
  d_is_unit := c.def_ 7 (d := df_is_unit) rfl
  d_normal_of := c.def_ 8 (d := df_normal_of) rfl
  d_is_matrix := c.def_ 9 (d := df_is_matrix) rfl
  d_need_matrix := c.def_ 10 (d := df_need_matrix) rfl
  d_Turn___init__ := c.def_ 11 (d := df_Turn___init__) rfl
  d_inverse_of := c.def_ 12 (d := df_inverse_of) rfl
  d_times := c.def_ 13 (d := df_times) rfl
  d_power_of := c.def_ 14 (d := df_power_of) rfl
  d_Turn_raised := c.def_ 15 (d := df_Turn_raised) rfl
  d_Turn_rows := c.def_ 16 (d := df_Turn_rows) rfl
  d_Turn___invert__ := c.def_ 17 (d := df_Turn___invert__) rfl
  d_Turn___mul__ := c.def_ 18 (d := df_Turn___mul__) rfl
  d_matrix_of_letter := c.def_ 19 (d := df_matrix_of_letter) rfl
  d_matrix_of_text := c.def_ 20 (d := df_matrix_of_text) rfl
  d_need_word := c.def_ 21 (d := df_need_word) rfl
  d_Turn_of_word := c.def_ 22 (d := df_Turn_of_word) rfl
  d__law_signed := c.def_ 23 (d := df__law_signed) rfl
  d__law_back := c.def_ 24 (d := df__law_back) rfl
  d__law_of := c.def_ 25 (d := df__law_of) rfl
  d__law_times := c.def_ 26 (d := df__law_times) rfl
  d__law_matrix := c.def_ 27 (d := df__law_matrix) rfl
  d__law_moved := c.def_ 28 (d := df__law_moved) rfl
  d__law_next := c.def_ 29 (d := df__law_next) rfl
  d__law_repeated := c.def_ 30 (d := df__law_repeated) rfl
  d__law_text := c.def_ 31 (d := df__law_text) rfl
  d__law_calls_right := c.def_ 32 (d := df__law_calls_right) rfl
  d__law_call_told := c.def_ 33 (d := df__law_call_told) rfl
  d__law_refusals_right := c.def_ 34 (d := df__law_refusals_right) rfl
  d__law_source := c.def_ 35 (d := df__law_source) rfl
  d_law := c.def_ 36 (d := df_law) rfl
  d_BadNumber___init__ := c.def_ 37 (d := df_BadNumber___init__) rfl
  d_BadWord___init__ := c.def_ 38 (d := df_BadWord___init__) rfl
section
variable {P : Program} {w : World} {K : PySem.W.Frag} {mg : Str → Option Value} {base : Heap} (T : TF K mg base)
include T
theorem ca_ok : ClsOk (ca K) := ⟨T.ndX⟩
theorem f_held : ∀ C, oks [(ca K).Turn] C → Cls K C ∧ NoAttr K C (Str.ofString "held") := by
  intro C h
  simp only [oks, List.mem_cons, List.not_mem_nil, or_false] at h
  rcases h with rfl
  · exact ⟨T.o_Turn.cl, T.fn_held_Turn⟩
theorem own_K : ∀ C, (ca K).own C = true → OwnC K C := by
  intro C h
  have h : (C == (He.ga K (Str.ofString "Turn"))) = true := h
  simp only [Bool.or_eq_true, beq_iff_eq] at h
  rcases h with h
  all_goals first
    | exact h ▸ T.o_Turn
theorem i_bool : ∀ C, (ca K).own C = true → OwnC K C ∧ PySem.W.kitOne K (.ref C) (.type "bool") = some false := by
  intro C h
  refine ⟨own_K T C h, ?_⟩
  have h : (C == (He.ga K (Str.ofString "Turn"))) = true := h
  simp only [Bool.or_eq_true, beq_iff_eq] at h
  exact h ▸ T.kt_bool_Turn
theorem i_int : ∀ C, (ca K).own C = true → OwnC K C ∧ PySem.W.kitOne K (.ref C) (.type "int") = some false := by
  intro C h
  refine ⟨own_K T C h, ?_⟩
  have h : (C == (He.ga K (Str.ofString "Turn"))) = true := h
  simp only [Bool.or_eq_true, beq_iff_eq] at h
  exact h ▸ T.kt_int_Turn
theorem i_str : ∀ C, (ca K).own C = true → OwnC K C ∧ PySem.W.kitOne K (.ref C) (.type "str") = some false := by
  intro C h
  refine ⟨own_K T C h, ?_⟩
  have h : (C == (He.ga K (Str.ofString "Turn"))) = true := h
  simp only [Bool.or_eq_true, beq_iff_eq] at h
  exact h ▸ T.kt_str_Turn
theorem i_tuple : ∀ C, (ca K).own C = true → OwnC K C ∧ PySem.W.kitOne K (.ref C) (.type "tuple") = some false := by
  intro C h
  refine ⟨own_K T C h, ?_⟩
  have h : (C == (He.ga K (Str.ofString "Turn"))) = true := h
  simp only [Bool.or_eq_true, beq_iff_eq] at h
  exact h ▸ T.kt_tuple_Turn
theorem kc_Turn_MOST_EXPONENT : ∀ C, oks [(ca K).Turn] C → Cls K C ∧ ∃ v u, Con K C (Str.ofString "MOST_EXPONENT") v u ∧ ∀ η H, VR K η H (.int 200) v := by
  intro C h
  simp only [oks, List.mem_cons, List.not_mem_nil, or_false] at h
  rcases h with rfl
  · exact ⟨T.o_Turn.cl, T.cn_Turn_MOST_EXPONENT⟩
theorem fe_value : ∀ C, oks [(ca K).BadNumber] C → ExI K C ∧ PySem.W.findIn K (.ref C) (Str.ofString "value") = some none := by
  intro C h
  simp only [oks, List.mem_cons, List.not_mem_nil, or_false] at h
  rcases h with rfl
  · exact ⟨T.xi_BadNumber, T.fx_value_BadNumber⟩
theorem ie_BadFraction : ∀ C b, (isiEx [((ca K).BadFraction, true), ((ca K).BadMatrix, false), ((ca K).BadWord, false), ((ca K).BadNumber, false)]) C = some b → ExI K C ∧ PySem.W.kitOne K (.ref C) (.ref (ca K).BadFraction) = some b := by
  intro C b h
  rcases isiEx_cons h with ⟨rfl, rfl⟩ | h
  · exact ⟨T.xi_BadFraction, T.kx_BadFraction_BadFraction⟩
  rcases isiEx_cons h with ⟨rfl, rfl⟩ | h
  · exact ⟨T.xi_BadMatrix, T.kx_BadFraction_BadMatrix⟩
  rcases isiEx_cons h with ⟨rfl, rfl⟩ | h
  · exact ⟨T.xi_BadWord, T.kx_BadFraction_BadWord⟩
  rcases isiEx_cons h with ⟨rfl, rfl⟩ | h
  · exact ⟨T.xi_BadNumber, T.kx_BadFraction_BadNumber⟩
  cases h
theorem ie_BadMatrix : ∀ C b, (isiEx [((ca K).BadMatrix, true), ((ca K).BadFraction, false), ((ca K).BadWord, false), ((ca K).BadNumber, false)]) C = some b → ExI K C ∧ PySem.W.kitOne K (.ref C) (.ref (ca K).BadMatrix) = some b := by
  intro C b h
  rcases isiEx_cons h with ⟨rfl, rfl⟩ | h
  · exact ⟨T.xi_BadMatrix, T.kx_BadMatrix_BadMatrix⟩
  rcases isiEx_cons h with ⟨rfl, rfl⟩ | h
  · exact ⟨T.xi_BadFraction, T.kx_BadMatrix_BadFraction⟩
  rcases isiEx_cons h with ⟨rfl, rfl⟩ | h
  · exact ⟨T.xi_BadWord, T.kx_BadMatrix_BadWord⟩
  rcases isiEx_cons h with ⟨rfl, rfl⟩ | h
  · exact ⟨T.xi_BadNumber, T.kx_BadMatrix_BadNumber⟩
  cases h
theorem ie_BadNumber : ∀ C b, (isiEx [((ca K).BadNumber, true), ((ca K).BadMatrix, false), ((ca K).BadFraction, false), ((ca K).BadWord, false)]) C = some b → ExI K C ∧ PySem.W.kitOne K (.ref C) (.ref (ca K).BadNumber) = some b := by
  intro C b h
  rcases isiEx_cons h with ⟨rfl, rfl⟩ | h
  · exact ⟨T.xi_BadNumber, T.kx_BadNumber_BadNumber⟩
  rcases isiEx_cons h with ⟨rfl, rfl⟩ | h
  · exact ⟨T.xi_BadMatrix, T.kx_BadNumber_BadMatrix⟩
  rcases isiEx_cons h with ⟨rfl, rfl⟩ | h
  · exact ⟨T.xi_BadFraction, T.kx_BadNumber_BadFraction⟩
  rcases isiEx_cons h with ⟨rfl, rfl⟩ | h
  · exact ⟨T.xi_BadWord, T.kx_BadNumber_BadWord⟩
  cases h
theorem ie_BadWord : ∀ C b, (isiEx [((ca K).BadWord, true), ((ca K).BadMatrix, false), ((ca K).BadFraction, false), ((ca K).BadNumber, false)]) C = some b → ExI K C ∧ PySem.W.kitOne K (.ref C) (.ref (ca K).BadWord) = some b := by
  intro C b h
  rcases isiEx_cons h with ⟨rfl, rfl⟩ | h
  · exact ⟨T.xi_BadWord, T.kx_BadWord_BadWord⟩
  rcases isiEx_cons h with ⟨rfl, rfl⟩ | h
  · exact ⟨T.xi_BadMatrix, T.kx_BadWord_BadMatrix⟩
  rcases isiEx_cons h with ⟨rfl, rfl⟩ | h
  · exact ⟨T.xi_BadFraction, T.kx_BadWord_BadFraction⟩
  rcases isiEx_cons h with ⟨rfl, rfl⟩ | h
  · exact ⟨T.xi_BadNumber, T.kx_BadWord_BadNumber⟩
  cases h
theorem xm_MatrixError_LimitError_WalkError : ∀ C, oks [(ca K).BadMatrix, (ca K).BadFraction, (ca K).BadWord, (ca K).BadNumber] C → PySem.W.exmAny K (.ref C) [.ref (ca K).MatrixError, .ref (ca K).LimitError, .ref (ca K).WalkError] = some true := by
  intro C h
  simp only [oks, List.mem_cons, List.not_mem_nil, or_false] at h
  rcases h with rfl | rfl | rfl | rfl
  · exact T.xm_MatrixError_LimitError_WalkError_BadMatrix
  · exact T.xm_MatrixError_LimitError_WalkError_BadFraction
  · exact T.xm_MatrixError_LimitError_WalkError_BadWord
  · exact T.xm_MatrixError_LimitError_WalkError_BadNumber
theorem x1_BadNumber : Ex1 P w K mg base (He.ga K (Str.ofString "BadNumber")) (Str.ofString "value") := by
  obtain ⟨fd, F⟩ := T.d_BadNumber___init__
  have sc : FnScope ["self", "value"] ["self", "value"] (defScope st_BadNumber___init__) := ⟨rfl, rfl, rfl, by decide +kernel, rfl, by decide +kernel, by decide +kernel⟩
  exact ⟨T.ox_BadNumber, T.no_BadNumber_value, _, fd, T.it_BadNumber.1, T.it_BadNumber.2, ini_ok F sc rfl rfl (by decide) (by decide), F.bindsN fun _ _ _ _ _ _ us hl => match us, hl with | [_, _], _ => rfl⟩
theorem x1_BadWord : Ex1 P w K mg base (He.ga K (Str.ofString "BadWord")) (Str.ofString "index") := by
  obtain ⟨fd, F⟩ := T.d_BadWord___init__
  have sc : FnScope ["self", "index"] ["self", "index"] (defScope st_BadWord___init__) := ⟨rfl, rfl, rfl, by decide +kernel, rfl, by decide +kernel, by decide +kernel⟩
  exact ⟨T.ox_BadWord, T.no_BadWord_index, _, fd, T.it_BadWord.1, T.it_BadWord.2, ini_ok F sc rfl rfl (by decide) (by decide), F.bindsN fun _ _ _ _ _ _ us hl => match us, hl with | [_, _], _ => rfl⟩
theorem first_Turn___mul__ : ∀ C sp, (tbs [((ca K).Turn, sp_Turn___mul__ (ca K))]) C = some sp → PySem.W.selfFirst K C = true := by
  intro C sp h
  obtain rfl := tbs1 h
  exact T.sf_Turn
theorem O_common_divisor : ∃ fd, GOk P w K mg base 1 (He.ga K (Str.ofString "common_divisor")) fd ["one", "other"] (LSp K (sp_common_divisor (ca K))) ∧ Binds K fd ["one", "other"] [] := by
  obtain ⟨fd, F⟩ := T.d_common_divisor
  have sc : FnScope ["one", "other"] ["one", "other"] (defScope st_common_divisor) := ⟨rfl, rfl, rfl, by decide +kernel, rfl, by decide +kernel, by decide +kernel⟩
  refine ⟨fd, fn_ok F sc (b_common_divisor (ca K)) (len_common_divisor (ca K)) (fun cdv hcv A outer s H E B X hr tk => ?_) (vc_common_divisor (ca K) (ca_ok T)), F.bindsN fun _ _ _ _ _ _ us hl => match us, hl with | [_, _], _ => rfl⟩
  exact (gss_cons (gs_par2 0 1 sc.nd (ga_cons (ge_blt lc_abs T.n_abs (by decide +kernel) (ga_cons (ge_var 0) ga_nil)) (ga_cons (ge_blt lc_abs T.n_abs (by decide +kernel) (ga_cons (ge_var 1) ga_nil)) ga_nil)) rfl)
    (gss_cons (gs_while (passes_of rfl) (gt_cmp lo_gt (ge_var 1) ge_int (nomark _)) (gss_one (gs_par2 0 1 sc.nd (ga_cons (ge_var 1) (ga_cons (ge_bin lo_mod (ge_var 0) (ge_var 1)) ga_nil)) rfl)))
    (gss_one (gs_ret (ge_var 0)))))
theorem G_common_divisor : GFn P w K mg base 1 (He.ga K (Str.ofString "common_divisor")) (sp_common_divisor (ca K)) := by
  obtain ⟨fd, F, b⟩ := O_common_divisor T
  exact gfn F b
theorem O_is_integer : ∃ fd, GOk P w K mg base 1 (He.ga K (Str.ofString "is_integer")) fd ["value"] (LSp K (sp_is_integer (ca K))) ∧ Binds K fd ["value"] [] := by
  obtain ⟨fd, F⟩ := T.d_is_integer
  have sc : FnScope ["value"] ["value"] (defScope st_is_integer) := ⟨rfl, rfl, rfl, by decide +kernel, rfl, by decide +kernel, by decide +kernel⟩
  refine ⟨fd, fn_ok F sc (b_is_integer (ca K)) (len_is_integer (ca K)) (fun cdv hcv A outer s H E B X hr tk => ?_) (vc_is_integer (ca K) (ca_ok T)), F.bindsN fun _ _ _ _ _ _ us hl => match us, hl with | [_], _ => rfl⟩
  exact (gss_one (gs_ret (ge_and (ge_blt (lc_isi (.ty "int") ty_inj (isiB_ok (by decide) (i_int T))) T.n_isinstance (by decide +kernel) (ga_cons (ge_var 0) (ga_cons (ge_bty T.n_int (by decide +kernel)) ga_nil))) (ge_one (ge_not (ge_blt (lc_isi (.ty "bool") ty_inj (isiB_ok (by decide) (i_bool T))) T.n_isinstance (by decide +kernel) (ga_cons (ge_var 0) (ga_cons (ge_bty T.n_bool (by decide +kernel)) ga_nil))))))))
theorem G_is_integer : GFn P w K mg base 1 (He.ga K (Str.ofString "is_integer")) (sp_is_integer (ca K)) := by
  obtain ⟨fd, F, b⟩ := O_is_integer T
  exact gfn F b
theorem O_is_pair : ∃ fd, GOk P w K mg base 5 (He.ga K (Str.ofString "is_pair")) fd ["value"] (LSp K (sp_is_pair (ca K))) ∧ Binds K fd ["value"] [] := by
  obtain ⟨fd, F⟩ := T.d_is_pair
  have sc : FnScope ["value"] ["value"] (defScope st_is_pair) := ⟨rfl, rfl, rfl, by decide +kernel, rfl, by decide +kernel, by decide +kernel⟩
  refine ⟨fd, fn_ok F sc (b_is_pair (ca K)) (len_is_pair (ca K)) (fun cdv hcv A outer s H E B X hr tk => ?_) (vc_is_pair (ca K) (ca_ok T)), F.bindsN fun _ _ _ _ _ _ us hl => match us, hl with | [_], _ => rfl⟩
  exact (gss_one (gs_ret (ge_and (ge_blt (lc_isi (.ty "tuple") ty_inj (isiB_ok (by decide) (i_tuple T))) T.n_isinstance (by decide +kernel) (ga_cons (ge_var 0) (ga_cons (ge_bty T.n_tuple (by decide +kernel)) ga_nil))) (ge_and (ge_cmp (lo_eq hr.units) (ge_blt lc_len T.n_len (by decide +kernel) (ga_cons (ge_var 0) ga_nil)) ge_int (nomark _)) (ge_and (ge_call (G_is_integer T) (hr.mono (by decide)) tk T.g_is_integer.1 T.g_is_integer.2 (ga_cons (ge_ix (ge_var 0) ge_int) ga_nil)) (ge_one (ge_call (G_is_integer T) (hr.mono (by decide)) tk T.g_is_integer.1 T.g_is_integer.2 (ga_cons (ge_ix (ge_var 0) ge_int) ga_nil))))))))
theorem G_is_pair : GFn P w K mg base 5 (He.ga K (Str.ofString "is_pair")) (sp_is_pair (ca K)) := by
  obtain ⟨fd, F, b⟩ := O_is_pair T
  exact gfn F b
theorem O_is_fraction : ∃ fd, GOk P w K mg base 9 (He.ga K (Str.ofString "is_fraction")) fd ["value"] (LSp K (sp_is_fraction (ca K))) ∧ Binds K fd ["value"] [] := by
  obtain ⟨fd, F⟩ := T.d_is_fraction
  have sc : FnScope ["value"] ["value"] (defScope st_is_fraction) := ⟨rfl, rfl, rfl, by decide +kernel, rfl, by decide +kernel, by decide +kernel⟩
  refine ⟨fd, fn_ok F sc (b_is_fraction (ca K)) (len_is_fraction (ca K)) (fun cdv hcv A outer s H E B X hr tk => ?_) (vc_is_fraction (ca K) (ca_ok T)), F.bindsN fun _ _ _ _ _ _ us hl => match us, hl with | [_], _ => rfl⟩
  exact (gss_cons (gs_if (gt_not (gt_truth (ge_call (G_is_pair T) (hr.mono (by decide)) tk T.g_is_pair.1 T.g_is_pair.2 (ga_cons (ge_var 0) ga_nil)))) (gss_one (gs_ret ge_bl)) gss_nil)
    (gss_one (gs_ret (ge_or (ge_cmp (lo_eq hr.units) (ge_var 0) (ge_tup (ga_cons ge_int (ga_cons ge_int ga_nil))) (nomark _)) (ge_one (ge_and (ge_cmp lo_gt (ge_ix (ge_var 0) ge_int) ge_int (nomark _)) (ge_one (ge_cmp (lo_eq hr.units) (ge_call (G_common_divisor T) (hr.mono (by decide)) tk T.g_common_divisor.1 T.g_common_divisor.2 (ga_cons (ge_ix (ge_var 0) ge_int) (ga_cons (ge_ix (ge_var 0) ge_int) ga_nil))) ge_int (nomark _)))))))))
theorem G_is_fraction : GFn P w K mg base 9 (He.ga K (Str.ofString "is_fraction")) (sp_is_fraction (ca K)) := by
  obtain ⟨fd, F, b⟩ := O_is_fraction T
  exact gfn F b
theorem O_need_fraction : ∃ fd, GOk P w K mg base 13 (He.ga K (Str.ofString "need_fraction")) fd ["fraction"] (LSp K (sp_need_fraction (ca K))) ∧ Binds K fd ["fraction"] [] := by
  obtain ⟨fd, F⟩ := T.d_need_fraction
  have sc : FnScope ["fraction"] ["fraction"] (defScope st_need_fraction) := ⟨rfl, rfl, rfl, by decide +kernel, rfl, by decide +kernel, by decide +kernel⟩
  refine ⟨fd, fn_ok F sc (b_need_fraction (ca K)) (len_need_fraction (ca K)) (fun cdv hcv A outer s H E B X hr tk => ?_) (vc_need_fraction (ca K) (ca_ok T)), F.bindsN fun _ _ _ _ _ _ us hl => match us, hl with | [_], _ => rfl⟩
  exact (gss_one (gs_if (gt_not (gt_truth (ge_call (G_is_fraction T) (hr.mono (by decide)) tk T.g_is_fraction.1 T.g_is_fraction.2 (ga_cons (ge_var 0) ga_nil)))) (gss_one (gs_raise0 T.x0_BadFraction tk T.g_BadFraction.1)) gss_nil))
theorem G_need_fraction : GFn P w K mg base 13 (He.ga K (Str.ofString "need_fraction")) (sp_need_fraction (ca K)) := by
  obtain ⟨fd, F, b⟩ := O_need_fraction T
  exact gfn F b
theorem O_taken_to : ∃ fd, GOk P w K mg base 1 (He.ga K (Str.ofString "taken_to")) fd ["matrix", "fraction"] (LSp K (sp_taken_to (ca K))) ∧ Binds K fd ["matrix", "fraction"] [] := by
  obtain ⟨fd, F⟩ := T.d_taken_to
  have sc : FnScope ["matrix", "fraction", "a", "b", "c", "d", "p", "q", "above", "below"] ["matrix", "fraction"] (defScope st_taken_to) := ⟨rfl, rfl, rfl, by decide +kernel, rfl, by decide +kernel, by decide +kernel⟩
  refine ⟨fd, fn_ok F sc (b_taken_to (ca K)) (len_taken_to (ca K)) (fun cdv hcv A outer s H E B X hr tk => ?_) (vc_taken_to (ca K) (ca_ok T)), F.bindsN fun _ _ _ _ _ _ us hl => match us, hl with | [_, _], _ => rfl⟩
  exact (gss_cons (gs_asg (ge_var 0) (gg_pat (gp_tup (gps_cons (gp_tup (gps_cons (gp_name 2 sc.nd) (gps_cons (gp_name 3 sc.nd) gps_nil))) (gps_cons (gp_tup (gps_cons (gp_name 4 sc.nd) (gps_cons (gp_name 5 sc.nd) gps_nil))) gps_nil)))))
    (gss_cons (gs_asg (ge_var 1) (gg_pat (gp_tup (gps_cons (gp_name 6 sc.nd) (gps_cons (gp_name 7 sc.nd) gps_nil)))))
    (gss_cons (gs_par2 8 9 sc.nd (ga_cons (ge_bin lo_add (ge_bin lo_mul (ge_var 2) (ge_var 6)) (ge_bin lo_mul (ge_var 3) (ge_var 7))) (ga_cons (ge_bin lo_add (ge_bin lo_mul (ge_var 4) (ge_var 6)) (ge_bin lo_mul (ge_var 5) (ge_var 7))) ga_nil)) rfl)
    (gss_one (gs_ret (ge_if (gt_w (gw_or (gt_cmp lo_gt (ge_var 9) ge_int (nomark _)) (gw_or1 (gt_w (gw_and (gt_cmp (lo_eq hr.units) (ge_var 9) ge_int (nomark _)) (gw_and1 (gt_cmp lo_gt (ge_var 8) ge_int (nomark _)))))))) (ge_tup (ga_cons (ge_var 8) (ga_cons (ge_var 9) ga_nil))) (ge_tup (ga_cons (ge_un lo_neg (ge_var 8)) (ga_cons (ge_un lo_neg (ge_var 9)) ga_nil)))))))))
theorem G_taken_to : GFn P w K mg base 1 (He.ga K (Str.ofString "taken_to")) (sp_taken_to (ca K)) := by
  obtain ⟨fd, F, b⟩ := O_taken_to T
  exact gfn F b
theorem O_Turn___call__ : ∃ fd, GOk P w K mg base 17 (He.ma K (He.ga K (Str.ofString "Turn")) (Str.ofString "__call__")) fd ["self", "fraction"] (LSp K (sp_Turn___call__ (ca K))) ∧ Binds K fd ["self", "fraction"] [] := by
  obtain ⟨fd, F⟩ := T.d_Turn___call__
  have sc : FnScope ["self", "fraction"] ["self", "fraction"] (defScope st_Turn___call__) := ⟨rfl, rfl, rfl, by decide +kernel, rfl, by decide +kernel, by decide +kernel⟩
  refine ⟨fd, fn_ok F sc (b_Turn___call__ (ca K)) (len_Turn___call__ (ca K)) (fun cdv hcv A outer s H E B X hr tk => ?_) (vc_Turn___call__ (ca K) (ca_ok T)), F.bindsN fun _ _ _ _ _ _ us hl => match us, hl with | [_, _], _ => rfl⟩
  exact (gss_cons (gs_expr (ge_call (G_need_fraction T) (hr.mono (by decide)) tk T.g_need_fraction.1 T.g_need_fraction.2 (ga_cons (ge_var 1) ga_nil)))
    (gss_one (gs_ret (ge_call (G_taken_to T) (hr.mono (by decide)) tk T.g_taken_to.1 T.g_taken_to.2 (ga_cons (ge_fld (f_held T) (ge_var 0)) (ga_cons (ge_var 1) ga_nil))))))
theorem G_Turn___call__ : GFn P w K mg base 17 (He.ma K (He.ga K (Str.ofString "Turn")) (Str.ofString "__call__")) (sp_Turn___call__ (ca K)) := by
  obtain ⟨fd, F, b⟩ := O_Turn___call__ T
  exact gfn F b
theorem O_is_unit : ∃ fd, GOk P w K mg base 9 (He.ga K (Str.ofString "is_unit")) fd ["value"] (LSp K (sp_is_unit (ca K))) ∧ Binds K fd ["value"] [] := by
  obtain ⟨fd, F⟩ := T.d_is_unit
  have sc : FnScope ["value", "a", "b", "c", "d"] ["value"] (defScope st_is_unit) := ⟨rfl, rfl, rfl, by decide +kernel, rfl, by decide +kernel, by decide +kernel⟩
  refine ⟨fd, fn_ok F sc (b_is_unit (ca K)) (len_is_unit (ca K)) (fun cdv hcv A outer s H E B X hr tk => ?_) (vc_is_unit (ca K) (ca_ok T)), F.bindsN fun _ _ _ _ _ _ us hl => match us, hl with | [_], _ => rfl⟩
  exact (gss_cons (gs_if (gt_w (gw_or (gt_not (gt_truth (ge_blt (lc_isi (.ty "tuple") ty_inj (isiB_ok (by decide) (i_tuple T))) T.n_isinstance (by decide +kernel) (ga_cons (ge_var 0) (ga_cons (ge_bty T.n_tuple (by decide +kernel)) ga_nil))))) (gw_or (gt_cmp (lo_ne hr.units) (ge_blt lc_len T.n_len (by decide +kernel) (ga_cons (ge_var 0) ga_nil)) ge_int (nomark _)) (gw_or (gt_not (gt_truth (ge_call (G_is_pair T) (hr.mono (by decide)) tk T.g_is_pair.1 T.g_is_pair.2 (ga_cons (ge_ix (ge_var 0) ge_int) ga_nil)))) (gw_or1 (gt_not (gt_truth (ge_call (G_is_pair T) (hr.mono (by decide)) tk T.g_is_pair.1 T.g_is_pair.2 (ga_cons (ge_ix (ge_var 0) ge_int) ga_nil))))))))) (gss_one (gs_ret ge_bl)) gss_nil)
    (gss_cons (gs_asg (ge_var 0) (gg_pat (gp_tup (gps_cons (gp_tup (gps_cons (gp_name 1 sc.nd) (gps_cons (gp_name 2 sc.nd) gps_nil))) (gps_cons (gp_tup (gps_cons (gp_name 3 sc.nd) (gps_cons (gp_name 4 sc.nd) gps_nil))) gps_nil)))))
    (gss_one (gs_ret (ge_cmp (lo_eq hr.units) (ge_bin lo_sub (ge_bin lo_mul (ge_var 1) (ge_var 4)) (ge_bin lo_mul (ge_var 2) (ge_var 3))) ge_int (nomark _))))))
theorem G_is_unit : GFn P w K mg base 9 (He.ga K (Str.ofString "is_unit")) (sp_is_unit (ca K)) := by
  obtain ⟨fd, F, b⟩ := O_is_unit T
  exact gfn F b
theorem O_normal_of : ∃ fd, GOk P w K mg base 1 (He.ga K (Str.ofString "normal_of")) fd ["rows"] (LSp K (sp_normal_of (ca K))) ∧ Binds K fd ["rows"] [] := by
  obtain ⟨fd, F⟩ := T.d_normal_of
  have sc : FnScope ["rows", "a", "b", "c", "d"] ["rows"] (defScope st_normal_of) := ⟨rfl, rfl, rfl, by decide +kernel, rfl, by decide +kernel, by decide +kernel⟩
  refine ⟨fd, fn_ok F sc (b_normal_of (ca K)) (len_normal_of (ca K)) (fun cdv hcv A outer s H E B X hr tk => ?_) (vc_normal_of (ca K) (ca_ok T)), F.bindsN fun _ _ _ _ _ _ us hl => match us, hl with | [_], _ => rfl⟩
  exact (gss_cons (gs_asg (ge_var 0) (gg_pat (gp_tup (gps_cons (gp_tup (gps_cons (gp_name 1 sc.nd) (gps_cons (gp_name 2 sc.nd) gps_nil))) (gps_cons (gp_tup (gps_cons (gp_name 3 sc.nd) (gps_cons (gp_name 4 sc.nd) gps_nil))) gps_nil)))))
    (gss_cons (gs_if (gt_w (gw_or (gt_cmp lo_gt (ge_var 3) ge_int (nomark _)) (gw_or1 (gt_w (gw_and (gt_cmp (lo_eq hr.units) (ge_var 3) ge_int (nomark _)) (gw_and1 (gt_cmp lo_gt (ge_var 1) ge_int (nomark _)))))))) (gss_one (gs_ret (ge_tup (ga_cons (ge_tup (ga_cons (ge_var 1) (ga_cons (ge_var 2) ga_nil))) (ga_cons (ge_tup (ga_cons (ge_var 3) (ga_cons (ge_var 4) ga_nil))) ga_nil))))) gss_nil)
    (gss_one (gs_ret (ge_tup (ga_cons (ge_tup (ga_cons (ge_un lo_neg (ge_var 1)) (ga_cons (ge_un lo_neg (ge_var 2)) ga_nil))) (ga_cons (ge_tup (ga_cons (ge_un lo_neg (ge_var 3)) (ga_cons (ge_un lo_neg (ge_var 4)) ga_nil))) ga_nil)))))))
theorem G_normal_of : GFn P w K mg base 1 (He.ga K (Str.ofString "normal_of")) (sp_normal_of (ca K)) := by
  obtain ⟨fd, F, b⟩ := O_normal_of T
  exact gfn F b
theorem O_is_matrix : ∃ fd, GOk P w K mg base 13 (He.ga K (Str.ofString "is_matrix")) fd ["value"] (LSp K (sp_is_matrix (ca K))) ∧ Binds K fd ["value"] [] := by
  obtain ⟨fd, F⟩ := T.d_is_matrix
  have sc : FnScope ["value"] ["value"] (defScope st_is_matrix) := ⟨rfl, rfl, rfl, by decide +kernel, rfl, by decide +kernel, by decide +kernel⟩
  refine ⟨fd, fn_ok F sc (b_is_matrix (ca K)) (len_is_matrix (ca K)) (fun cdv hcv A outer s H E B X hr tk => ?_) (vc_is_matrix (ca K) (ca_ok T)), F.bindsN fun _ _ _ _ _ _ us hl => match us, hl with | [_], _ => rfl⟩
  exact (gss_one (gs_ret (ge_and (ge_call (G_is_unit T) (hr.mono (by decide)) tk T.g_is_unit.1 T.g_is_unit.2 (ga_cons (ge_var 0) ga_nil)) (ge_one (ge_cmp (lo_eq hr.units) (ge_var 0) (ge_call (G_normal_of T) (hr.mono (by decide)) tk T.g_normal_of.1 T.g_normal_of.2 (ga_cons (ge_var 0) ga_nil)) (nomark _))))))
theorem G_is_matrix : GFn P w K mg base 13 (He.ga K (Str.ofString "is_matrix")) (sp_is_matrix (ca K)) := by
  obtain ⟨fd, F, b⟩ := O_is_matrix T
  exact gfn F b
theorem O_need_matrix : ∃ fd, GOk P w K mg base 17 (He.ga K (Str.ofString "need_matrix")) fd ["matrix"] (LSp K (sp_need_matrix (ca K))) ∧ Binds K fd ["matrix"] [] := by
  obtain ⟨fd, F⟩ := T.d_need_matrix
  have sc : FnScope ["matrix"] ["matrix"] (defScope st_need_matrix) := ⟨rfl, rfl, rfl, by decide +kernel, rfl, by decide +kernel, by decide +kernel⟩
  refine ⟨fd, fn_ok F sc (b_need_matrix (ca K)) (len_need_matrix (ca K)) (fun cdv hcv A outer s H E B X hr tk => ?_) (vc_need_matrix (ca K) (ca_ok T)), F.bindsN fun _ _ _ _ _ _ us hl => match us, hl with | [_], _ => rfl⟩
  exact (gss_one (gs_if (gt_not (gt_truth (ge_call (G_is_matrix T) (hr.mono (by decide)) tk T.g_is_matrix.1 T.g_is_matrix.2 (ga_cons (ge_var 0) ga_nil)))) (gss_one (gs_raise0 T.x0_BadMatrix tk T.g_BadMatrix.1)) gss_nil))
theorem G_need_matrix : GFn P w K mg base 17 (He.ga K (Str.ofString "need_matrix")) (sp_need_matrix (ca K)) := by
  obtain ⟨fd, F, b⟩ := O_need_matrix T
  exact gfn F b
theorem O_Turn___init__ : ∃ fd, GOk P w K mg base 21 (He.ma K (He.ga K (Str.ofString "Turn")) (Str.ofString "__init__")) fd ["self", "matrix"] (LSp K (sp_Turn___init__ (ca K))) ∧ Binds K fd ["self", "matrix"] [] := by
  obtain ⟨fd, F⟩ := T.d_Turn___init__
  have sc : FnScope ["self", "matrix"] ["self", "matrix"] (defScope st_Turn___init__) := ⟨rfl, rfl, rfl, by decide +kernel, rfl, by decide +kernel, by decide +kernel⟩
  refine ⟨fd, fn_ok F sc (b_Turn___init__ (ca K)) (len_Turn___init__ (ca K)) (fun cdv hcv A outer s H E B X hr tk => ?_) (vc_Turn___init__ (ca K) (ca_ok T)), F.bindsN fun _ _ _ _ _ _ us hl => match us, hl with | [_, _], _ => rfl⟩
  exact (gss_cons (gs_expr (ge_call (G_need_matrix T) (hr.mono (by decide)) tk T.g_need_matrix.1 T.g_need_matrix.2 (ga_cons (ge_var 1) ga_nil)))
    (gss_one (gs_fld (f_held T) (ge_var 0) (ge_var 1))))
theorem G_Turn___init__ : GFn P w K mg base 21 (He.ma K (He.ga K (Str.ofString "Turn")) (Str.ofString "__init__")) (sp_Turn___init__ (ca K)) := by
  obtain ⟨fd, F, b⟩ := O_Turn___init__ T
  exact gfn F b
theorem O_inverse_of : ∃ fd, GOk P w K mg base 5 (He.ga K (Str.ofString "inverse_of")) fd ["matrix"] (LSp K (sp_inverse_of (ca K))) ∧ Binds K fd ["matrix"] [] := by
  obtain ⟨fd, F⟩ := T.d_inverse_of
  have sc : FnScope ["matrix", "a", "b", "c", "d"] ["matrix"] (defScope st_inverse_of) := ⟨rfl, rfl, rfl, by decide +kernel, rfl, by decide +kernel, by decide +kernel⟩
  refine ⟨fd, fn_ok F sc (b_inverse_of (ca K)) (len_inverse_of (ca K)) (fun cdv hcv A outer s H E B X hr tk => ?_) (vc_inverse_of (ca K) (ca_ok T)), F.bindsN fun _ _ _ _ _ _ us hl => match us, hl with | [_], _ => rfl⟩
  exact (gss_cons (gs_asg (ge_var 0) (gg_pat (gp_tup (gps_cons (gp_tup (gps_cons (gp_name 1 sc.nd) (gps_cons (gp_name 2 sc.nd) gps_nil))) (gps_cons (gp_tup (gps_cons (gp_name 3 sc.nd) (gps_cons (gp_name 4 sc.nd) gps_nil))) gps_nil)))))
    (gss_one (gs_ret (ge_call (G_normal_of T) (hr.mono (by decide)) tk T.g_normal_of.1 T.g_normal_of.2 (ga_cons (ge_tup (ga_cons (ge_tup (ga_cons (ge_var 4) (ga_cons (ge_un lo_neg (ge_var 2)) ga_nil))) (ga_cons (ge_tup (ga_cons (ge_un lo_neg (ge_var 3)) (ga_cons (ge_var 1) ga_nil))) ga_nil))) ga_nil)))))
theorem G_inverse_of : GFn P w K mg base 5 (He.ga K (Str.ofString "inverse_of")) (sp_inverse_of (ca K)) := by
  obtain ⟨fd, F, b⟩ := O_inverse_of T
  exact gfn F b
theorem O_times : ∃ fd, GOk P w K mg base 5 (He.ga K (Str.ofString "times")) fd ["one", "other"] (LSp K (sp_times (ca K))) ∧ Binds K fd ["one", "other"] [] := by
  obtain ⟨fd, F⟩ := T.d_times
  have sc : FnScope ["one", "other", "a", "b", "c", "d", "p", "q", "u", "v"] ["one", "other"] (defScope st_times) := ⟨rfl, rfl, rfl, by decide +kernel, rfl, by decide +kernel, by decide +kernel⟩
  refine ⟨fd, fn_ok F sc (b_times (ca K)) (len_times (ca K)) (fun cdv hcv A outer s H E B X hr tk => ?_) (vc_times (ca K) (ca_ok T)), F.bindsN fun _ _ _ _ _ _ us hl => match us, hl with | [_, _], _ => rfl⟩
  exact (gss_cons (gs_asg (ge_var 0) (gg_pat (gp_tup (gps_cons (gp_tup (gps_cons (gp_name 2 sc.nd) (gps_cons (gp_name 3 sc.nd) gps_nil))) (gps_cons (gp_tup (gps_cons (gp_name 4 sc.nd) (gps_cons (gp_name 5 sc.nd) gps_nil))) gps_nil)))))
    (gss_cons (gs_asg (ge_var 1) (gg_pat (gp_tup (gps_cons (gp_tup (gps_cons (gp_name 6 sc.nd) (gps_cons (gp_name 7 sc.nd) gps_nil))) (gps_cons (gp_tup (gps_cons (gp_name 8 sc.nd) (gps_cons (gp_name 9 sc.nd) gps_nil))) gps_nil)))))
    (gss_one (gs_ret (ge_call (G_normal_of T) (hr.mono (by decide)) tk T.g_normal_of.1 T.g_normal_of.2 (ga_cons (ge_tup (ga_cons (ge_tup (ga_cons (ge_bin lo_add (ge_bin lo_mul (ge_var 2) (ge_var 6)) (ge_bin lo_mul (ge_var 3) (ge_var 8))) (ga_cons (ge_bin lo_add (ge_bin lo_mul (ge_var 2) (ge_var 7)) (ge_bin lo_mul (ge_var 3) (ge_var 9))) ga_nil))) (ga_cons (ge_tup (ga_cons (ge_bin lo_add (ge_bin lo_mul (ge_var 4) (ge_var 6)) (ge_bin lo_mul (ge_var 5) (ge_var 8))) (ga_cons (ge_bin lo_add (ge_bin lo_mul (ge_var 4) (ge_var 7)) (ge_bin lo_mul (ge_var 5) (ge_var 9))) ga_nil))) ga_nil))) ga_nil))))))
theorem G_times : GFn P w K mg base 5 (He.ga K (Str.ofString "times")) (sp_times (ca K)) := by
  obtain ⟨fd, F, b⟩ := O_times T
  exact gfn F b
theorem O_power_of : ∃ fd, GOk P w K mg base 9 (He.ga K (Str.ofString "power_of")) fd ["matrix", "exponent"] (LSp K (sp_power_of (ca K))) ∧ Binds K fd ["matrix", "exponent"] [] := by
  obtain ⟨fd, F⟩ := T.d_power_of
  have sc : FnScope ["matrix", "exponent", "found", "factor"] ["matrix", "exponent"] (defScope st_power_of) := ⟨rfl, rfl, rfl, by decide +kernel, rfl, by decide +kernel, by decide +kernel⟩
  refine ⟨fd, fn_ok F sc (b_power_of (ca K)) (len_power_of (ca K)) (fun cdv hcv A outer s H E B X hr tk => ?_) (vc_power_of (ca K) (ca_ok T)), F.bindsN fun _ _ _ _ _ _ us hl => match us, hl with | [_, _], _ => rfl⟩
  exact (gss_cons (gs_par2 2 3 sc.nd (ga_cons (ge_glob (T.v_IDENTITY).choose_spec.1 (T.v_IDENTITY).choose_spec.2) (ga_cons (ge_var 0) ga_nil)) rfl)
    (gss_cons (gs_while (passes_of rfl) (gt_cmp lo_gt (ge_var 1) ge_int (nomark _)) (gss_cons (gs_if (gt_cmp (lo_eq hr.units) (ge_bin lo_mod (ge_var 1) ge_int) ge_int (nomark _)) (gss_one (gs_set 2 sc.nd (ge_call (G_times T) (hr.mono (by decide)) tk T.g_times.1 T.g_times.2 (ga_cons (ge_var 2) (ga_cons (ge_var 3) ga_nil))))) gss_nil)
    (gss_cons (gs_set 3 sc.nd (ge_call (G_times T) (hr.mono (by decide)) tk T.g_times.1 T.g_times.2 (ga_cons (ge_var 3) (ga_cons (ge_var 3) ga_nil))))
    (gss_one (gs_set 1 sc.nd (ge_bin lo_fdiv (ge_var 1) ge_int))))))
    (gss_one (gs_ret (ge_var 2)))))
theorem G_power_of : GFn P w K mg base 9 (He.ga K (Str.ofString "power_of")) (sp_power_of (ca K)) := by
  obtain ⟨fd, F, b⟩ := O_power_of T
  exact gfn F b
theorem O_Turn_raised : ∃ fd, GOk P w K mg base 25 (He.ma K (He.ga K (Str.ofString "Turn")) (Str.ofString "raised")) fd ["self", "exponent"] (LSp K (sp_Turn_raised (ca K))) ∧ Binds K fd ["self", "exponent"] [] := by
  obtain ⟨fd, F⟩ := T.d_Turn_raised
  have sc : FnScope ["self", "exponent"] ["self", "exponent"] (defScope st_Turn_raised) := ⟨rfl, rfl, rfl, by decide +kernel, rfl, by decide +kernel, by decide +kernel⟩
  refine ⟨fd, fn_ok F sc (b_Turn_raised (ca K)) (len_Turn_raised (ca K)) (fun cdv hcv A outer s H E B X hr tk => ?_) (vc_Turn_raised (ca K) (ca_ok T)), F.bindsN fun _ _ _ _ _ _ us hl => match us, hl with | [_, _], _ => rfl⟩
  exact (gss_cons (gs_if (gt_w (gw_or (gt_not (gt_truth (ge_call (G_is_integer T) (hr.mono (by decide)) tk T.g_is_integer.1 T.g_is_integer.2 (ga_cons (ge_var 1) ga_nil)))) (gw_or1 (gt_not (gt_chain lo_le lo_le (ge_un lo_neg (ge_con (kc_Turn_MOST_EXPONENT T) (ge_var 0))) (ge_var 1) (ge_con (kc_Turn_MOST_EXPONENT T) (ge_var 0))))))) (gss_one (gs_raise1 (k := 0) (x1_BadNumber T) (hr.mono (by decide)) tk T.g_BadNumber.1 (ge_var 1))) gss_nil)
    (gss_one (gs_ret (ge_make T.mk_Turn (G_Turn___init__ T) (hr.mono (by decide)) tk T.g_Turn.1 (ga_cons (ge_call (G_power_of T) (hr.mono (by decide)) tk T.g_power_of.1 T.g_power_of.2 (ga_cons (ge_if (gt_cmp lo_ge (ge_var 1) ge_int (nomark _)) (ge_fld (f_held T) (ge_var 0)) (ge_call (G_inverse_of T) (hr.mono (by decide)) tk T.g_inverse_of.1 T.g_inverse_of.2 (ga_cons (ge_fld (f_held T) (ge_var 0)) ga_nil))) (ga_cons (ge_blt lc_abs T.n_abs (by decide +kernel) (ga_cons (ge_var 1) ga_nil)) ga_nil))) ga_nil)))))
theorem G_Turn_raised : GFn P w K mg base 25 (He.ma K (He.ga K (Str.ofString "Turn")) (Str.ofString "raised")) (sp_Turn_raised (ca K)) := by
  obtain ⟨fd, F, b⟩ := O_Turn_raised T
  exact gfn F b
theorem O_Turn_rows : ∃ fd, GOk P w K mg base 1 (getr K (Str.ofString "Turn") (Str.ofString "rows")) fd ["self"] (LSp K (sp_Turn_rows (ca K))) ∧ Binds K fd ["self"] [] := by
  obtain ⟨fd, F⟩ := T.d_Turn_rows
  have sc : FnScope ["self"] ["self"] (defScope st_Turn_rows) := ⟨rfl, rfl, rfl, by decide +kernel, rfl, by decide +kernel, by decide +kernel⟩
  refine ⟨fd, fn_ok F sc (b_Turn_rows (ca K)) (len_Turn_rows (ca K)) (fun cdv hcv A outer s H E B X hr tk => ?_) (vc_Turn_rows (ca K) (ca_ok T)), F.bindsN fun _ _ _ _ _ _ us hl => match us, hl with | [_], _ => rfl⟩
  exact (gss_one (gs_ret (ge_fld (f_held T) (ge_var 0))))
theorem G_Turn_rows : GFn P w K mg base 1 (getr K (Str.ofString "Turn") (Str.ofString "rows")) (sp_Turn_rows (ca K)) := by
  obtain ⟨fd, F, b⟩ := O_Turn_rows T
  exact gfn F b
theorem O_Turn___invert__ : ∃ fd, GOk P w K mg base 25 (He.ma K (He.ga K (Str.ofString "Turn")) (Str.ofString "__invert__")) fd ["self"] (LSp K (sp_Turn___invert__ (ca K))) ∧ Binds K fd ["self"] [] := by
  obtain ⟨fd, F⟩ := T.d_Turn___invert__
  have sc : FnScope ["self"] ["self"] (defScope st_Turn___invert__) := ⟨rfl, rfl, rfl, by decide +kernel, rfl, by decide +kernel, by decide +kernel⟩
  refine ⟨fd, fn_ok F sc (b_Turn___invert__ (ca K)) (len_Turn___invert__ (ca K)) (fun cdv hcv A outer s H E B X hr tk => ?_) (vc_Turn___invert__ (ca K) (ca_ok T)), F.bindsN fun _ _ _ _ _ _ us hl => match us, hl with | [_], _ => rfl⟩
  exact (gss_one (gs_ret (ge_make T.mk_Turn (G_Turn___init__ T) (hr.mono (by decide)) tk T.g_Turn.1 (ga_cons (ge_call (G_inverse_of T) (hr.mono (by decide)) tk T.g_inverse_of.1 T.g_inverse_of.2 (ga_cons (ge_fld (f_held T) (ge_var 0)) ga_nil)) ga_nil))))
theorem G_Turn___invert__ : GFn P w K mg base 25 (He.ma K (He.ga K (Str.ofString "Turn")) (Str.ofString "__invert__")) (sp_Turn___invert__ (ca K)) := by
  obtain ⟨fd, F, b⟩ := O_Turn___invert__ T
  exact gfn F b
theorem O_Turn___mul__ : ∃ fd, GOk P w K mg base 25 (He.ma K (He.ga K (Str.ofString "Turn")) (Str.ofString "__mul__")) fd ["self", "other"] (LSp K (sp_Turn___mul__ (ca K))) ∧ Binds K fd ["self", "other"] [] := by
  obtain ⟨fd, F⟩ := T.d_Turn___mul__
  have sc : FnScope ["self", "other"] ["self", "other"] (defScope st_Turn___mul__) := ⟨rfl, rfl, rfl, by decide +kernel, rfl, by decide +kernel, by decide +kernel⟩
  refine ⟨fd, fn_ok F sc (b_Turn___mul__ (ca K)) (len_Turn___mul__ (ca K)) (fun cdv hcv A outer s H E B X hr tk => ?_) (vc_Turn___mul__ (ca K) (ca_ok T)), F.bindsN fun _ _ _ _ _ _ us hl => match us, hl with | [_, _], _ => rfl⟩
  exact (gss_one (gs_ret (ge_make T.mk_Turn (G_Turn___init__ T) (hr.mono (by decide)) tk T.g_Turn.1 (ga_cons (ge_call (G_times T) (hr.mono (by decide)) tk T.g_times.1 T.g_times.2 (ga_cons (ge_fld (f_held T) (ge_var 0)) (ga_cons (ge_fld (f_held T) (ge_var 1)) ga_nil))) ga_nil))))
theorem G_Turn___mul__ : GFn P w K mg base 25 (He.ma K (He.ga K (Str.ofString "Turn")) (Str.ofString "__mul__")) (sp_Turn___mul__ (ca K)) := by
  obtain ⟨fd, F, b⟩ := O_Turn___mul__ T
  exact gfn F b
theorem O_matrix_of_letter : ∃ fd, GOk P w K mg base 9 (He.ga K (Str.ofString "matrix_of_letter")) fd ["letter"] (LSp K (sp_matrix_of_letter (ca K))) ∧ Binds K fd ["letter"] [] := by
  obtain ⟨fd, F⟩ := T.d_matrix_of_letter
  have sc : FnScope ["letter"] ["letter"] (defScope st_matrix_of_letter) := ⟨rfl, rfl, rfl, by decide +kernel, rfl, by decide +kernel, by decide +kernel⟩
  refine ⟨fd, fn_ok F sc (b_matrix_of_letter (ca K)) (len_matrix_of_letter (ca K)) (fun cdv hcv A outer s H E B X hr tk => ?_) (vc_matrix_of_letter (ca K) (ca_ok T)), F.bindsN fun _ _ _ _ _ _ us hl => match us, hl with | [_], _ => rfl⟩
  exact (gss_cons (gs_if (gt_cmp (lo_eq hr.units) (ge_var 0) (ge_strL (by decide +kernel)) (nomark _)) (gss_one (gs_ret (ge_glob (T.v_S).choose_spec.1 (T.v_S).choose_spec.2))) gss_nil)
    (gss_one (gs_ret (ge_if (gt_cmp (lo_eq hr.units) (ge_var 0) (ge_strL (by decide +kernel)) (nomark _)) (ge_glob (T.v_R).choose_spec.1 (T.v_R).choose_spec.2) (ge_call (G_inverse_of T) (hr.mono (by decide)) tk T.g_inverse_of.1 T.g_inverse_of.2 (ga_cons (ge_glob (T.v_R).choose_spec.1 (T.v_R).choose_spec.2) ga_nil))))))
theorem G_matrix_of_letter : GFn P w K mg base 9 (He.ga K (Str.ofString "matrix_of_letter")) (sp_matrix_of_letter (ca K)) := by
  obtain ⟨fd, F, b⟩ := O_matrix_of_letter T
  exact gfn F b
theorem O_matrix_of_text : ∃ fd, GOk P w K mg base 13 (He.ga K (Str.ofString "matrix_of_text")) fd ["text"] (LSp K (sp_matrix_of_text (ca K))) ∧ Binds K fd ["text"] [] := by
  obtain ⟨fd, F⟩ := T.d_matrix_of_text
  have sc : FnScope ["text", "found", "letter"] ["text"] (defScope st_matrix_of_text) := ⟨rfl, rfl, rfl, by decide +kernel, rfl, by decide +kernel, by decide +kernel⟩
  refine ⟨fd, fn_ok F sc (b_matrix_of_text (ca K)) (len_matrix_of_text (ca K)) (fun cdv hcv A outer s H E B X hr tk => ?_) (vc_matrix_of_text (ca K) (ca_ok T)), F.bindsN fun _ _ _ _ _ _ us hl => match us, hl with | [_], _ => rfl⟩
  exact (gss_cons (gs_set 1 sc.nd (ge_glob (T.v_IDENTITY).choose_spec.1 (T.v_IDENTITY).choose_spec.2))
    (gss_cons (gs_for (passes_of rfl) (gi_str (ge_var 0)) (gg_pat (gp_name 2 sc.nd)) (gss_one (gs_set 1 sc.nd (ge_call (G_times T) (hr.mono (by decide)) tk T.g_times.1 T.g_times.2 (ga_cons (ge_var 1) (ga_cons (ge_call (G_matrix_of_letter T) (hr.mono (by decide)) tk T.g_matrix_of_letter.1 T.g_matrix_of_letter.2 (ga_cons (ge_var 2) ga_nil)) ga_nil))))))
    (gss_one (gs_ret (ge_var 1)))))
theorem G_matrix_of_text : GFn P w K mg base 13 (He.ga K (Str.ofString "matrix_of_text")) (sp_matrix_of_text (ca K)) := by
  obtain ⟨fd, F, b⟩ := O_matrix_of_text T
  exact gfn F b
theorem O_need_word : ∃ fd, GOk P w K mg base 3 (He.ga K (Str.ofString "need_word")) fd ["word"] (LSp K (sp_need_word (ca K))) ∧ Binds K fd ["word"] [] := by
  obtain ⟨fd, F⟩ := T.d_need_word
  have sc : FnScope ["word", "index", "letter"] ["word"] (defScope st_need_word) := ⟨rfl, rfl, rfl, by decide +kernel, rfl, by decide +kernel, by decide +kernel⟩
  refine ⟨fd, fn_ok F sc (b_need_word (ca K)) (len_need_word (ca K)) (fun cdv hcv A outer s H E B X hr tk => ?_) (vc_need_word (ca K) (ca_ok T)), F.bindsN fun _ _ _ _ _ _ us hl => match us, hl with | [_], _ => rfl⟩
  exact (gss_cons (gs_if (gt_w (gw_or (gt_not (gt_truth (ge_blt (lc_isi (.ty "str") ty_inj (isiB_ok (by decide) (i_str T))) T.n_isinstance (by decide +kernel) (ga_cons (ge_var 0) (ga_cons (ge_bty T.n_str (by decide +kernel)) ga_nil))))) (gw_or1 (gt_cmp lo_gt (ge_blt lc_len T.n_len (by decide +kernel) (ga_cons (ge_var 0) ga_nil)) (ge_glob (T.v_MAX_WORD).choose_spec.1 (T.v_MAX_WORD).choose_spec.2) (nomark _))))) (gss_one (gs_raise1 (k := 0) (x1_BadWord T) (hr.mono (by decide)) tk T.g_BadWord.1 ge_non)) gss_nil)
    (gss_one (gs_for (passes_of rfl) (gi_enumS T.n_enumerate (ga_cons (ge_var 0) ga_nil)) (gg_pat (gp_tup (gps_cons (gp_name 1 sc.nd) (gps_cons (gp_name 2 sc.nd) gps_nil)))) (gss_cons (gs_if (gt_cmp lo_notInF (ge_var 2) (ge_tup (ga_cons (ge_strL (by decide +kernel)) (ga_cons (ge_strL (by decide +kernel)) (ga_cons (ge_strL (by decide +kernel)) ga_nil)))) (by rfl)) (gss_one (gs_raise1 (k := 0) (x1_BadWord T) (hr.mono (by decide)) tk T.g_BadWord.1 (ge_var 1))) gss_nil)
    (gss_one (gs_if (gt_w (gw_and (gt_cmp lo_gt (ge_var 1) ge_int (nomark _)) (gw_and1 (gt_cmp (lo_eq hr.units) (ge_cmp (lo_eq hr.units) (ge_var 2) (ge_strL (by decide +kernel)) (nomark _)) (ge_cmp (lo_eq hr.units) (ge_ix (ge_var 0) (ge_bin lo_sub (ge_var 1) ge_int)) (ge_strL (by decide +kernel)) (nomark _)) (nomark _))))) (gss_one (gs_raise1 (k := 0) (x1_BadWord T) (hr.mono (by decide)) tk T.g_BadWord.1 (ge_var 1))) gss_nil))))))
theorem G_need_word : GFn P w K mg base 3 (He.ga K (Str.ofString "need_word")) (sp_need_word (ca K)) := by
  obtain ⟨fd, F, b⟩ := O_need_word T
  exact gfn F b
theorem O_Turn_of_word : ∃ fd, GOk P w K mg base 25 (cmG K (Str.ofString "Turn") (Str.ofString "of_word")) fd ["cls", "word"] (LSp K (sp_Turn_of_word (ca K))) ∧ Binds K fd ["cls", "word"] [] := by
  obtain ⟨fd, F⟩ := T.d_Turn_of_word
  have sc : FnScope ["cls", "word"] ["cls", "word"] (defScope st_Turn_of_word) := ⟨rfl, rfl, rfl, by decide +kernel, rfl, by decide +kernel, by decide +kernel⟩
  refine ⟨fd, fn_ok F sc (b_Turn_of_word (ca K)) (len_Turn_of_word (ca K)) (fun cdv hcv A outer s H E B X hr tk => ?_) (vc_Turn_of_word (ca K) (ca_ok T)), F.bindsN fun _ _ _ _ _ _ us hl => match us, hl with | [_, _], _ => rfl⟩
  exact (gss_cons (gs_expr (ge_call (G_need_word T) (hr.mono (by decide)) tk T.g_need_word.1 T.g_need_word.2 (ga_cons (ge_var 1) ga_nil)))
    (gss_one (gs_ret (ge_makeV 0 T.mk_Turn (G_Turn___init__ T) (hr.mono (by decide)) tk (ga_cons (ge_call (G_matrix_of_text T) (hr.mono (by decide)) tk T.g_matrix_of_text.1 T.g_matrix_of_text.2 (ga_cons (ge_var 1) ga_nil)) ga_nil)))))
theorem G_Turn_of_word : GFn P w K mg base 25 (cmG K (Str.ofString "Turn") (Str.ofString "of_word")) (sp_Turn_of_word (ca K)) := by
  obtain ⟨fd, F, b⟩ := O_Turn_of_word T
  exact gfn F b
theorem O__law_signed : ∃ fd, GOk P w K mg base 1 (He.ga K (Str.ofString "_law_signed")) fd ["_law_rows"] (LSp K (sp__law_signed (ca K))) ∧ Binds K fd ["_law_rows"] [] := by
  obtain ⟨fd, F⟩ := T.d__law_signed
  have sc : FnScope ["_law_rows", "_law_a", "_law_b", "_law_c", "_law_d"] ["_law_rows"] (defScope st__law_signed) := ⟨rfl, rfl, rfl, by decide +kernel, rfl, by decide +kernel, by decide +kernel⟩
  refine ⟨fd, fn_ok F sc (b__law_signed (ca K)) (len__law_signed (ca K)) (fun cdv hcv A outer s H E B X hr tk => ?_) (vc__law_signed (ca K) (ca_ok T)), F.bindsN fun _ _ _ _ _ _ us hl => match us, hl with | [_], _ => rfl⟩
  exact (gss_cons (gs_asg (ge_var 0) (gg_pat (gp_tup (gps_cons (gp_tup (gps_cons (gp_name 1 sc.nd) (gps_cons (gp_name 2 sc.nd) gps_nil))) (gps_cons (gp_tup (gps_cons (gp_name 3 sc.nd) (gps_cons (gp_name 4 sc.nd) gps_nil))) gps_nil)))))
    (gss_one (gs_ret (ge_if (gt_w (gw_or (gt_cmp lo_gt (ge_var 3) ge_int (nomark _)) (gw_or1 (gt_w (gw_and (gt_cmp (lo_eq hr.units) (ge_var 3) ge_int (nomark _)) (gw_and1 (gt_cmp lo_gt (ge_var 1) ge_int (nomark _)))))))) (ge_tup (ga_cons (ge_tup (ga_cons (ge_var 1) (ga_cons (ge_var 2) ga_nil))) (ga_cons (ge_tup (ga_cons (ge_var 3) (ga_cons (ge_var 4) ga_nil))) ga_nil))) (ge_tup (ga_cons (ge_tup (ga_cons (ge_bin lo_sub ge_int (ge_var 1)) (ga_cons (ge_bin lo_sub ge_int (ge_var 2)) ga_nil))) (ga_cons (ge_tup (ga_cons (ge_bin lo_sub ge_int (ge_var 3)) (ga_cons (ge_bin lo_sub ge_int (ge_var 4)) ga_nil))) ga_nil)))))))
theorem G__law_signed : GFn P w K mg base 1 (He.ga K (Str.ofString "_law_signed")) (sp__law_signed (ca K)) := by
  obtain ⟨fd, F, b⟩ := O__law_signed T
  exact gfn F b
theorem O__law_back : ∃ fd, GOk P w K mg base 5 (He.ga K (Str.ofString "_law_back")) fd ["_law_matrix_here"] (LSp K (sp__law_back (ca K))) ∧ Binds K fd ["_law_matrix_here"] [] := by
  obtain ⟨fd, F⟩ := T.d__law_back
  have sc : FnScope ["_law_matrix_here", "_law_a", "_law_b", "_law_c", "_law_d"] ["_law_matrix_here"] (defScope st__law_back) := ⟨rfl, rfl, rfl, by decide +kernel, rfl, by decide +kernel, by decide +kernel⟩
  refine ⟨fd, fn_ok F sc (b__law_back (ca K)) (len__law_back (ca K)) (fun cdv hcv A outer s H E B X hr tk => ?_) (vc__law_back (ca K) (ca_ok T)), F.bindsN fun _ _ _ _ _ _ us hl => match us, hl with | [_], _ => rfl⟩
  exact (gss_cons (gs_asg (ge_var 0) (gg_pat (gp_tup (gps_cons (gp_tup (gps_cons (gp_name 1 sc.nd) (gps_cons (gp_name 2 sc.nd) gps_nil))) (gps_cons (gp_tup (gps_cons (gp_name 3 sc.nd) (gps_cons (gp_name 4 sc.nd) gps_nil))) gps_nil)))))
    (gss_one (gs_ret (ge_call (G__law_signed T) (hr.mono (by decide)) tk T.g__law_signed.1 T.g__law_signed.2 (ga_cons (ge_tup (ga_cons (ge_tup (ga_cons (ge_var 4) (ga_cons (ge_bin lo_sub ge_int (ge_var 2)) ga_nil))) (ga_cons (ge_tup (ga_cons (ge_bin lo_sub ge_int (ge_var 3)) (ga_cons (ge_var 1) ga_nil))) ga_nil))) ga_nil)))))
theorem G__law_back : GFn P w K mg base 5 (He.ga K (Str.ofString "_law_back")) (sp__law_back (ca K)) := by
  obtain ⟨fd, F, b⟩ := O__law_back T
  exact gfn F b
theorem O__law_of : ∃ fd, GOk P w K mg base 1 (He.ga K (Str.ofString "_law_of")) fd ["_law_letter"] (LSp K (sp__law_of (ca K))) ∧ Binds K fd ["_law_letter"] [] := by
  obtain ⟨fd, F⟩ := T.d__law_of
  have sc : FnScope ["_law_letter"] ["_law_letter"] (defScope st__law_of) := ⟨rfl, rfl, rfl, by decide +kernel, rfl, by decide +kernel, by decide +kernel⟩
  refine ⟨fd, fn_ok F sc (b__law_of (ca K)) (len__law_of (ca K)) (fun cdv hcv A outer s H E B X hr tk => ?_) (vc__law_of (ca K) (ca_ok T)), F.bindsN fun _ _ _ _ _ _ us hl => match us, hl with | [_], _ => rfl⟩
  exact (gss_cons (gs_if (gt_cmp (lo_eq hr.units) (ge_var 0) (ge_strL (by decide +kernel)) (nomark _)) (gss_one (gs_ret (ge_tup (ga_cons (ge_tup (ga_cons ge_int (ga_cons (ge_un lo_neg ge_int) ga_nil))) (ga_cons (ge_tup (ga_cons ge_int (ga_cons ge_int ga_nil))) ga_nil))))) gss_nil)
    (gss_one (gs_ret (ge_if (gt_cmp (lo_eq hr.units) (ge_var 0) (ge_strL (by decide +kernel)) (nomark _)) (ge_tup (ga_cons (ge_tup (ga_cons ge_int (ga_cons (ge_un lo_neg ge_int) ga_nil))) (ga_cons (ge_tup (ga_cons ge_int (ga_cons ge_int ga_nil))) ga_nil))) (ge_tup (ga_cons (ge_tup (ga_cons (ge_un lo_neg ge_int) (ga_cons (ge_un lo_neg ge_int) ga_nil))) (ga_cons (ge_tup (ga_cons ge_int (ga_cons ge_int ga_nil))) ga_nil)))))))
theorem G__law_of : GFn P w K mg base 1 (He.ga K (Str.ofString "_law_of")) (sp__law_of (ca K)) := by
  obtain ⟨fd, F, b⟩ := O__law_of T
  exact gfn F b
theorem O__law_times : ∃ fd, GOk P w K mg base 5 (He.ga K (Str.ofString "_law_times")) fd ["_law_one", "_law_other"] (LSp K (sp__law_times (ca K))) ∧ Binds K fd ["_law_one", "_law_other"] [] := by
  obtain ⟨fd, F⟩ := T.d__law_times
  have sc : FnScope ["_law_one", "_law_other", "_law_a", "_law_b", "_law_c", "_law_d", "_law_p", "_law_q", "_law_u", "_law_v"] ["_law_one", "_law_other"] (defScope st__law_times) := ⟨rfl, rfl, rfl, by decide +kernel, rfl, by decide +kernel, by decide +kernel⟩
  refine ⟨fd, fn_ok F sc (b__law_times (ca K)) (len__law_times (ca K)) (fun cdv hcv A outer s H E B X hr tk => ?_) (vc__law_times (ca K) (ca_ok T)), F.bindsN fun _ _ _ _ _ _ us hl => match us, hl with | [_, _], _ => rfl⟩
  exact (gss_cons (gs_asg (ge_var 0) (gg_pat (gp_tup (gps_cons (gp_tup (gps_cons (gp_name 2 sc.nd) (gps_cons (gp_name 3 sc.nd) gps_nil))) (gps_cons (gp_tup (gps_cons (gp_name 4 sc.nd) (gps_cons (gp_name 5 sc.nd) gps_nil))) gps_nil)))))
    (gss_cons (gs_asg (ge_var 1) (gg_pat (gp_tup (gps_cons (gp_tup (gps_cons (gp_name 6 sc.nd) (gps_cons (gp_name 7 sc.nd) gps_nil))) (gps_cons (gp_tup (gps_cons (gp_name 8 sc.nd) (gps_cons (gp_name 9 sc.nd) gps_nil))) gps_nil)))))
    (gss_one (gs_ret (ge_call (G__law_signed T) (hr.mono (by decide)) tk T.g__law_signed.1 T.g__law_signed.2 (ga_cons (ge_tup (ga_cons (ge_tup (ga_cons (ge_bin lo_add (ge_bin lo_mul (ge_var 2) (ge_var 6)) (ge_bin lo_mul (ge_var 3) (ge_var 8))) (ga_cons (ge_bin lo_add (ge_bin lo_mul (ge_var 2) (ge_var 7)) (ge_bin lo_mul (ge_var 3) (ge_var 9))) ga_nil))) (ga_cons (ge_tup (ga_cons (ge_bin lo_add (ge_bin lo_mul (ge_var 4) (ge_var 6)) (ge_bin lo_mul (ge_var 5) (ge_var 8))) (ga_cons (ge_bin lo_add (ge_bin lo_mul (ge_var 4) (ge_var 7)) (ge_bin lo_mul (ge_var 5) (ge_var 9))) ga_nil))) ga_nil))) ga_nil))))))
theorem G__law_times : GFn P w K mg base 5 (He.ga K (Str.ofString "_law_times")) (sp__law_times (ca K)) := by
  obtain ⟨fd, F, b⟩ := O__law_times T
  exact gfn F b
theorem O__law_matrix : ∃ fd, GOk P w K mg base 9 (He.ga K (Str.ofString "_law_matrix")) fd ["_law_text_here"] (LSp K (sp__law_matrix (ca K))) ∧ Binds K fd ["_law_text_here"] [] := by
  obtain ⟨fd, F⟩ := T.d__law_matrix
  have sc : FnScope ["_law_text_here", "_law_found", "_law_letter"] ["_law_text_here"] (defScope st__law_matrix) := ⟨rfl, rfl, rfl, by decide +kernel, rfl, by decide +kernel, by decide +kernel⟩
  refine ⟨fd, fn_ok F sc (b__law_matrix (ca K)) (len__law_matrix (ca K)) (fun cdv hcv A outer s H E B X hr tk => ?_) (vc__law_matrix (ca K) (ca_ok T)), F.bindsN fun _ _ _ _ _ _ us hl => match us, hl with | [_], _ => rfl⟩
  exact (gss_cons (gs_set 1 sc.nd (ge_tup (ga_cons (ge_tup (ga_cons ge_int (ga_cons ge_int ga_nil))) (ga_cons (ge_tup (ga_cons ge_int (ga_cons ge_int ga_nil))) ga_nil))))
    (gss_cons (gs_for (passes_of rfl) (gi_str (ge_var 0)) (gg_pat (gp_name 2 sc.nd)) (gss_one (gs_set 1 sc.nd (ge_call (G__law_times T) (hr.mono (by decide)) tk T.g__law_times.1 T.g__law_times.2 (ga_cons (ge_var 1) (ga_cons (ge_call (G__law_of T) (hr.mono (by decide)) tk T.g__law_of.1 T.g__law_of.2 (ga_cons (ge_var 2) ga_nil)) ga_nil))))))
    (gss_one (gs_ret (ge_var 1)))))
theorem G__law_matrix : GFn P w K mg base 9 (He.ga K (Str.ofString "_law_matrix")) (sp__law_matrix (ca K)) := by
  obtain ⟨fd, F, b⟩ := O__law_matrix T
  exact gfn F b
theorem O__law_moved : ∃ fd, GOk P w K mg base 1 (He.ga K (Str.ofString "_law_moved")) fd ["_law_matrix_here", "_law_fraction"] (LSp K (sp__law_moved (ca K))) ∧ Binds K fd ["_law_matrix_here", "_law_fraction"] [] := by
  obtain ⟨fd, F⟩ := T.d__law_moved
  have sc : FnScope ["_law_matrix_here", "_law_fraction", "_law_a", "_law_b", "_law_c", "_law_d", "_law_p", "_law_q", "_law_above", "_law_below"] ["_law_matrix_here", "_law_fraction"] (defScope st__law_moved) := ⟨rfl, rfl, rfl, by decide +kernel, rfl, by decide +kernel, by decide +kernel⟩
  refine ⟨fd, fn_ok F sc (b__law_moved (ca K)) (len__law_moved (ca K)) (fun cdv hcv A outer s H E B X hr tk => ?_) (vc__law_moved (ca K) (ca_ok T)), F.bindsN fun _ _ _ _ _ _ us hl => match us, hl with | [_, _], _ => rfl⟩
  exact (gss_cons (gs_asg (ge_var 0) (gg_pat (gp_tup (gps_cons (gp_tup (gps_cons (gp_name 2 sc.nd) (gps_cons (gp_name 3 sc.nd) gps_nil))) (gps_cons (gp_tup (gps_cons (gp_name 4 sc.nd) (gps_cons (gp_name 5 sc.nd) gps_nil))) gps_nil)))))
    (gss_cons (gs_asg (ge_var 1) (gg_pat (gp_tup (gps_cons (gp_name 6 sc.nd) (gps_cons (gp_name 7 sc.nd) gps_nil)))))
    (gss_cons (gs_par2 8 9 sc.nd (ga_cons (ge_bin lo_add (ge_bin lo_mul (ge_var 2) (ge_var 6)) (ge_bin lo_mul (ge_var 3) (ge_var 7))) (ga_cons (ge_bin lo_add (ge_bin lo_mul (ge_var 4) (ge_var 6)) (ge_bin lo_mul (ge_var 5) (ge_var 7))) ga_nil)) rfl)
    (gss_one (gs_ret (ge_if (gt_w (gw_or (gt_cmp lo_gt (ge_var 9) ge_int (nomark _)) (gw_or1 (gt_w (gw_and (gt_cmp (lo_eq hr.units) (ge_var 9) ge_int (nomark _)) (gw_and1 (gt_cmp lo_gt (ge_var 8) ge_int (nomark _)))))))) (ge_tup (ga_cons (ge_var 8) (ga_cons (ge_var 9) ga_nil))) (ge_tup (ga_cons (ge_bin lo_sub ge_int (ge_var 8)) (ga_cons (ge_bin lo_sub ge_int (ge_var 9)) ga_nil)))))))))
theorem G__law_moved : GFn P w K mg base 1 (He.ga K (Str.ofString "_law_moved")) (sp__law_moved (ca K)) := by
  obtain ⟨fd, F, b⟩ := O__law_moved T
  exact gfn F b
theorem O__law_next : ∃ fd, GOk P w K mg base 1 (He.ga K (Str.ofString "_law_next")) fd ["_law_source_here", "_law_many"] (LSp K (sp__law_next (ca K))) ∧ Binds K fd ["_law_source_here", "_law_many"] [] := by
  obtain ⟨fd, F⟩ := T.d__law_next
  have sc : FnScope ["_law_source_here", "_law_many", "_law_found", "_law_primes", "_law_prime"] ["_law_source_here", "_law_many"] (defScope st__law_next) := ⟨rfl, rfl, rfl, by decide +kernel, rfl, by decide +kernel, by decide +kernel⟩
  refine ⟨fd, fn_ok F sc (b__law_next (ca K)) (len__law_next (ca K)) (fun cdv hcv A outer s H E B X hr tk => ?_) (vc__law_next (ca K) (ca_ok T)), F.bindsN fun _ _ _ _ _ _ us hl => match us, hl with | [_, _], _ => rfl⟩
  exact (gss_cons (gs_if (gt_cmp lo_gt (ge_ix (ge_var 0) ge_int) ge_int (nomark _)) (gss_cons (gs_set 2 sc.nd (ge_bin lo_mod (ge_ix (ge_var 0) ge_int) (ge_var 1)))
    (gss_cons (gs_asg (ge_bin lo_fdiv (ge_ix (ge_var 0) ge_int) (ge_var 1)) (gg_sub ls_list (ge_var 0) ge_int))
    (gss_one (gs_ret (ge_var 2))))) gss_nil)
    (gss_cons (gs_asg (ge_bin lo_add (ge_ix (ge_var 0) ge_int) ge_int) (gg_sub ls_list (ge_var 0) ge_int))
    (gss_cons (gs_set 3 sc.nd (ge_lst (ga_cons ge_int (ga_cons ge_int (ga_cons ge_int (ga_cons ge_int (ga_cons ge_int (ga_cons ge_int (ga_cons ge_int (ga_cons ge_int ga_nil))))))))))
    (gss_cons (gs_set 4 sc.nd (ge_ix (ge_bin lo_add (ge_var 3) (ge_lst (ga_cons ge_int (ga_cons ge_int (ga_cons ge_int ga_nil))))) (ge_bin lo_mod (ge_ix (ge_var 0) ge_int) ge_int)))
    (gss_one (gs_ret (ge_bin lo_mod (ge_bin lo_fdiv (ge_bin lo_mod (ge_bin lo_pow (ge_bin lo_add (ge_bin lo_add (ge_bin lo_mod (ge_ix (ge_var 0) ge_int) (ge_var 4)) (ge_bin lo_mul ge_int (ge_ix (ge_var 0) ge_int))) ge_int) ge_int) (ge_var 4)) ge_int) (ge_var 1))))))))
theorem G__law_next : GFn P w K mg base 1 (He.ga K (Str.ofString "_law_next")) (sp__law_next (ca K)) := by
  obtain ⟨fd, F, b⟩ := O__law_next T
  exact gfn F b
theorem O__law_repeated : ∃ fd, GOk P w K mg base 9 (He.ga K (Str.ofString "_law_repeated")) fd ["_law_matrix_here", "_law_many"] (LSp K (sp__law_repeated (ca K))) ∧ Binds K fd ["_law_matrix_here", "_law_many"] [] := by
  obtain ⟨fd, F⟩ := T.d__law_repeated
  have sc : FnScope ["_law_matrix_here", "_law_many", "_law_found", "_law_turn"] ["_law_matrix_here", "_law_many"] (defScope st__law_repeated) := ⟨rfl, rfl, rfl, by decide +kernel, rfl, by decide +kernel, by decide +kernel⟩
  refine ⟨fd, fn_ok F sc (b__law_repeated (ca K)) (len__law_repeated (ca K)) (fun cdv hcv A outer s H E B X hr tk => ?_) (vc__law_repeated (ca K) (ca_ok T)), F.bindsN fun _ _ _ _ _ _ us hl => match us, hl with | [_, _], _ => rfl⟩
  exact (gss_cons (gs_set 2 sc.nd (ge_tup (ga_cons (ge_tup (ga_cons ge_int (ga_cons ge_int ga_nil))) (ga_cons (ge_tup (ga_cons ge_int (ga_cons ge_int ga_nil))) ga_nil))))
    (gss_cons (gs_for (passes_of rfl) (gi_rng1 T.n_range (ga_cons (ge_var 1) ga_nil)) (gg_pat (gp_name 3 sc.nd)) (gss_one (gs_set 2 sc.nd (ge_call (G__law_times T) (hr.mono (by decide)) tk T.g__law_times.1 T.g__law_times.2 (ga_cons (ge_var 2) (ga_cons (ge_var 0) ga_nil))))))
    (gss_one (gs_ret (ge_var 2)))))
theorem G__law_repeated : GFn P w K mg base 9 (He.ga K (Str.ofString "_law_repeated")) (sp__law_repeated (ca K)) := by
  obtain ⟨fd, F, b⟩ := O__law_repeated T
  exact gfn F b
theorem O__law_text : ∃ fd, GOk P w K mg base 5 (He.ga K (Str.ofString "_law_text")) fd ["_law_source_here", "_law_size"] (LSp K (sp__law_text (ca K))) ∧ Binds K fd ["_law_source_here", "_law_size"] [] := by
  obtain ⟨fd, F⟩ := T.d__law_text
  have sc : FnScope ["_law_source_here", "_law_size", "_law_found", "_law_k", "_law_turns"] ["_law_source_here", "_law_size"] (defScope st__law_text) := ⟨rfl, rfl, rfl, by decide +kernel, rfl, by decide +kernel, by decide +kernel⟩
  refine ⟨fd, fn_ok F sc (b__law_text (ca K)) (len__law_text (ca K)) (fun cdv hcv A outer s H E B X hr tk => ?_) (vc__law_text (ca K) (ca_ok T)), F.bindsN fun _ _ _ _ _ _ us hl => match us, hl with | [_, _], _ => rfl⟩
  exact (gss_cons (gs_set 2 sc.nd (ge_strL (by decide +kernel)))
    (gss_cons (gs_for (passes_of rfl) (gi_rng1 T.n_range (ga_cons (ge_var 1) ga_nil)) (gg_pat (gp_name 3 sc.nd)) (gss_cons (gs_set 4 sc.nd (ge_ix (ge_lst (ga_cons (ge_strL (by decide +kernel)) (ga_cons (ge_strL (by decide +kernel)) ga_nil))) (ge_call (G__law_next T) (hr.mono (by decide)) tk T.g__law_next.1 T.g__law_next.2 (ga_cons (ge_var 0) (ga_cons ge_int ga_nil)))))
    (gss_one (gs_if (gt_cmp (lo_eq hr.units) (ge_var 2) (ge_strL (by decide +kernel)) (nomark _)) (gss_one (gs_set 2 sc.nd (ge_if (gt_cmp (lo_eq hr.units) (ge_call (G__law_next T) (hr.mono (by decide)) tk T.g__law_next.1 T.g__law_next.2 (ga_cons (ge_var 0) (ga_cons ge_int ga_nil))) ge_int (nomark _)) (ge_strL (by decide +kernel)) (ge_var 4)))) (gss_one (gs_set 2 sc.nd (ge_bin lo_add (ge_var 2) (ge_if (gt_cmp (lo_eq hr.units) (ge_ix (ge_var 2) (ge_un lo_neg ge_int)) (ge_strL (by decide +kernel)) (nomark _)) (ge_var 4) (ge_strL (by decide +kernel))))))))))
    (gss_one (gs_ret (ge_var 2)))))
theorem G__law_text : GFn P w K mg base 5 (He.ga K (Str.ofString "_law_text")) (sp__law_text (ca K)) := by
  obtain ⟨fd, F, b⟩ := O__law_text T
  exact gfn F b
theorem ctab_Turn___call__ {X : Cx} (hK : X.K = K) (hm : X.mg = mg) (hb : X.base = base) : CTab X 17 (tbs [((ca K).Turn, sp_Turn___call__ (ca K))]) := by
  subst hK hm hb
  intro C sp h
  obtain ⟨rfl, rfl⟩ := tbs1s h
  exact ⟨_, T.m_Turn___call__.at_, T.m_Turn___call__.fn, T.cf_Turn, GR0.mono (G_Turn___call__ T) (by decide)⟩
theorem tab_Turn___invert__ {X : Cx} (hK : X.K = K) (hm : X.mg = mg) (hb : X.base = base) : STab X 25 (Str.ofString "__invert__") (tbs [((ca K).Turn, sp_Turn___invert__ (ca K))]) := by
  subst hK hm hb
  intro C sp h
  obtain ⟨rfl, rfl⟩ := tbs1s h
  exact ⟨_, T.m_Turn___invert__.at_, T.m_Turn___invert__.fn, GR0.mono (G_Turn___invert__ T) (by decide)⟩
theorem tab_Turn___mul__ {X : Cx} (hK : X.K = K) (hm : X.mg = mg) (hb : X.base = base) : STab X 25 (Str.ofString "__mul__") (tbs [((ca K).Turn, sp_Turn___mul__ (ca K))]) := by
  subst hK hm hb
  intro C sp h
  obtain ⟨rfl, rfl⟩ := tbs1s h
  exact ⟨_, T.m_Turn___mul__.at_, T.m_Turn___mul__.fn, GR0.mono (G_Turn___mul__ T) (by decide)⟩
theorem mtab_Turn_raised {X : Cx} (hK : X.K = K) (hm : X.mg = mg) (hb : X.base = base) : MTab X 25 (Str.ofString "raised") (tbs [((ca K).Turn, sp_Turn_raised (ca K))]) := by
  subst hK hm hb
  intro C sp h
  obtain ⟨rfl, rfl⟩ := tbs1s h
  exact ⟨T.o_Turn.cl, _, T.m_Turn_raised, GR0.mono (G_Turn_raised T) (by decide)⟩
theorem ptab_rows {X : Cx} (hK : X.K = K) (hm : X.mg = mg) (hb : X.base = base) : PTab X 1 (Str.ofString "rows") (tbs [((ca K).Turn, sp_Turn_rows (ca K))]) := by
  subst hK hm hb
  intro C sp h
  obtain ⟨rfl, rfl⟩ := tbs1s h
  obtain ⟨fd, F, b⟩ := O_Turn_rows T
  exact ⟨T.o_Turn.cl, _, _, fd, T.p_rows_Turn, F.mono (by decide), b⟩
theorem O__law_calls_right : ∃ fd, GOk P w K mg base 29 (He.ga K (Str.ofString "_law_calls_right")) fd ["_law_source_here"] (LSp K (sp__law_calls_right (ca K))) ∧ Binds K fd ["_law_source_here"] [] := by
  obtain ⟨fd, F⟩ := T.d__law_calls_right
  have sc : FnScope ["_law_source_here", "_law_one", "_law_other", "_law_x", "_law_y", "_law_u", "_law_v", "_law_f", "_law_many", "_law_due"] ["_law_source_here"] (defScope st__law_calls_right) := ⟨rfl, rfl, rfl, by decide +kernel, rfl, by decide +kernel, by decide +kernel⟩
  refine ⟨fd, fn_ok F sc (b__law_calls_right (ca K)) (len__law_calls_right (ca K)) (fun cdv hcv A outer s H E B X hr tk => ?_) (vc__law_calls_right (ca K) (ca_ok T)), F.bindsN fun _ _ _ _ _ _ us hl => match us, hl with | [_], _ => rfl⟩
  exact (gss_cons (gs_par2 1 2 sc.nd (ga_cons (ge_call (G__law_text T) (hr.mono (by decide)) tk T.g__law_text.1 T.g__law_text.2 (ga_cons (ge_var 0) (ga_cons (ge_call (G__law_next T) (hr.mono (by decide)) tk T.g__law_next.1 T.g__law_next.2 (ga_cons (ge_var 0) (ga_cons ge_int ga_nil))) ga_nil))) (ga_cons (ge_call (G__law_text T) (hr.mono (by decide)) tk T.g__law_text.1 T.g__law_text.2 (ga_cons (ge_var 0) (ga_cons (ge_call (G__law_next T) (hr.mono (by decide)) tk T.g__law_next.1 T.g__law_next.2 (ga_cons (ge_var 0) (ga_cons ge_int ga_nil))) ga_nil))) ga_nil)) rfl)
    (gss_cons (gs_par2 3 4 sc.nd (ga_cons (ge_cmeth T.cr_Turn T.cm_Turn_of_word (G_Turn_of_word T) (hr.mono (by decide)) tk T.g_Turn.1 (ga_cons (ge_var 1) ga_nil)) (ga_cons (ge_cmeth T.cr_Turn T.cm_Turn_of_word (G_Turn_of_word T) (hr.mono (by decide)) tk T.g_Turn.1 (ga_cons (ge_var 2) ga_nil)) ga_nil)) rfl)
    (gss_cons (gs_par2 5 6 sc.nd (ga_cons (ge_call (G__law_matrix T) (hr.mono (by decide)) tk T.g__law_matrix.1 T.g__law_matrix.2 (ga_cons (ge_var 1) ga_nil)) (ga_cons (ge_call (G__law_matrix T) (hr.mono (by decide)) tk T.g__law_matrix.1 T.g__law_matrix.2 (ga_cons (ge_var 2) ga_nil)) ga_nil)) rfl)
    (gss_cons (gs_set 7 sc.nd (ge_ix (ge_lst (ga_cons (ge_tup (ga_cons ge_int (ga_cons ge_int ga_nil))) (ga_cons (ge_tup (ga_cons ge_int (ga_cons ge_int ga_nil))) (ga_cons (ge_tup (ga_cons ge_int (ga_cons ge_int ga_nil))) (ga_cons (ge_tup (ga_cons (ge_un lo_neg ge_int) (ga_cons ge_int ga_nil))) (ga_cons (ge_tup (ga_cons (ge_bin lo_pow ge_int ge_int) (ga_cons ge_int ga_nil))) ga_nil)))))) (ge_call (G__law_next T) (hr.mono (by decide)) tk T.g__law_next.1 T.g__law_next.2 (ga_cons (ge_var 0) (ga_cons ge_int ga_nil)))))
    (gss_cons (gs_if (gt_cmp (lo_ne hr.units) (ge_lst (ga_cons (ge_prop (ptab_rows T rfl rfl rfl) (hr.mono (by decide)) (ge_var 3)) (ga_cons (ge_prop (ptab_rows T rfl rfl rfl) (hr.mono (by decide)) (ge_var 4)) (ga_cons (ge_callO (ctab_Turn___call__ T rfl rfl rfl) (hr.mono (by decide)) tk (ge_var 3) (ga_cons (ge_var 7) ga_nil)) ga_nil)))) (ge_lst (ga_cons (ge_var 5) (ga_cons (ge_var 6) (ga_cons (ge_call (G__law_moved T) (hr.mono (by decide)) tk T.g__law_moved.1 T.g__law_moved.2 (ga_cons (ge_var 5) (ga_cons (ge_var 7) ga_nil))) ga_nil)))) (nomark _)) (gss_one (gs_ret ge_bl)) gss_nil)
    (gss_cons (gs_if (gt_w (gw_or (gt_cmp (lo_ne hr.units) (ge_callO (ctab_Turn___call__ T rfl rfl rfl) (hr.mono (by decide)) tk (ge_bin (lo_binO (tab_Turn___mul__ T rfl rfl rfl) (first_Turn___mul__ T) (hr.mono (by decide))) (ge_var 3) (ge_var 4)) (ga_cons (ge_var 7) ga_nil)) (ge_callO (ctab_Turn___call__ T rfl rfl rfl) (hr.mono (by decide)) tk (ge_var 3) (ga_cons (ge_callO (ctab_Turn___call__ T rfl rfl rfl) (hr.mono (by decide)) tk (ge_var 4) (ga_cons (ge_var 7) ga_nil)) ga_nil)) (nomark _)) (gw_or1 (gt_cmp (lo_ne hr.units) (ge_callO (ctab_Turn___call__ T rfl rfl rfl) (hr.mono (by decide)) tk (ge_var 3) (ga_cons (ge_callO (ctab_Turn___call__ T rfl rfl rfl) (hr.mono (by decide)) tk (ge_un (lo_invO (tab_Turn___invert__ T rfl rfl rfl) (hr.mono (by decide))) (ge_var 3)) (ga_cons (ge_var 7) ga_nil)) ga_nil)) (ge_var 7) (nomark _))))) (gss_one (gs_ret ge_bl)) gss_nil)
    (gss_cons (gs_set 8 sc.nd (ge_call (G__law_next T) (hr.mono (by decide)) tk T.g__law_next.1 T.g__law_next.2 (ga_cons (ge_var 0) (ga_cons ge_int ga_nil))))
    (gss_cons (gs_set 9 sc.nd (ge_lst (ga_cons (ge_call (G__law_repeated T) (hr.mono (by decide)) tk T.g__law_repeated.1 T.g__law_repeated.2 (ga_cons (ge_var 5) (ga_cons (ge_var 8) ga_nil))) (ga_cons (ge_call (G__law_repeated T) (hr.mono (by decide)) tk T.g__law_repeated.1 T.g__law_repeated.2 (ga_cons (ge_call (G__law_back T) (hr.mono (by decide)) tk T.g__law_back.1 T.g__law_back.2 (ga_cons (ge_var 5) ga_nil)) (ga_cons (ge_var 8) ga_nil))) (ga_cons (ge_tup (ga_cons (ge_tup (ga_cons ge_int (ga_cons ge_int ga_nil))) (ga_cons (ge_tup (ga_cons ge_int (ga_cons ge_int ga_nil))) ga_nil))) (ga_cons (ge_var 5) ga_nil))))))
    (gss_one (gs_ret (ge_cmp (lo_eq hr.units) (ge_lst (ga_cons (ge_prop (ptab_rows T rfl rfl rfl) (hr.mono (by decide)) (ge_meth (mtab_Turn_raised T rfl rfl rfl) (hr.mono (by decide)) tk (ge_var 3) (ga_cons (ge_var 8) ga_nil))) (ga_cons (ge_prop (ptab_rows T rfl rfl rfl) (hr.mono (by decide)) (ge_meth (mtab_Turn_raised T rfl rfl rfl) (hr.mono (by decide)) tk (ge_var 3) (ga_cons (ge_bin lo_sub ge_int (ge_var 8)) ga_nil))) (ga_cons (ge_prop (ptab_rows T rfl rfl rfl) (hr.mono (by decide)) (ge_meth (mtab_Turn_raised T rfl rfl rfl) (hr.mono (by decide)) tk (ge_var 3) (ga_cons ge_int ga_nil))) (ga_cons (ge_prop (ptab_rows T rfl rfl rfl) (hr.mono (by decide)) (ge_meth (mtab_Turn_raised T rfl rfl rfl) (hr.mono (by decide)) tk (ge_var 3) (ga_cons ge_int ga_nil))) ga_nil))))) (ge_var 9) (nomark _))))))))))))
theorem G__law_calls_right : GFn P w K mg base 29 (He.ga K (Str.ofString "_law_calls_right")) (sp__law_calls_right (ca K)) := by
  obtain ⟨fd, F, b⟩ := O__law_calls_right T
  exact gfn F b
omit T in
theorem scT0__law_call_told : FnScope ["_law_deed", "_law_caught", "error", "_law_words", "_law_kinds"] ["_law_deed"] (defScope st__law_call_told) := ⟨rfl, rfl, rfl, by decide +kernel, rfl, by decide +kernel, by decide +kernel⟩
theorem scT__law_call_told : FnScope ["_law_deed", "_law_caught", "error", "_law_words", "_law_kinds"] ["_law_deed"] (defScope st__law_call_told) := scT0__law_call_told
theorem H__law_call_told {X : Cx} {k : Nat} (hK : X.K = K) (hm : X.mg = mg) (hb : X.base = base) : ∀ cv, Handed X (k + 1) ["_law_deed", "_law_caught", "error", "_law_words", "_law_kinds"] (Str.ofString "_law_call_told") (defScope st__law_call_told) (He.ga X.K (Str.ofString "_law_call_told")) cv (defBody st__law_call_told) "_law_deed" (b__law_call_told (ca K)) := by
  subst hK hm hb
  intro cv f s H B dd hr act
  have sc := scT0__law_call_told
  exact (gss_cons (gs_set 1 sc.nd ge_non)
    (gss_cons (gs_tryT (ok := oks [(ca X.K).BadMatrix, (ca X.K).BadFraction, (ca X.K).BadWord, (ca X.K).BadNumber]) 2 1 sc.nd (fun B' E pn xe up tk po => (gss_one (gs_expr (act _ _ _ _ _ _ up tk)))) (xm_MatrixError_LimitError_WalkError T) T.g_MatrixError.1 T.g_LimitError.1 T.g_WalkError.1)
    (gss_cons (gs_if (gt_cmp lo_is (ge_var 1) ge_non (nomark _)) (gss_one (gs_ret (ge_strL (by decide +kernel)))) gss_nil)
    (gss_cons (gs_if (gt_truth (ge_blt (lc_isiE (.own _) ref_inj (fun w h => h) (ie_BadNumber T)) T.n_isinstance (by decide +kernel) (ga_cons (ge_var 1) (ga_cons (ge_cls T.g_BadNumber.1) ga_nil)))) (gss_one (gs_ret (ge_bin lo_add (ge_strL (by decide +kernel)) (ge_blt (lc_repr hr.gd hr.units) T.n_repr (by decide +kernel) (ga_cons (ge_fldE (fe_value T) (ge_var 1)) ga_nil))))) gss_nil)
    (gss_cons (gs_set 3 sc.nd (ge_lst (ga_cons (ge_strL (by decide +kernel)) (ga_cons (ge_strL (by decide +kernel)) (ga_cons (ge_strL (by decide +kernel)) (ga_cons (ge_strL (by decide +kernel)) ga_nil))))))
    (gss_cons (gs_set 4 sc.nd (ge_lst (ga_cons (ge_blt (lc_isiE (.own _) ref_inj (fun w h => h) (ie_BadMatrix T)) T.n_isinstance (by decide +kernel) (ga_cons (ge_var 1) (ga_cons (ge_cls T.g_BadMatrix.1) ga_nil))) (ga_cons (ge_blt (lc_isiE (.own _) ref_inj (fun w h => h) (ie_BadWord T)) T.n_isinstance (by decide +kernel) (ga_cons (ge_var 1) (ga_cons (ge_cls T.g_BadWord.1) ga_nil))) ga_nil))))
    (gss_one (gs_ret (ge_ix (ge_var 3) (ge_bm PySem.F.plainAttrs_list PySem.F.slot_list_index PySem.F.type_list_index (lm_index (hu65 hr)) (ge_bin lo_add (ge_var 4) (ge_lst (ga_cons (ge_blt (lc_isiE (.own _) ref_inj (fun w h => h) (ie_BadFraction T)) T.n_isinstance (by decide +kernel) (ga_cons (ge_var 1) (ga_cons (ge_cls T.g_BadFraction.1) ga_nil))) (ga_cons ge_bl ga_nil)))) (ga_cons ge_bl ga_nil) (.inr (.inl rfl))))))))))))
theorem O__law_refusals_right : ∃ fd, GOk P w K mg base 29 (He.ga K (Str.ofString "_law_refusals_right")) fd ["_law_source_here"] (LSp K (sp__law_refusals_right (ca K))) ∧ Binds K fd ["_law_source_here"] [] := by
  obtain ⟨fd, F⟩ := T.d__law_refusals_right
  have sc : FnScope ["_law_source_here", "_law_x", "_law_some", "_law_bad", "_law_wrong", "_law_far"] ["_law_source_here"] (defScope st__law_refusals_right) := ⟨rfl, rfl, rfl, by decide +kernel, rfl, by decide +kernel, by decide +kernel⟩
  refine ⟨fd, fn_ok F sc (b__law_refusals_right (ca K)) (len__law_refusals_right (ca K)) (fun cdv hcv A outer s H E B X hr tk => ?_) (vc__law_refusals_right (ca K) (ca_ok T)), F.bindsN fun _ _ _ _ _ _ us hl => match us, hl with | [_], _ => rfl⟩
  exact (gss_cons (gs_set 1 sc.nd (ge_cmeth T.cr_Turn T.cm_Turn_of_word (G_Turn_of_word T) (hr.mono (by decide)) tk T.g_Turn.1 (ga_cons (ge_strL (by decide +kernel)) ga_nil)))
    (gss_cons (gs_set 2 sc.nd (ge_lst (ga_cons ge_non (ga_cons ge_bl (ga_cons ge_int (ga_cons (ge_strL (by decide +kernel)) (ga_cons (ge_tup ga_nil) (ga_cons (ge_lst ga_nil) (ga_cons ge_dict0 (ga_cons (ge_strL (by decide +kernel)) (ga_cons (ge_tup (ga_cons (ge_tup (ga_cons ge_int (ga_cons ge_int ga_nil))) (ga_cons (ge_tup (ga_cons ge_int (ga_cons ge_int ga_nil))) ga_nil))) (ga_cons (ge_tup (ga_cons (ge_tup (ga_cons ge_int (ga_cons ge_int ga_nil))) (ga_cons (ge_tup (ga_cons (ge_un lo_neg ge_int) (ga_cons ge_int ga_nil))) ga_nil))) (ga_cons (ge_tup (ga_cons ge_int (ga_cons ge_int ga_nil))) (ga_cons (ge_tup (ga_cons ge_int (ga_cons ge_int ga_nil))) ga_nil))))))))))))))
    (gss_cons (gs_set 2 sc.nd (ge_bin lo_add (ge_var 2) (ge_lst (ga_cons (ge_tup (ga_cons ge_bl (ga_cons ge_int ga_nil))) (ga_cons (ge_tup (ga_cons ge_int (ga_cons ge_bl ga_nil))) ga_nil)))))
    (gss_cons (gs_set 3 sc.nd (ge_ix (ge_var 2) (ge_call (G__law_next T) (hr.mono (by decide)) tk T.g__law_next.1 T.g__law_next.2 (ga_cons (ge_var 0) (ga_cons ge_int ga_nil)))))
    (gss_cons (gs_if (gt_cmp (lo_ne hr.units) (T.d__law_call_told.elim fun fd F => ge_lam (k := 26) T.g__law_call_told.1 T.g__law_call_told.2 F (F.bindsN fun _ _ _ _ _ _ us hl => match us, hl with | [_], _ => rfl) (scT__law_call_told T) rfl (.inl rfl) (H__law_call_told T rfl rfl rfl) T.tb__law_refusals_right (codeT_of hcv T.hd__law_refusals_right) (List.mem_of_getElem? (i := 0) rfl) (oneT T.ndT (List.mem_of_getElem? (i := 0) rfl)) (hr.mono (by decide)) (LamX.lamS_by (sc := defScope st__law_refusals_right) (by decide +kernel)) (fun A ou s H E f code' B G hr tk => (ge_make T.mk_Turn (G_Turn___init__ T) (hr.mono (by decide)) tk T.g_Turn.1 (ga_cons (ge_var 3) ga_nil)))) (ge_strL (by decide +kernel)) (nomark _)) (gss_one (gs_ret ge_bl)) gss_nil)
    (gss_cons (gs_if (gt_cmp (lo_ne hr.units) (T.d__law_call_told.elim fun fd F => ge_lam (k := 26) T.g__law_call_told.1 T.g__law_call_told.2 F (F.bindsN fun _ _ _ _ _ _ us hl => match us, hl with | [_], _ => rfl) (scT__law_call_told T) rfl (.inl rfl) (H__law_call_told T rfl rfl rfl) T.tb__law_refusals_right (codeT_of hcv T.hd__law_refusals_right) (List.mem_of_getElem? (i := 0) rfl) (oneT T.ndT (List.mem_of_getElem? (i := 0) rfl)) (hr.mono (by decide)) (LamX.lamS_by (sc := defScope st__law_refusals_right) (by decide +kernel)) (fun A ou s H E f code' B G hr tk => (ge_callO (ctab_Turn___call__ T rfl rfl rfl) (hr.mono (by decide)) tk (ge_var 1) (ga_cons (ge_var 3) ga_nil)))) (ge_strL (by decide +kernel)) (nomark _)) (gss_one (gs_ret ge_bl)) gss_nil)
    (gss_cons (gs_set 4 sc.nd (ge_ix (ge_lst (ga_cons ge_non (ga_cons (ge_strL (by decide +kernel)) (ga_cons (ge_strL (by decide +kernel)) (ga_cons (ge_tup ga_nil) (ga_cons ge_int (ga_cons (ge_strL (by decide +kernel)) (ga_cons (ge_lst (ga_cons (ge_strL (by decide +kernel)) ga_nil)) ga_nil)))))))) (ge_call (G__law_next T) (hr.mono (by decide)) tk T.g__law_next.1 T.g__law_next.2 (ga_cons (ge_var 0) (ga_cons ge_int ga_nil)))))
    (gss_cons (gs_set 5 sc.nd (ge_ix (ge_lst (ga_cons ge_non (ga_cons ge_bl (ga_cons ge_int (ga_cons (ge_un lo_neg ge_int) (ga_cons (ge_strL (by decide +kernel)) (ga_cons (ge_tup ga_nil) (ga_cons (ge_bin lo_pow ge_int ge_int) (ga_cons (ge_lst (ga_cons ge_int ga_nil)) ga_nil))))))))) (ge_call (G__law_next T) (hr.mono (by decide)) tk T.g__law_next.1 T.g__law_next.2 (ga_cons (ge_var 0) (ga_cons ge_int ga_nil)))))
    (gss_cons (gs_if (gt_cmp (lo_ne hr.units) (T.d__law_call_told.elim fun fd F => ge_lam (k := 26) T.g__law_call_told.1 T.g__law_call_told.2 F (F.bindsN fun _ _ _ _ _ _ us hl => match us, hl with | [_], _ => rfl) (scT__law_call_told T) rfl (.inl rfl) (H__law_call_told T rfl rfl rfl) T.tb__law_refusals_right (codeT_of hcv T.hd__law_refusals_right) (List.mem_of_getElem? (i := 0) rfl) (oneT T.ndT (List.mem_of_getElem? (i := 0) rfl)) (hr.mono (by decide)) (LamX.lamS_by (sc := defScope st__law_refusals_right) (by decide +kernel)) (fun A ou s H E f code' B G hr tk => (ge_cmeth T.cr_Turn T.cm_Turn_of_word (G_Turn_of_word T) (hr.mono (by decide)) tk T.g_Turn.1 (ga_cons (ge_var 4) ga_nil)))) (ge_strL (by decide +kernel)) (nomark _)) (gss_one (gs_ret ge_bl)) gss_nil)
    (gss_one (gs_ret (ge_and (ge_cmp (lo_eq hr.units) (T.d__law_call_told.elim fun fd F => ge_lam (k := 26) T.g__law_call_told.1 T.g__law_call_told.2 F (F.bindsN fun _ _ _ _ _ _ us hl => match us, hl with | [_], _ => rfl) (scT__law_call_told T) rfl (.inl rfl) (H__law_call_told T rfl rfl rfl) T.tb__law_refusals_right (codeT_of hcv T.hd__law_refusals_right) (List.mem_of_getElem? (i := 0) rfl) (oneT T.ndT (List.mem_of_getElem? (i := 0) rfl)) (hr.mono (by decide)) (LamX.lamS_by (sc := defScope st__law_refusals_right) (by decide +kernel)) (fun A ou s H E f code' B G hr tk => (ge_meth (mtab_Turn_raised T rfl rfl rfl) (hr.mono (by decide)) tk (ge_var 1) (ga_cons (ge_var 5) ga_nil)))) (ge_bin lo_add (ge_strL (by decide +kernel)) (ge_blt (lc_repr hr.gd hr.units) T.n_repr (by decide +kernel) (ga_cons (ge_var 5) ga_nil))) (nomark _)) (ge_one (ge_cmp (lo_eq hr.units) (ge_prop (ptab_rows T rfl rfl rfl) (hr.mono (by decide)) (ge_var 1)) (ge_call (G__law_matrix T) (hr.mono (by decide)) tk T.g__law_matrix.1 T.g__law_matrix.2 (ga_cons (ge_strL (by decide +kernel)) ga_nil)) (nomark _)))))))))))))))
theorem G__law_refusals_right : GFn P w K mg base 29 (He.ga K (Str.ofString "_law_refusals_right")) (sp__law_refusals_right (ca K)) := by
  obtain ⟨fd, F, b⟩ := O__law_refusals_right T
  exact gfn F b
theorem O__law_source : ∃ fd, GOk P w K mg base 1 (He.ga K (Str.ofString "_law_source")) fd ["_law_script", "_law_k"] (LSp K (sp__law_source (ca K))) ∧ Binds K fd ["_law_script", "_law_k"] [] := by
  obtain ⟨fd, F⟩ := T.d__law_source
  have sc : FnScope ["_law_script", "_law_k", "_law_cell"] ["_law_script", "_law_k"] (defScope st__law_source) := ⟨rfl, rfl, rfl, by decide +kernel, rfl, by decide +kernel, by decide +kernel⟩
  refine ⟨fd, fn_ok F sc (b__law_source (ca K)) (len__law_source (ca K)) (fun cdv hcv A outer s H E B X hr tk => ?_) (vc__law_source (ca K) (ca_ok T)), F.bindsN fun _ _ _ _ _ _ us hl => match us, hl with | [_, _], _ => rfl⟩
  exact (gss_cons (gs_set 2 sc.nd (ge_if (gt_cmp (lo_ne hr.units) (ge_var 0) (ge_lst ga_nil) (nomark _)) (ge_ix (ge_var 0) (ge_bin lo_mod (ge_var 1) (ge_blt lc_len T.n_len (by decide +kernel) (ga_cons (ge_var 0) ga_nil)))) ge_int))
    (gss_one (gs_ret (ge_lst (ga_cons (ge_var 2) (ga_cons (ge_bin lo_mul ge_int (ge_var 1)) (ga_cons (ge_if (gt_cmp lo_ge (ge_var 2) (ge_bin lo_pow ge_int ge_int) (nomark _)) (ge_bin lo_fdivW (ge_var 2) (ge_bin lo_pow ge_int ge_int)) ge_int) ga_nil)))))))
theorem G__law_source : GFn P w K mg base 1 (He.ga K (Str.ofString "_law_source")) (sp__law_source (ca K)) := by
  obtain ⟨fd, F, b⟩ := O__law_source T
  exact gfn F b
theorem O_law {fd : FuncData} (F : FunD K (Str.ofString "law") (Str.ofString "law") (defArgs st_law) (defBody st_law) (defScope st_law) [] [] (He.ga K (Str.ofString "law")) fd) : GOk P w K mg base 33 (He.ga K (Str.ofString "law")) fd ["_law_script"] (LSp K (sp_law (ca K))) := by
  have sc : FnScope ["_law_script", "_law_k", "_law_source_here", "_law_turn", "_law_t"] ["_law_script"] (defScope st_law) := ⟨rfl, rfl, rfl, by decide +kernel, rfl, by decide +kernel, by decide +kernel⟩
  refine fn_ok F sc (b_law (ca K)) (len_law (ca K)) (fun cdv hcv A outer s H E B X hr tk => ?_) (vc_law (ca K) (ca_ok T))
  exact (gss_cons (gs_for (passes_of rfl) (gi_rng1 T.n_range (ga_cons (ge_blt (lc_max2 rfl) T.n_max (by decide +kernel) (ga_cons ge_int (ga_cons (ge_blt (lc_min2 rfl) T.n_min (by decide +kernel) (ga_cons ge_int (ga_cons (ge_blt lc_len T.n_len (by decide +kernel) (ga_cons (ge_var 0) ga_nil)) ga_nil))) ga_nil))) ga_nil)) (gg_pat (gp_name 1 sc.nd)) (gss_cons (gs_set 2 sc.nd (ge_call (G__law_source T) (hr.mono (by decide)) tk T.g__law_source.1 T.g__law_source.2 (ga_cons (ge_var 0) (ga_cons (ge_var 1) ga_nil))))
    (gss_one (gs_for (passes_of rfl) (gi_rng1 T.n_range (ga_cons ge_int ga_nil)) (gg_pat (gp_name 3 sc.nd)) (gss_one (gs_if (gt_w (gw_or (gt_not (gt_truth (ge_call (G__law_calls_right T) (hr.mono (by decide)) tk T.g__law_calls_right.1 T.g__law_calls_right.2 (ga_cons (ge_var 2) ga_nil)))) (gw_or1 (gt_not (gt_truth (ge_call (G__law_refusals_right T) (hr.mono (by decide)) tk T.g__law_refusals_right.1 T.g__law_refusals_right.2 (ga_cons (ge_var 2) ga_nil))))))) (gss_one (gs_ret ge_bl)) gss_nil))))))
    (gss_cons (gs_set 4 sc.nd (ge_make T.mk_Turn (G_Turn___init__ T) (hr.mono (by decide)) tk T.g_Turn.1 (ga_cons (ge_tup (ga_cons (ge_tup (ga_cons ge_int (ga_cons ge_int ga_nil))) (ga_cons (ge_tup (ga_cons ge_int (ga_cons ge_int ga_nil))) ga_nil))) ga_nil)))
    (gss_cons (gs_if (gt_cmp (lo_ne hr.units) (ge_lst (ga_cons (ge_prop (ptab_rows T rfl rfl rfl) (hr.mono (by decide)) (ge_meth (mtab_Turn_raised T rfl rfl rfl) (hr.mono (by decide)) tk (ge_var 4) (ga_cons (ge_un lo_neg ge_int) ga_nil))) (ga_cons (ge_prop (ptab_rows T rfl rfl rfl) (hr.mono (by decide)) (ge_meth (mtab_Turn_raised T rfl rfl rfl) (hr.mono (by decide)) tk (ge_var 4) (ga_cons ge_int ga_nil))) ga_nil))) (ge_lst (ga_cons (ge_tup (ga_cons (ge_tup (ga_cons ge_int (ga_cons (ge_un lo_neg ge_int) ga_nil))) (ga_cons (ge_tup (ga_cons ge_int (ga_cons ge_int ga_nil))) ga_nil))) (ga_cons (ge_tup (ga_cons (ge_tup (ga_cons ge_int (ga_cons ge_int ga_nil))) (ga_cons (ge_tup (ga_cons ge_int (ga_cons ge_int ga_nil))) ga_nil))) ga_nil))) (nomark _)) (gss_one (gs_ret ge_bl)) gss_nil)
    (gss_one (gs_ret (ge_and (ge_cmp (lo_eq hr.units) (ge_cval T.cr_Turn T.cv_Turn_MOST_EXPONENT T.g_Turn.1) ge_int (nomark _)) (ge_one (ge_cmp (lo_eq hr.units) (ge_callO (ctab_Turn___call__ T rfl rfl rfl) (hr.mono (by decide)) tk (ge_var 4) (ga_cons (ge_tup (ga_cons ge_int (ga_cons ge_int ga_nil))) ga_nil)) (ge_tup (ga_cons ge_int (ga_cons ge_int ga_nil))) (nomark _)))))))))
end
end Gh

namespace Gh
open PySem PySem.Spec PyProof.Rows L2
def lo0 : List Str := ["__name__", "MatrixError", "LimitError", "WalkError", "BadMatrix", "BadFraction", "BadWord", "BadNumber", "IDENTITY", "S", "R", "is_integer", "is_pair", "is_unit", "normal_of", "is_matrix", "need_matrix", "times", "inverse_of", "power_of", "common_divisor", "is_fraction", "need_fraction", "taken_to", "MAX_WORD", "need_word", "matrix_of_letter", "matrix_of_text"]
def lo1 : List Str := ["numbers_text", "Turn", "_law_source", "_law_next", "_law_signed", "_law_times", "_law_back", "_law_of", "_law_matrix", "_law_text", "_law_repeated", "_law_moved", "_law_call_told", "_law_calls_right", "_law_refusals_right"]
def loose : List Str := lo0 ++ lo1
abbrev RR : PySem.W.OpenRow := PySem.W.OpenLaw.row PySem.Challenge.rw_cuspfloor_k62_turns_called
theorem head_run (w : World) : HandSHeadRun.RunEq RR (PySem.W.view RR.prog [49]) (hookT 6 fa fn tn) (obT 6 fa fn tn) 20000 loose w := by
  intro os
  kernel_rfl
theorem law_fin {P : Program} {w : World} {K : PySem.W.Frag} {h : Heap} {mg : Str → Option Value} {f : Addr} (X : K.In h) (G : h.Ns mainGlobals mg) (hfa : mg ("law" : Str) = some (.ref f)) (c : Left fa fn K) (tl : TabsL tn K h) :
    ∃ fd : FuncData, (∀ (s : Shared) (v : Value), BindsTo s fd ⟨[v], []⟩ [("_law_script", v)]) ∧ ∀ base : Heap, K.In base → base.Ns mainGlobals mg → (∀ d ∈ tn, LamX.TabB base mg (codeT K (d K)).1 (codeT K (d K)).2) → GOk P w K mg base 33 f fd ["_law_script"] (LSp K (sp_law (ca K))) := by
  have g1 := glo_ok X G (x := Str.ofString "law") (c.fact 28 (f := fGlo (Str.ofString "law")) rfl)
  have e := hfa.symm.trans g1.1
  cases e
  obtain ⟨fd, F⟩ := c.def_ 36 (d := df_law) rfl
  have b := FunD.bindsA (ps := ["_law_script"]) F fun _ _ _ _ _ _ us hl => match us, hl with | [_], _ => rfl
  exact ⟨fd, fun s v => b s [v] rfl, fun base _ _ tb => O_law (tf_of X G c tl tb) F⟩
end Gh
open PySem PySem.W PySem.Calls PyProof.Rows
theorem PySem.Challenge.cw_cuspfloor_k62_turns_called_holds : PySem.Challenge.rw_cuspfloor_k62_turns_called.Holds := by
  w_on; o_law
  refine HandSHeadRun.head_any (r := Gh.RR) (q := view Gh.RR.prog [49]) (H := Gh.hookT 6 Gh.fa Gh.fn Gh.tn) (ob := Gh.obT 6 Gh.fa Gh.fn Gh.tn) (M := 20000) (loose := Gh.loose) (d := HandSHeadRun.topDef Gh.RR.prog 49) (kwd := []) Gh.obT_eq
    (by kernel_rfl) (fun s => by kernel_rfl) Gh.head_run (by kernel_rfl) (by kernel_rfl) (by kernel_rfl) (by rfl) (by first | assumption | decide +kernel) (by decide +kernel) ⟨rfl, rfl, rfl, rfl, rfl, by decide +kernel⟩ ?hw ?hc
  case hw => w_witness2
  case hc =>
    refine Gh.law_endT Gh.tn (law := PySem.Challenge.rw_cuspfloor_k62_turns_called) (most := 63) (lvl := 33) (par := "_law_script") rfl (by decide) (by kernel_rfl) ⟨⟨rfl, by decide, by decide⟩, rfl⟩ ?_
    intro w mg fa h Y G hmg0
    obtain ⟨K, KX, c, tl⟩ := Y
    have hmg : mg ("law" : PySem.Str) = some (.ref fa) := by
      have e : (HandSHeadRun.topDef Gh.RR.prog 49).name = ("law" : PySem.Str) := by kernel_rfl
      rw [← e]
      exact hmg0
    obtain ⟨fd, hb, hF⟩ := Gh.law_fin (P := PySem.Challenge.rw_cuspfloor_k62_turns_called.prog) (w := w) KX G hmg c tl
    exact ⟨K, fd, Gh.sp_law (Gh.ca K), KX, tl, rfl, hb, Gh.law_good (Gh.ca K), hF⟩

