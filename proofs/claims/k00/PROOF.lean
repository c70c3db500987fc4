import PyProof.Rows.All
import HandS.ForMost
import HandS.SortInts
import HandS.IsInst
import HandS.Wide
import HandS.Flow
import HandS.HeadHook1
import PyProof.ReprRoads
import HandS.Zip
import HandS.More
import HandS.Conv
import HandS.SetFor
import HandS.Style
import HandS.TryOnly
import HandS.Defaults
import HandS.Head0
import HandS.Head1
import HandS.Head2
import HandS.HeadEnd
import HandS.HeadHook2
import HandS.DictComp
import HandS.Dict
import HandS.Small
import HandS.Iter
import KE.GoesEnum
import HandS.Finally
import HandS.DeepEq
import HandS.Sort
import KE.KDictList
import HandS.SortRule
import HandS.SortKw
import KE.DataMinMax
import PyProof.DictWalks
import HandS.Remove
import HandS.WordsExc
import HandS.Deep
import HandS.MakeKwOnly
import PyProof.DictUpdate
import HandS.Comp
import HandS.SetBool
import HandS.ExcCtx
import HandS.ExcIs
import KE.KExcIs
import HandS.ExcInit
import HandS.ExcField
import HandS.Star
import HandS.Hot
import PyProof.ZipIter
import PyProof.DictMoreH
import KE.KDictDisplayH
import PyProof.SumWalkG
import PyProof.WalkInts
import PyProof.Rows.SeqMore
import KE.SortData
import PyProof.Rows.TupAdd
import KE.GoesMore
import HandS.ExcValue
import PyProof.StrBlock2
import PyProof.ReprLen
import PySem.Challenge.RW_lateids_k00_errors
set_option Elab.async false
set_option linter.all false
set_option maxRecDepth 100000
/-! Zl, part 0: a plain heap and a plain meaning of the language's pieces; no program, no machine. -/
namespace Zl
open PySem L2

/-- other things: a set of ints, the number of its members; an error of the program's k-th class; a place that is not to be seen for now (a dict that is walked); a dict of ints by tuples of ints; the dict of place a while it is locked -/
inductive XT where
  | st (ns : List Int) (n : Nat) | ex (k : Nat) | lk | dt (kvs : List (List Int × Int)) | ld (a : Nat) (kvs : List (List Int × Int)) | lK (a : Nat) (kvs : List (Key × V))
  deriving DecidableEq
/-- what stands at a place of the plain heap -/
inductive O where
  | lst (xs : List V) | tup (xs : List V) | dK (kvs : List (Key × V)) | fz (xs : List V) | xt (t : XT)
  deriving DecidableEq
abbrev Hz := List O
def okV (n : Nat) : V → Bool
  | .ref a => decide (a < n)
  | _ => true
def okO (n : Nat) : O → Bool
  | .lst xs => xs.all (okV n)
  | .tup xs => xs.all (okV n)
  | .dK kvs => kvs.all fun p => okV n p.2
  | .fz xs => xs.all (okV n)
  | .xt (.ld a _) => decide (a < n)
  | .xt (.lK a kvs) => decide (a < n) && kvs.all fun p => okV n p.2
  | .xt _ => true
def isFz : O → Bool
  | .fz _ => true
  | .xt (.ex _) => true
  | .xt .lk => true
  | .xt (.ld _ _) => true
  | .xt (.lK _ _) => true
  | _ => false
/-- two places may have the very same object -/
def isFi : O → Bool
  | .tup _ => true
  | .xt (.ld _ _) => false
  | .xt (.lK _ _) => false
  | o => isFz o
def okS (n : Nat) (σ : St) : Bool := σ.all fun o => match o with | some v => okV n v | none => true

abbrev ME := St → Hz → Option (V × Hz)
abbrev MA := St → Hz → Option (List V × Hz)
abbrev MT := St → Hz → Option (Bool × Hz)
abbrev F1 := V → Hz → Option (V × Hz)
abbrev F2 := V → V → Hz → Option (V × Hz)
abbrev FL := List V → Hz → Option (V × Hz)
abbrev FM := V → List V → Hz → Option (V × Hz)

def alloc (o : O) (G : Hz) : Option (V × Hz) := some (.ref G.length, G ++ [o])

/-! ### expressions -/
def eVar (i : Nat) : ME := fun σ G => match σ[i]? with
  | some (some v) => some (v, G)
  | _ => none
def eC (v : V) : ME := fun _ G => some (v, G)
def eBin (f : F2) (a b : ME) : ME := fun σ G => (a σ G).bind fun p => (b σ p.2).bind fun q => f p.1 q.1 q.2
def eUn (f : F1) (a : ME) : ME := fun σ G => (a σ G).bind fun p => f p.1 p.2
def eChain (f g : F2) (a b c : ME) : ME := fun σ G => (a σ G).bind fun p => (b σ p.2).bind fun q => (f p.1 q.1 q.2).bind fun r =>
  match r.1 with
  | .bl true => (c σ r.2).bind fun s => g q.1 s.1 s.2
  | .bl false => some (.bl false, r.2)
  | _ => none
def eAnd (a b : ME) : ME := fun σ G => (a σ G).bind fun p => match p.1 with
  | .bl true => b σ p.2
  | .bl false => some (.bl false, p.2)
  | _ => none
def eOr (a b : ME) : ME := fun σ G => (a σ G).bind fun p => match p.1 with
  | .bl true => some (.bl true, p.2)
  | .bl false => b σ p.2
  | _ => none
def eNot (a : ME) : ME := fun σ G => (a σ G).bind fun p => match p.1 with
  | .bl k => some (.bl (!k), p.2)
  | _ => none
def eIf (t : MT) (a b : ME) : ME := fun σ G => (t σ G).bind fun p => if p.1 = true then a σ p.2 else b σ p.2
def aNil : MA := fun _ G => some ([], G)
def aCons (a : ME) (r : MA) : MA := fun σ G => (a σ G).bind fun p => (r σ p.2).bind fun q => some (p.1 :: q.1, q.2)
def eLst (r : MA) : ME := fun σ G => (r σ G).bind fun p => if p.1.length ≤ sizeLine then alloc (.lst p.1) p.2 else none
def eTup (r : MA) : ME := fun σ G => (r σ G).bind fun p => if p.1.length ≤ sizeLine then alloc (.tup p.1) p.2 else none
def eCall (f : FL) (r : MA) : ME := fun σ G => (r σ G).bind fun p => f p.1 p.2
def eMeth (T : V → Hz → Bool) (f : FM) (o : ME) (r : MA) : ME := fun σ G => (o σ G).bind fun p => if T p.1 p.2 = true then (r σ p.2).bind fun q => f p.1 q.1 q.2 else none
/-- a part of a slice -/
abbrev MO := St → Hz → Option (Option Int × Hz)
def oNone : MO := fun _ G => some (none, G)
def oSome (a : ME) : MO := fun σ G => (a σ G).bind fun p => match p.1 with
  | .int i => some (some i, p.2)
  | _ => none
def eSlice (f : V → Option Int → Option Int → Hz → Option (V × Hz)) (a : ME) (l h : MO) : ME := fun σ G => (a σ G).bind fun p => (l σ p.2).bind fun q => (h σ q.2).bind fun r => f p.1 q.1 r.1 r.2

/-! ### tests -/
def tE (a : ME) : MT := fun σ G => (a σ G).bind fun p => match p.1 with
  | .bl k => some (k, p.2)
  | _ => none
def tAndZ (a b : MT) : MT := fun σ G => (a σ G).bind fun p => if p.1 = true then b σ p.2 else some (false, p.2)
def tOrZ (a b : MT) : MT := fun σ G => (a σ G).bind fun p => if p.1 = true then some (true, p.2) else b σ p.2
def tNotZ (a : MT) : MT := fun σ G => (a σ G).bind fun p => some (!p.1, p.2)
def tYesZ : MT := fun _ G => some (true, G)

/-! ### what is thrown away -/
/-- each place below n is as it was, or knows only places below n -/
def keptB (n : Nat) : Hz → Hz → Bool
  | o :: G, o' :: G' => (decide (o = o') || okO n o') && keptB n G G'
  | [], _ => true
  | _ :: _, [] => false
/-- behind an expression: the new places go but for the answer's own -/
def cut (G : Hz) (v : V) (G' : Hz) : Option (V × Hz) :=
  if keptB G.length G G' = true then
    match v with
    | .ref a => if a < G.length then some (.ref a, G'.take G.length) else match G'[a]? with
      | some o => if okO G.length o = true ∧ isFz o = false then some (.ref G.length, G'.take G.length ++ [o]) else none
      | none => none
    | v => some (v, G'.take G.length)
  else none
def eCut (m : ME) : ME := fun σ G => (m σ G).bind fun p => cut G p.1 p.2
/-- the answer goes too -/
def eDrop (m : ME) : ME := fun σ G => (m σ G).bind fun p => if keptB G.length G p.2 = true then some (.non, p.2.take G.length) else none
def tCut (m : MT) : MT := fun σ G => (m σ G).bind fun p => if keptB G.length G p.2 = true then some (p.1, p.2.take G.length) else none

/-! ### statements -/
inductive R where
  | nx (σ : St) (G : Hz) | rt (v : V) (G : Hz) | bk (σ : St) (G : Hz) | ct (σ : St) (G : Hz)
abbrev MS := St → Hz → Option R
def R.then (r : R) (k : St → Hz → Option R) : Option R := match r with
  | .nx σ G => k σ G
  | r => some r
def sSeq (a b : MS) : MS := fun σ G => (a σ G).bind fun r => r.then b
def sPass : MS := fun σ G => some (.nx σ G)
def sNever : MS := fun _ _ => none
def sBreak : MS := fun σ G => some (.bk σ G)
def sCont : MS := fun σ G => some (.ct σ G)
def sExpr (a : ME) : MS := fun σ G => (a σ G).bind fun p => some (.nx σ p.2)
def sRet (a : ME) : MS := fun σ G => (a σ G).bind fun p => some (.rt p.1 p.2)
def sRetN : MS := fun _ G => some (.rt .non G)
def sIf (t : MT) (a b : MS) : MS := fun σ G => (t σ G).bind fun p => if p.1 = true then a σ p.2 else b σ p.2
/-- targets -/
abbrev MG := V → St → Hz → Option (St × Hz)
abbrev MGs := List V → St → Hz → Option (St × Hz)
def gSet (i : Nat) : MG := fun v σ G => some (σ.set i (some v), G)
def gsNil : MGs := fun vs σ G => match vs with
  | [] => some (σ, G)
  | _ => none
def gsCons (g : MG) (r : MGs) : MGs := fun vs σ G => match vs with
  | v :: vs => (g v σ G).bind fun p => r vs p.1 p.2
  | [] => none
def gUn (n : Nat) (r : MGs) : MG := fun v σ G => match v with
  | .ref a => match G[a]? with
    | some (.tup xs) => if xs.length = n then r xs σ G else none
    | some (.lst xs) => if xs.length = n then r xs σ G else none
    | _ => none
  | _ => none
def gPut (f : V → V → V → Hz → Option Hz) (o i : ME) : MG := fun v σ G => (o σ G).bind fun p => (i σ p.2).bind fun q => (f p.1 q.1 v q.2).bind fun G' => some (σ, G')
def sAsg (e : ME) (g : MG) : MS := fun σ G => (e σ G).bind fun p => (g p.1 σ p.2).bind fun q => some (.nx q.1 q.2)
def sPar (is : List Nat) (r : MA) : MS := fun σ G => (r σ G).bind fun p => if p.1.length = is.length then some (.nx ((is.zip p.1).foldl (fun σ q => σ.set q.1 (some q.2)) σ) p.2) else none
def sAug (i : Nat) (f : F2) (e : ME) : MS := fun σ G => match σ[i]? with
  | some (some x) => (e σ G).bind fun p => (f x p.1 p.2).bind fun q => some (.nx (σ.set i (some q.1)) q.2)
  | _ => none
/-- the slots ds forgotten, the places that the block made thrown away -/
def sGc (ds : List Nat) (b : MS) : MS := fun σ G => (b σ G).bind fun r => match r with
  | .nx σ' G' => if okS G.length (wipe σ' ds) = true ∧ keptB G.length G G' = true then some (.nx (wipe σ' ds) (G'.take G.length)) else none
  | .ct σ' G' => if okS G.length (wipe σ' ds) = true ∧ keptB G.length G G' = true then some (.ct (wipe σ' ds) (G'.take G.length)) else none
  | r => some r
/-- loops -/
abbrev MIt := Nat → Hz → Option (Option (V × Hz))
def itL (a : Nat) : MIt := fun i G => match G[a]? with
  | some (.lst xs) => some (xs[i]?.map fun x => (x, G))
  | some (.fz xs) => some (xs[i]?.map fun x => (x, G))
  | _ => none
def itT (a : Nat) : MIt := fun i G => match G[a]? with
  | some (.tup xs) => some (xs[i]?.map fun x => (x, G))
  | _ => none
def itR (lo : Int) (n : Nat) : MIt := fun i G => some (if i < n then some (.int (lo + (i : Int)), G) else none)
/-- enumerate: each turn lays a pair -/
def itE (a : Nat) : MIt := fun i G => match G[a]? with
  | some (.lst xs) => some (xs[i]?.map fun x => (.ref G.length, G ++ [.tup [.int (i : Int), x]]))
  | _ => none
def itZ (a b : Nat) : MIt := fun i G => match G[a]?, G[b]? with
  | some (.lst xs), some (.lst ys) => some (match xs[i]?, ys[i]? with
    | some x, some y => some (.ref G.length, G ++ [.tup [x, y]])
    | _, _ => none)
  | _, _ => none
abbrev MI := St → Hz → Option (MIt × Hz)
def small62 (i : Int) : Bool := decide (-(2 ^ 62) ≤ i ∧ i < 2 ^ 62)
def iRange1 (e : MA) : MI := fun σ G => (e σ G).bind fun p => match p.1 with
  | [.int j] => if small62 j = true then some (itR 0 j.toNat, p.2) else none
  | _ => none
def iRange2 (e : MA) : MI := fun σ G => (e σ G).bind fun p => match p.1 with
  | [.int i, .int j] => if small62 i = true ∧ small62 j = true then some (itR i (j - i).toNat, p.2) else none
  | _ => none
def iEnumZ (e : MA) : MI := fun σ G => (e σ G).bind fun p => match p.1 with
  | [.ref a] => match p.2[a]? with
    | some (.lst _) => some (itE a, p.2)
    | _ => none
  | _ => none
def iZipZ (e : MA) : MI := fun σ G => (e σ G).bind fun p => match p.1 with
  | [.ref a, .ref b] => match p.2[a]?, p.2[b]? with
    | some (.lst _), some (.lst _) => some (itZ a b, p.2)
    | _, _ => none
  | _ => none
def loopF (it : MIt) (g : MG) (b : MS) : Nat → Nat → St → Hz → Option R
  | 0, _, _, _ => none
  | f + 1, i, σ, G => match it i G with
    | none => none
    | some none => some (.nx σ G)
    | some (some (x, G1)) => (g x σ G1).bind fun p => (b p.1 p.2).bind fun r => match r with
      | .nx σ2 G2 => loopF it g b f (i + 1) σ2 G2
      | .ct σ2 G2 => loopF it g b f (i + 1) σ2 G2
      | .bk σ2 G2 => some (.nx σ2 G2)
      | .rt v G2 => some (.rt v G2)
def sFor (n : Nat) (w : MI) (g : MG) (b : MS) : MS := fun σ G => (w σ G).bind fun p => loopF p.1 g b n 0 σ p.2
/-- comprehensions: one turn, D the new list's place; cm: what a turn makes is thrown away but for the item -/
def turnC (cm : Bool) (g : MG) (t : MT) (e : ME) (D : Nat) (σ : St) (x : V) (G G1 : Hz) : Option Hz :=
  (g x σ G1).bind fun p => (t p.1 p.2).bind fun q => if q.1 = true then (e p.1 q.2).bind fun r =>
      (if cm = true then cut G r.1 r.2 else some r).bind fun s => match s.2[D]? with
        | some (.lst acc) => if acc.length < sizeLine then some (s.2.set D (.lst (acc ++ [s.1]))) else none
        | _ => none
    else if cm = true then (if keptB G.length G q.2 = true then some (q.2.take G.length) else none) else some q.2
def loopC (it : MIt) (turn : V → Hz → Hz → Option Hz) : Nat → Nat → Hz → Option Hz
  | 0, _, _ => none
  | f + 1, i, G => match it i G with
    | none => none
    | some none => some G
    | some (some (x, G1)) => (turn x G G1).bind fun G2 => loopC it turn f (i + 1) G2
def eComp (n : Nat) (cm : Bool) (w : MI) (vs : List Nat) (g : MG) (t : MT) (e : ME) : ME := fun σ G => (w σ G).bind fun p =>
  (loopC p.1 (turnC cm g t e p.2.length (wipe σ vs)) n 0 (p.2 ++ [.lst []])).bind fun G' => some (.ref p.2.length, G')
/-- a def: its slots at the entry, what its body answers -/
def startZ (n : Nat) (vs : List V) : St := vs.map some ++ List.replicate (n - vs.length) none
def runD (n : Nat) (b : MS) : FL := fun vs G => (b (startZ n vs) G).bind fun r => match r with
  | .nx _ G' => some (.non, G')
  | .rt v G' => some (v, G')
  | _ => none
def cutF (f : FL) : FL := fun vs G => (f vs G).bind fun p => cut G p.1 p.2

/-! ### operators by values -/
def bAdd : F2 := fun x y G => match x, y with
  | .int i, .int j => some (.int (i + j), G)
  | .str i, .str j => if i.length + j.length ≤ sizeLine then some (.str (i ++ j), G) else none
  | .ref a, .ref b => match G[a]?, G[b]? with
    | some (.lst xs), some (.lst ys) => if xs.length + ys.length ≤ sizeLine then alloc (.lst (xs ++ ys)) G else none
    | _, _ => none
  | _, _ => none
def bSub : F2 := fun x y G => match x, y with
  | .int i, .int j => some (.int (i - j), G)
  | _, _ => none
/-- a great bound; never unfolded -/
@[irreducible] def bigN : Nat := 2 ^ 2000
def smallN (i : Int) : Bool := decide (i.natAbs < bigN)
def bMul : F2 := fun x y G => match x, y with
  | .int i, .int j => if smallN i = true ∧ smallN j = true then some (.int (i * j), G) else none
  | .ref a, .int k => match G[a]? with
    | some (.lst xs) => if -(2 ^ 63) ≤ k ∧ k < 2 ^ 63 ∧ xs.length * k.toNat ≤ sizeLine then alloc (.lst (List.replicate k.toNat xs).flatten) G else none
    | _ => none
  | _, _ => none
def bMod : F2 := fun x y G => match x, y with
  | .int i, .int j => if j ≠ 0 then some (.int (i.fmod j), G) else none
  | _, _ => none
def bDiv : F2 := fun x y G => match x, y with
  | .int i, .int j => if j ≠ 0 ∧ smallN j = true then some (.int (i.fdiv j), G) else none
  | _, _ => none
def bPow : F2 := fun x y G => match x, y with
  | .int i, .int j => if smallN i = true ∧ 0 ≤ j ∧ j ≤ 1000 then some (.int (i ^ j.toNat), G) else none
  | _, _ => none
def cLt : F2 := fun x y G => match x, y with
  | .int i, .int j => some (.bl (decide (i < j)), G)
  | _, _ => none
def cLe : F2 := fun x y G => match x, y with
  | .int i, .int j => some (.bl (decide (i ≤ j)), G)
  | _, _ => none
def cGt : F2 := fun x y G => match x, y with
  | .int i, .int j => some (.bl (decide (j < i)), G)
  | _, _ => none
def cGe : F2 := fun x y G => match x, y with
  | .int i, .int j => some (.bl (decide (j ≤ i)), G)
  | _, _ => none
/-- what a value shows as data, to a depth -/
def mapO {α β : Type} (f : α → Option β) : List α → Option (List β)
  | [] => some []
  | x :: xs => (f x).bind fun y => (mapO f xs).bind fun ys => some (y :: ys)
def rdD : Nat → Hz → V → Option PyData
  | _, _, .non => some .none
  | _, _, .bl b => some (.bool b)
  | _, _, .int i => some (.int i)
  | _, _, .str x => some (.str x)
  | k + 1, G, .ref a => match G[a]? with
    | some (.lst xs) => (mapO (rdD k G) xs).bind fun ds => some (.list ds)
    | some (.tup xs) => (mapO (rdD k G) xs).bind fun ds => some (.tuple ds)
    | some (.dK kvs) => (mapO (fun p => (rdD k G p.2).bind fun d => some ((match p.1 with | .inl i => PyData.int i | .inr s => PyData.str s), d)) kvs).bind fun ds => some (.dict ds)
    | _ => none
  | _, _, _ => none
def dep : Nat := 20
def cEq : F2 := fun x y G => if scal x y = true then some (.bl (decide (x = y)), G) else
  match rdD dep G x, rdD dep G y with
  | some d, some e => if SeqAt.shaped d = true ∧ SeqAt.shaped e = true then some (.bl (PyData.eqv d e), G) else none
  | _, _ => none
def cNe : F2 := fun x y G => if scal x y = true then some (.bl (!decide (x = y)), G) else
  match rdD dep G x, rdD dep G y with
  | some d, some e => if SeqAt.shaped d = true ∧ SeqAt.shaped e = true then some (.bl (!PyData.eqv d e), G) else none
  | _, _ => none
def cIsN : F1 := fun x G => some (.bl (decide (x = .non)), G)
def cNotN : F1 := fun x G => some (.bl (!decide (x = .non)), G)
def keyOf : V → Option Key
  | .int i => some (.inl i)
  | .str s => some (.inr s)
  | _ => none
def cInG (neg : Bool) : F2 := fun x y G => match y with
  | .ref a => match G[a]? with
    | some (.lst xs) => if flatV x = true ∧ xs.all flatV = true then some (.bl (neg != inV x xs), G) else none
    | some (.tup xs) => if flatV x = true ∧ xs.all flatV = true then some (.bl (neg != inV x xs), G) else none
    | some (.dK kvs) => match keyOf x with
      | some k => some (.bl (neg != (valV kvs k).isSome), G)
      | none => none
    | _ => none
  | _ => none
abbrev cIn : F2 := cInG false
/-! ### subscripts -/
def xIx : F2 := fun x y G => match x, y with
  | .ref a, .int i => match G[a]? with
    | some (.lst xs) => (atI xs i).bind fun v => some (v, G)
    | some (.fz xs) => (atI xs i).bind fun v => some (v, G)
    | some (.tup xs) => (atI xs i).bind fun v => some (v, G)
    | _ => none
  | .str z, .int i => if z.length ≤ sizeLine then (atI z.cps.toList i).bind fun c => some (.str ⟨#[c]⟩, G) else none
  | _, _ => none
def xCut : V → Option Int → Option Int → Hz → Option (V × Hz) := fun x lo hi G => match x with
  | .ref a => match G[a]? with
    | some (.lst xs) => alloc (.lst (cutV xs lo hi)) G
    | _ => none
  | _ => none
def pLst : V → V → V → Hz → Option Hz := fun o i v G => match o, i with
  | .ref a, .int k => match G[a]? with
    | some (.lst xs) => (ixN xs.length k).bind fun j => some (G.set a (.lst (xs.set j v)))
    | _ => none
  | _, _ => none
/-! ### built-ins -/
def ints? : List V → Option (List Int) := mapO fun v => match v with | .int i => some i | _ => none
def bls? : List V → Option (List Bool) := mapO fun v => match v with | .bl i => some i | _ => none
def fLen : FL := fun vs G => match vs with
  | [.ref a] => match G[a]? with
    | some (.lst xs) => some (.int xs.length, G)
    | some (.fz xs) => some (.int xs.length, G)
    | some (.tup xs) => some (.int xs.length, G)
    | some (.dK kvs) => some (.int kvs.length, G)
    | _ => none
  | [.str z] => if z.length ≤ sizeLine then some (.int z.length, G) else none
  | _ => none
def maxI : Int → List Int → Int
  | m, [] => m
  | m, x :: xs => maxI (if x > m then x else m) xs
def minI : Int → List Int → Int
  | m, [] => m
  | m, x :: xs => minI (if x < m then x else m) xs
def fMax : FL := fun vs G => match vs with
  | [.int i, .int j] => some (.int (if j > i then j else i), G)
  | [.ref a] => match G[a]? with
    | some (.lst xs) => match ints? xs with
      | some (m :: ns) => some (.int (maxI m ns), G)
      | _ => none
    | _ => none
  | _ => none
def fMin : FL := fun vs G => match vs with
  | [.int i, .int j] => some (.int (if j < i then j else i), G)
  | [.ref a] => match G[a]? with
    | some (.lst xs) => match ints? xs with
      | some (m :: ns) => some (.int (minI m ns), G)
      | _ => none
    | _ => none
  | _ => none
def fSum : FL := fun vs G => match vs with
  | [.ref a] => match G[a]? with
    | some (.lst xs) => (ints? xs).bind fun ns => some (.int ns.sum, G)
    | _ => none
  | _ => none
def fAll : FL := fun vs G => match vs with
  | [.ref a] => match G[a]? with
    | some (.lst xs) => (bls? xs).bind fun bs => some (.bl (bs.all id), G)
    | _ => none
  | _ => none
def fAny : FL := fun vs G => match vs with
  | [.ref a] => match G[a]? with
    | some (.lst xs) => (bls? xs).bind fun bs => some (.bl (bs.any id), G)
    | _ => none
  | _ => none
def isort (ns : List Int) : List Int := ns.mergeSort (fun a b => decide (a ≤ b))
def fSorted : FL := fun vs G => match vs with
  | [.ref a] => match G[a]? with
    | some (.lst xs) => (ints? xs).bind fun ns => alloc (.lst ((isort ns).map V.int)) G
    | _ => none
  | _ => none
def fList : FL := fun vs G => match vs with
  | [.ref a] => match G[a]? with
    | some (.lst xs) => alloc (.lst xs) G
    | some (.tup xs) => alloc (.lst xs) G
    | _ => none
  | _ => none
def fAbs : FL := fun vs G => match vs with
  | [.int i] => some (.int (if i < 0 then -i else i), G)
  | _ => none
def fInt : FL := fun vs G => match vs with
  | [.int i] => some (.int i, G)
  | [.bl k] => some (.int (if k then 1 else 0), G)
  | _ => none
/-! ### methods -/
def isLst (v : V) (G : Hz) : Bool := match v with
  | .ref a => match G[a]? with
    | some (.lst _) => true
    | _ => false
  | _ => false
def mAppend : FM := fun o vs G => match o, vs with
  | .ref a, [y] => match G[a]? with
    | some (.lst xs) => if xs.length < sizeLine then some (.non, G.set a (.lst (xs ++ [y]))) else none
    | _ => none
  | _, _ => none
def mPop : FM := fun o vs G => match o, vs with
  | .ref a, [] => match G[a]? with
    | some (.lst xs) => match xs[xs.length - 1]? with
      | some y => some (y, G.set a (.lst xs.dropLast))
      | none => none
    | _ => none
  | .ref a, [.int i] => match G[a]? with
    | some (.lst xs) => if -(2 ^ 63) ≤ i ∧ i < 2 ^ 63 then match seqIndex? i xs.length with
        | some k => match xs[k]? with
          | some y => some (y, G.set a (.lst (xs.eraseIdx k)))
          | none => none
        | none => none
      else none
    | _ => none
  | _, _ => none
def mClear : FM := fun o vs G => match o, vs with
  | .ref a, [] => match G[a]? with
    | some (.lst _) => some (.non, G.set a (.lst []))
    | _ => none
  | _, _ => none
def mReverse : FM := fun o vs G => match o, vs with
  | .ref a, [] => match G[a]? with
    | some (.lst xs) => some (.non, G.set a (.lst xs.reverse))
    | _ => none
  | _, _ => none
def mInsert : FM := fun o vs G => match o, vs with
  | .ref a, [.int i, y] => match G[a]? with
    | some (.lst xs) => if xs.length < sizeLine ∧ 0 ≤ i ∧ i < 2 ^ 63 then some (.non, G.set a (.lst (xs.take i.toNat ++ [y] ++ xs.drop i.toNat))) else none
    | _ => none
  | _, _ => none
def mExtend : FM := fun o vs G => match o, vs with
  | .ref a, [.ref b] => match G[a]?, G[b]? with
    | some (.lst xs), some (.lst ys) => if xs.length + ys.length ≤ sizeLine then some (.non, G.set a (.lst (xs ++ ys))) else none
    | _, _ => none
  | _, _ => none
/-- the first place of an int -/
def mIndex : FM := fun o vs G => match o, vs with
  | .ref a, [.int k] => match G[a]? with
    | some (.lst xs) => match ints? xs with
      | some ns => if k ∈ ns then some (.int ((ns.idxOf k : Nat) : Int), G) else none
      | none => none
    | _ => none
  | _, _ => none
end Zl

/-! Zl, part 1: the plain heap stands in the layer's heap; the rules. -/
namespace Zl
open PySem PySem.Spec L2
open PyProof.Rows hiding St

/-- where the places of the plain heap stand; the objects of those that are locked -/
structure Em where
  ad : Nat → Addr
  od : Nat → Obj
def obj0 : Obj := { cls := .none, data := .fields #[] }
def emC (f : Nat → Addr) : Em := ⟨f, fun _ => obj0⟩
instance : CoeFun Em fun _ => Nat → Addr := ⟨Em.ad⟩
def mv (ι : Em) : V → V
  | .ref a => .ref (ι a)
  | v => v
/-- the program's error classes -/
def errL : List Str := ["InvalidHistory", "InvalidPosition", "InvalidOrder", "InvalidMoment", "InvalidPolls", "InvalidId", "InvalidIds", "InvalidNumber", "InvalidLog", "InvalidLogs", "InvalidPoll", "InvalidCounts", "InvalidRound", "InvalidName", "InvalidCommand", "NothingToUndo", "NotPossible", "NoFit", "InvalidText", "TooLarge"]
def errC (k : Nat) : Str := errL.getD (k % 32) "LateError"
/-- an error's code: its class, and what its field holds (a number or None) -/
def zig : Int → Nat
  | .ofNat n => 2 * n + 1
  | .negSucc n => 2 * n + 2
def payC : V → Option Nat
  | .non => some 0
  | .int i => some (zig i)
  | _ => none
def zag (q : Nat) : V := if q = 0 then .non else if q % 2 = 1 then .int ((q / 2 : Nat) : Int) else .int (Int.negSucc (q / 2 - 1))
theorem zag_payC {v : V} {q : Nat} (h : payC v = some q) : zag q = v := by
  unfold payC at h
  split at h
  · cases h
    rfl
  · rename_i i
    cases h
    cases i with
    | ofNat n =>
      show zag (2 * n + 1) = .int (.ofNat n)
      unfold zag
      rw [if_neg (by omega), if_pos (by omega)]
      have : (2 * n + 1) / 2 = n := by omega
      rw [this]
      rfl
    | negSucc n =>
      show zag (2 * n + 2) = .int (.negSucc n)
      unfold zag
      rw [if_neg (by omega), if_neg (by omega)]
      have : (2 * n + 2) / 2 - 1 = n := by omega
      rw [this]
  · cases h
def exC (k q : Nat) : Nat := k + 32 * q
def fldL : List Str := ["row", "reader", "position", "limit"]
def payF (c : Nat) : Option (Str × V) := if 16 ≤ c % 32 ∧ c % 32 < 20 then some (fldL.getD (c % 32 - 16) "", zag (c / 32)) else none
theorem errC_mod (k : Nat) : errC (k % 32) = errC k := by
  unfold errC
  rw [Nat.mod_mod]
theorem exC_mod {k q : Nat} (h : k < 32) : exC k q % 32 = k := by
  unfold exC
  omega
theorem exC_div {k q : Nat} (h : k < 32) : exC k q / 32 = q := by
  unfold exC
  omega
theorem zag_atom (q : Nat) : ∀ a, zag q ≠ .ref a := fun a z => by
  unfold zag at z
  split at z
  · cases z
  · split at z <;> cases z
/-- the dict of an error of this code -/
def PayAt (c : Nat) (d : Option Addr) (H : Hp) : Prop := match payF c with
  | none => d = none
  | some p => ∃ dd, d = some dd ∧ H dd = some (.xd [p])
theorem PayAt.to {c : Nat} {d : Option Addr} {H H' : Hp} (h : PayAt c d H) (hx : ∀ dd fs, H dd = some (.xd fs) → H' dd = some (.xd fs)) : PayAt c d H' := by
  unfold PayAt at h ⊢
  split
  · rename_i q
    rw [q] at h
    exact h
  · rename_i p q
    rw [q] at h
    obtain ⟨dd, h1, h2⟩ := h
    exact ⟨dd, h1, hx _ _ h2⟩
/-- the tracked object of such an error, frozen -/
def IsEx (K : PySem.W.Frag) (k : Nat) (H : Hp) (a : Addr) : Prop := ∃ (oe : Obj) (u : HO) (vs : Array Value), H a = some (.frz oe u) ∧ oe.cls = .ref (He.ga K (errC k)) ∧ PayAt k oe.dict H ∧ oe.data = .fields vs ∧ vs[2]? = some .none
/-- the entries of a dict of ints by tuples of ints -/
def dtK (kvs : List (List Int × Int)) : List (List Key × V) := kvs.map fun p => (p.1.map Sum.inl, V.int p.2)
def XT.ho : XT → HO
  | .st ns n => .set (fun j => decide (j ∈ ns)) n
  | .ex _ => .rng 0 0
  | .lk => .rng 0 0
  | .dt kvs => .dT (dtK kvs)
  | .ld _ kvs => .dT (dtK kvs)
  | .lK _ _ => .rng 0 0
def O.ho (ι : Em) : O → HO
  | .lst xs => .lst (xs.map (mv ι))
  | .tup xs => .tup (xs.map (mv ι))
  | .dK kvs => .dK (kvs.map fun p => (p.1, mv ι p.2))
  | .fz xs => .lst (xs.map (mv ι))
  | .xt t => t.ho
def ms (ι : Em) (σ : St) : St := σ.map fun o => o.map (mv ι)
def KL (K : PySem.W.Frag) (a : Addr) (xs : List V) : Prop :=
  ∃ (o : Obj) (its : Array Value) (n : Nat), K.lookup a = some o ∧ o.cls = .type "list" ∧ o.dict = none ∧ o.data = .seq its n ∧ its.size ≤ sizeLine ∧ Vals xs its.toList
def IsDictO (o : Obj) : Prop := ∃ es ep, o.data = .dict es ep
def AtZ (K : PySem.W.Frag) (ι : Em) (H : Hp) (i : Nat) : O → Prop
  | .fz xs => (∃ ob, H (ι i) = some (.frz ob (.lst (xs.map (mv ι))))) ∨ KL K (ι i) (xs.map (mv ι))
  | .lst xs => H (ι i) = some (.lst (xs.map (mv ι)))
  | .tup xs => H (ι i) = some (.tup (xs.map (mv ι)))
  | .dK kvs => H (ι i) = some (.dK (kvs.map fun p => (p.1, mv ι p.2)))
  | .xt (.st ns n) => H (ι i) = some (.set (fun j => decide (j ∈ ns)) n)
  | .xt (.ex k) => IsEx K k H (ι i)
  | .xt .lk => True
  | .xt (.dt kvs) => H (ι i) = some (.dT (dtK kvs))
  | .xt (.ld a kvs) => (ι i = ι a ∧ IsDictO (ι.od i)) ∧ H (ι i) = some (.frz (ι.od i) (.dT (dtK kvs)))
  | .xt (.lK a kvs) => (ι i = ι a ∧ IsDictO (ι.od i)) ∧ H (ι i) = some (.frz (ι.od i) (.dK (kvs.map fun p => (p.1, mv ι p.2))))
structure Agr (n : Nat) (ι ι' : Em) : Prop where
  ad : ∀ i, i < n → ι i = ι' i
  od : ∀ i, i < n → ι.od i = ι'.od i
instance {n : Nat} {ι ι' : Em} : CoeFun (Agr n ι ι') fun _ => ∀ i, i < n → ι i = ι' i := ⟨Agr.ad⟩
theorem Agr.refl {n : Nat} {ι : Em} : Agr n ι ι := ⟨fun _ _ => rfl, fun _ _ => rfl⟩
theorem Agr.mono {n m : Nat} {ι ι' : Em} (h : Agr n ι ι') (l : m ≤ n) : Agr m ι ι' := ⟨fun i hi => h.ad i (Nat.lt_of_lt_of_le hi l), fun i hi => h.od i (Nat.lt_of_lt_of_le hi l)⟩
theorem Agr.trans {n m : Nat} {ι ι' κ : Em} (h : Agr n ι ι') (k : Agr m ι' κ) (l : n ≤ m) : Agr n ι κ := ⟨fun i hi => (h.ad i hi).trans (k.ad i (Nat.lt_of_lt_of_le hi l)), fun i hi => (h.od i hi).trans (k.od i (Nat.lt_of_lt_of_le hi l))⟩
theorem mv_agr {n : Nat} {ι ι' : Em} {v : V} (a : Agr n ι ι') (o : okV n v = true) : mv ι v = mv ι' v := by
  cases v with
  | ref b => exact congrArg V.ref (a b (of_decide_eq_true o))
  | _ => rfl
theorem mvs_agr {n : Nat} {ι ι' : Em} {xs : List V} (a : Agr n ι ι') (o : xs.all (okV n) = true) : xs.map (mv ι) = xs.map (mv ι') :=
  List.map_congr_left fun v hv => mv_agr a (List.all_eq_true.mp o v hv)
theorem kvs_agr {n : Nat} {ι ι' : Em} {kvs : List (Key × V)} (a : Agr n ι ι') (o : (kvs.all fun p => okV n p.2) = true) :
    (kvs.map fun p => (p.1, mv ι p.2)) = kvs.map fun p => (p.1, mv ι' p.2) :=
  List.map_congr_left fun v hv => by rw [mv_agr a (List.all_eq_true.mp o v hv)]
theorem ms_agr {n : Nat} {ι ι' : Em} {σ : St} (a : Agr n ι ι') (o : okS n σ = true) : ms ι σ = ms ι' σ :=
  List.map_congr_left fun v hv => by
    cases v with
    | none => rfl
    | some v => exact congrArg some (mv_agr a (List.all_eq_true.mp o (some v) hv))
theorem okV_mono {n m : Nat} {v : V} (l : n ≤ m) (h : okV n v = true) : okV m v = true := by
  cases v with
  | ref b => exact decide_eq_true (Nat.lt_of_lt_of_le (of_decide_eq_true h) l)
  | _ => rfl
theorem okVs_mono {n m : Nat} {xs : List V} (l : n ≤ m) (h : xs.all (okV n) = true) : xs.all (okV m) = true :=
  List.all_eq_true.mpr fun v hv => okV_mono l (List.all_eq_true.mp h v hv)
theorem okO_mono {n m : Nat} {o : O} (l : n ≤ m) (h : okO n o = true) : okO m o = true := by
  cases o with
  | lst xs => exact okVs_mono l h
  | tup xs => exact okVs_mono l h
  | fz xs => exact okVs_mono l h
  | dK kvs => exact List.all_eq_true.mpr fun v hv => okV_mono l (List.all_eq_true.mp h v hv)
  | xt t => cases t with
    | ld a kvs => exact decide_eq_true (Nat.lt_of_lt_of_le (of_decide_eq_true h) l)
    | lK a kvs =>
      obtain ⟨h1, h2⟩ := Bool.and_eq_true_iff.mp h
      exact Bool.and_eq_true_iff.mpr ⟨decide_eq_true (Nat.lt_of_lt_of_le (of_decide_eq_true h1) l), List.all_eq_true.mpr fun v hv => okV_mono l (List.all_eq_true.mp h2 v hv)⟩
    | _ => rfl
theorem okS_mono {n m : Nat} {σ : St} (l : n ≤ m) (h : okS n σ = true) : okS m σ = true :=
  List.all_eq_true.mpr fun v hv => by
    have := List.all_eq_true.mp h v hv
    cases v with
    | none => rfl
    | some v => exact okV_mono l this
theorem okS_get {n i : Nat} {σ : St} {v : V} (h : okS n σ = true) (e : σ[i]? = some (some v)) : okV n v = true := List.all_eq_true.mp h (some v) (List.mem_of_getElem? e)
theorem okS_set {n i : Nat} {σ : St} {v : V} (h : okS n σ = true) (o : okV n v = true) : okS n (σ.set i (some v)) = true :=
  List.all_eq_true.mpr fun x hx => by
    rcases List.mem_or_eq_of_mem_set hx with e | e
    · exact List.all_eq_true.mp h x e
    · subst e
      exact o
theorem okS_none {n i : Nat} {σ : St} (h : okS n σ = true) : okS n (σ.set i none) = true :=
  List.all_eq_true.mpr fun x hx => by
    rcases List.mem_or_eq_of_mem_set hx with e | e
    · exact List.all_eq_true.mp h x e
    · subst e
      rfl
theorem okS_wipe {n : Nat} {σ : St} (h : okS n σ = true) : ∀ ds : List Nat, okS n (wipe σ ds) = true
  | [] => h
  | _ :: ds => okS_none (okS_wipe h ds)
theorem ms_get {ι : Em} {σ : St} {i : Nat} {v : V} (e : σ[i]? = some (some v)) : (ms ι σ)[i]? = some (some (mv ι v)) := by
  unfold ms
  rw [List.getElem?_map, e]
  rfl
theorem ms_set {ι : Em} {σ : St} {i : Nat} {v : V} : ms ι (σ.set i (some v)) = (ms ι σ).set i (some (mv ι v)) := by
  unfold ms
  rw [List.map_set]
  rfl
theorem ms_none {ι : Em} {σ : St} {i : Nat} : ms ι (σ.set i none) = (ms ι σ).set i none := by
  unfold ms
  rw [List.map_set]
  rfl
theorem ms_wipe {ι : Em} {σ : St} : ∀ ds : List Nat, ms ι (wipe σ ds) = wipe (ms ι σ) ds
  | [] => rfl
  | d :: ds => by
    show ms ι ((wipe σ ds).set d none) = (wipe (ms ι σ) ds).set d none
    rw [ms_none, ms_wipe ds]
theorem ms_length {ι : Em} {σ : St} : (ms ι σ).length = σ.length := List.length_map ..

/-- the plain heap stands in the layer's -/
structure Rel (K : PySem.W.Frag) (ι : Em) (G : Hz) (H : Hp) : Prop where
  at_ : ∀ (i : Nat) o, G[i]? = some o → AtZ K ι H i o
  inj : ∀ (i j : Nat) o u, G[i]? = some o → G[j]? = some u → isFi o = false → isFi u = false → ι i = ι j → i = j
  ok : ∀ (i : Nat) o, G[i]? = some o → okO G.length o = true

section
variable {K : PySem.W.Frag} {ι ι' : Em} {G : Hz} {H : Hp} {i : Nat}
theorem Rel.lstM {xs : List V} (R : Rel K ι G H) (e : G[i]? = some (.lst xs)) : H (ι i) = some (.lst (xs.map (mv ι))) := R.at_ i _ e
theorem Rel.tupM {xs : List V} (R : Rel K ι G H) (e : G[i]? = some (.tup xs)) : H (ι i) = some (.tup (xs.map (mv ι))) := R.at_ i _ e
theorem Rel.dkM {kvs : List (Key × V)} (R : Rel K ι G H) (e : G[i]? = some (.dK kvs)) : H (ι i) = some (.dK (kvs.map fun p => (p.1, mv ι p.2))) := R.at_ i _ e
theorem Rel.lstS {xs : List V} (R : Rel K ι G H) (e : G[i]? = some (.lst xs)) : SqL K H (ι i) (xs.map (mv ι)) := .of (R.lstM e)
theorem Rel.tupS {xs : List V} (R : Rel K ι G H) (e : G[i]? = some (.tup xs)) : SqT K H (ι i) (xs.map (mv ι)) := .of (R.tupM e)
theorem Rel.fzS {xs : List V} (R : Rel K ι G H) (e : G[i]? = some (.fz xs)) : SqL K H (ι i) (xs.map (mv ι)) := by
  rcases R.at_ i _ e with ⟨ob, h⟩ | h
  · exact .inl (.inr ⟨ob, h⟩)
  · exact .inr h
theorem AtZ.of_ho {o : O} (n : isFz o = false) (h : H (ι i) = some (o.ho ι)) : AtZ K ι H i o := by
  cases o with
  | fz xs => cases n
  | xt t => cases t with
    | st ns m => exact h
    | ex k => cases n
    | lk => cases n
    | ld a kvs => cases n
    | lK a kvs => cases n
    | dt kvs => exact h
  | _ => exact h
theorem AtZ.ho {o : O} (n : isFz o = false) (h : AtZ K ι H i o) : H (ι i) = some (o.ho ι) := by
  cases o with
  | fz xs => cases n
  | xt t => cases t with
    | st ns m => exact h
    | ex k => cases n
    | lk => cases n
    | ld a kvs => cases n
    | lK a kvs => cases n
    | dt kvs => exact h
  | _ => exact h
theorem AtZ.there {o : O} (n : isFi o = false) (h : AtZ K ι H i o) : ∃ w, H (ι i) = some w := by
  cases o with
  | fz xs => cases n
  | tup xs => cases n
  | xt t => cases t with
    | st ns m => exact ⟨_, h⟩
    | ex k => cases n
    | lk => cases n
    | ld a kvs => exact ⟨_, h.2⟩
    | lK a kvs => exact ⟨_, h.2⟩
    | dt kvs => exact ⟨_, h⟩
  | _ => exact ⟨_, h⟩
theorem ho_agr {n : Nat} {o : O} (a : Agr n ι ι') (k : okO n o = true) : o.ho ι = o.ho ι' := by
  cases o with
  | lst xs => exact congrArg HO.lst (mvs_agr a k)
  | tup xs => exact congrArg HO.tup (mvs_agr a k)
  | fz xs => exact congrArg HO.lst (mvs_agr a k)
  | dK kvs => exact congrArg HO.dK (kvs_agr a k)
  | xt t => rfl
/-- what stands at a place of the heap stands there in another one that agrees -/
theorem AtZ.to {H' : Hp} {n : Nat} {o : O} (a : Agr n ι ι') (hi : i < n) (k : okO n o = true) (hn : isFz o = false → H (ι i) = some (o.ho ι) → H' (ι i) = some (o.ho ι))
    (hf : ∀ ob u, H (ι i) = some (.frz ob u) → H' (ι i) = some (.frz ob u)) (hx : ∀ dd fs, H dd = some (.xd fs) → H' dd = some (.xd fs)) (h : AtZ K ι H i o) : AtZ K ι' H' i o := by
  have e : ι i = ι' i := a i hi
  cases o with
  | lst xs =>
    show H' (ι' i) = some (.lst (xs.map (mv ι')))
    rw [← e, ← mvs_agr a k]
    exact hn rfl h
  | tup xs =>
    show H' (ι' i) = some (.tup (xs.map (mv ι')))
    rw [← e, ← mvs_agr a k]
    exact hn rfl h
  | dK kvs =>
    show H' (ι' i) = some (.dK (kvs.map fun p => (p.1, mv ι' p.2)))
    rw [← e, ← kvs_agr a k]
    exact hn rfl h
  | xt t => cases t with
    | st ns m =>
      show H' (ι' i) = some (.set (fun j => decide (j ∈ ns)) m)
      rw [← e]
      exact hn rfl h
    | ex k =>
      obtain ⟨oe, u, vs, h1, h2, h3, h4⟩ := h
      refine ⟨oe, u, vs, ?_, h2, h3.to hx, h4⟩
      rw [← e]
      exact hf oe u h1
    | lk => trivial
    | ld b kvs =>
      obtain ⟨⟨h1, h3⟩, h2⟩ := h
      refine ⟨⟨by rw [← e, h1]; exact a b (of_decide_eq_true k), by rw [← a.od i hi]; exact h3⟩, ?_⟩
      rw [← e, ← a.od i hi]
      exact hf _ _ h2
    | lK b kvs =>
      obtain ⟨⟨h1, h3⟩, h2⟩ := h
      obtain ⟨k1, k2⟩ := Bool.and_eq_true_iff.mp k
      refine ⟨⟨by rw [← e, h1]; exact a b (of_decide_eq_true k1), by rw [← a.od i hi]; exact h3⟩, ?_⟩
      rw [← e, ← a.od i hi, ← kvs_agr a k2]
      exact hf _ _ h2
    | dt kvs =>
      show H' (ι' i) = some (.dT (dtK kvs))
      rw [← e]
      exact hn rfl h
  | fz xs =>
    rcases h with ⟨ob, h⟩ | h
    · refine .inl ⟨ob, ?_⟩
      rw [← e, ← mvs_agr a k]
      exact hf _ _ h
    · refine .inr ?_
      rw [← e, ← mvs_agr a k]
      exact h

def ext (ι : Em) (n : Nat) (p : Addr) : Em := ⟨fun i => if i = n then p else ι i, ι.od⟩
theorem ext_agr {n : Nat} {p : Addr} : Agr n ι (ext ι n p) := ⟨fun i hi => (if_neg (Nat.ne_of_lt hi)).symm, fun _ _ => rfl⟩
theorem ext_self {n : Nat} {p : Addr} : ext ι n p n = p := if_pos rfl
theorem lt_of_get {α : Type} {l : List α} {i : Nat} {x : α} (e : l[i]? = some x) : i < l.length := (List.getElem?_eq_some_iff.mp e).1
/-- a new object -/
theorem Rel.new {o : O} {p : Addr} (R : Rel K ι G H) (k : okO G.length o = true) (n : isFz o = false) (hp : H p = none) : Rel K (ext ι G.length p) (G ++ [o]) (upd H p (o.ho ι)) := by
  have get : ∀ {i : Nat} {u}, (G ++ [o])[i]? = some u → (i < G.length ∧ G[i]? = some u) ∨ (i = G.length ∧ u = o) := fun {i u} e => by
    by_cases hi : i < G.length
    · exact .inl ⟨hi, by rwa [List.getElem?_append_left hi] at e⟩
    · have := lt_of_get e
      simp only [List.length_append, List.length_cons, List.length_nil] at this
      obtain rfl : i = G.length := by omega
      refine .inr ⟨rfl, ?_⟩
      simpa using e.symm
  have there : ∀ {i : Nat} {u}, G[i]? = some u → isFi u = false → ι i ≠ p := fun {i u} e nf z => by
    obtain ⟨w, this⟩ := (R.at_ i u e).there nf
    rw [z, hp] at this
    cases this
  refine ⟨fun i u e => ?_, fun i j u v e1 e2 n1 n2 q => ?_, fun i u e => ?_⟩
  · rcases get e with ⟨hi, e⟩ | ⟨rfl, rfl⟩
    · refine (R.at_ i u e).to ext_agr hi (R.ok i u e) (fun _ hw => ?_) (fun _ _ hw => ?_) fun _ _ hw => ?_ <;>
      · rw [upd_ne (ne_of_none hw hp)]
        exact hw
    · refine .of_ho n ?_
      rw [ext_self, upd_same, ho_agr (ext_agr (ι := ι) (p := p)) k]
  · rcases get e1 with ⟨hi, f1⟩ | ⟨z1, w1⟩
    · rcases get e2 with ⟨hj, f2⟩ | ⟨z2, w2⟩
      · rw [← ext_agr i hi, ← ext_agr j hj] at q
        exact R.inj i j u v f1 f2 n1 n2 q
      · rw [← ext_agr i hi, z2, ext_self] at q
        exact absurd q (there f1 n1)
    · rcases get e2 with ⟨hj, f2⟩ | ⟨z2, w2⟩
      · rw [← ext_agr j hj, z1, ext_self] at q
        exact absurd q.symm (there f2 n2)
      · exact z1.trans z2.symm
  · have l : G.length ≤ (G ++ [o]).length := by simp
    rcases get e with ⟨hi, e⟩ | ⟨rfl, rfl⟩
    · exact okO_mono l (R.ok i u e)
    · exact okO_mono l k
/-- an object is changed -/
theorem Rel.put {o o' : O} (R : Rel K ι G H) (e : G[i]? = some o) (n2 : (isFi o || isFz o) = false) (k : okO G.length o' = true) (n' : isFz o' = false) : Rel K ι (G.set i o') (upd H (ι i) (o'.ho ι)) := by
  obtain ⟨nn, n⟩ := Bool.or_eq_false_iff.mp n2
  have hi := lt_of_get e
  have get : ∀ {j : Nat} {u}, (G.set i o')[j]? = some u → (j ≠ i ∧ G[j]? = some u) ∨ (j = i ∧ u = o') := fun {j u} q => by
    by_cases z : j = i
    · subst z
      rw [List.getElem?_set_self hi] at q
      exact .inr ⟨rfl, (Option.some.inj q).symm⟩
    · rw [List.getElem?_set_ne (Ne.symm z)] at q
      exact .inl ⟨z, q⟩
  refine ⟨fun j u q => ?_, fun j l u v e1 e2 n1 n2 q => ?_, fun j u q => ?_⟩
  · rcases get q with ⟨z, q⟩ | ⟨rfl, rfl⟩
    · have h1 := (R.at_ i o e).ho n
      refine (R.at_ j u q).to (Agr.refl (n := G.length)) (lt_of_get q) (R.ok j u q) (fun f hw => ?_) (fun ob w hw => ?_) fun dd fs hw => ?_
      · rw [upd_ne fun y => ?_]
        · exact hw
        · by_cases fi : isFi u = false
          · exact z (R.inj j i u o q e fi nn y)
          · cases u with
            | tup xs =>
              rw [y, h1] at hw
              cases o with
              | tup ys => cases nn
              | xt t => cases t <;> cases hw
              | _ => cases hw
            | xt t => cases t <;> first | exact fi f | cases f
            | _ => exact fi f
      · rw [upd_ne fun y => ?_]
        · exact hw
        · rw [y, h1] at hw
          cases o with
          | xt t => cases t <;> cases hw
          | _ => cases hw
      · rw [upd_ne fun y => ?_]
        · exact hw
        · rw [y, h1] at hw
          cases o with
          | xt t => cases t <;> cases hw
          | _ => cases hw
    · exact .of_ho n' upd_same
  · rcases get e1 with ⟨z1, f1⟩ | ⟨z1, w1⟩
    · rcases get e2 with ⟨z2, f2⟩ | ⟨z2, w2⟩
      · exact R.inj j l u v f1 f2 n1 n2 q
      · rw [z2] at q ⊢
        exact R.inj j i u o f1 e n1 nn q
    · rcases get e2 with ⟨z2, f2⟩ | ⟨z2, w2⟩
      · rw [z1] at q ⊢
        exact R.inj i l o v e f2 nn n2 q
      · exact z1.trans z2.symm
  · rw [List.length_set]
    rcases get q with ⟨z, q⟩ | ⟨rfl, rfl⟩
    · exact R.ok j u q
    · exact k
/-- an error that stands in the layer's heap already -/
theorem Rel.newE {k : Nat} {p : Addr} (R : Rel K ι G H) (hp : IsEx K k H p) : Rel K (ext ι G.length p) (G ++ [.xt (.ex k)]) H := by
  have get : ∀ {i : Nat} {u}, (G ++ [O.xt (.ex k)])[i]? = some u → (i < G.length ∧ G[i]? = some u) ∨ (i = G.length ∧ u = .xt (.ex k)) := fun {i u} e => by
    by_cases hi : i < G.length
    · exact .inl ⟨hi, by rwa [List.getElem?_append_left hi] at e⟩
    · have := lt_of_get e
      simp only [List.length_append, List.length_cons, List.length_nil] at this
      obtain rfl : i = G.length := by omega
      refine .inr ⟨rfl, ?_⟩
      simpa using e.symm
  refine ⟨fun i u e => ?_, fun i j u v e1 e2 n1 n2 q => ?_, fun i u e => ?_⟩
  · rcases get e with ⟨hi, e⟩ | ⟨rfl, rfl⟩
    · exact (R.at_ i u e).to ext_agr hi (R.ok i u e) (fun _ hw => hw) (fun _ _ hw => hw) fun _ _ hw => hw
    · show IsEx K k H (ext ι G.length p G.length)
      rw [ext_self]
      exact hp
  · rcases get e1 with ⟨hi, f1⟩ | ⟨z1, w1⟩
    · rcases get e2 with ⟨hj, f2⟩ | ⟨z2, w2⟩
      · rw [← ext_agr i hi, ← ext_agr j hj] at q
        exact R.inj i j u v f1 f2 n1 n2 q
      · rw [w2] at n2
        cases n2
    · rw [w1] at n1
      cases n1
  · have l : G.length ≤ (G ++ [O.xt (.ex k)]).length := by simp
    rcases get e with ⟨hi, e⟩ | ⟨rfl, rfl⟩
    · exact okO_mono l (R.ok i u e)
    · rfl
end
end Zl

/-! Zl, part 2: rules for expressions, tests, arguments. -/
namespace Zl
open PySem PySem.Spec L2
open PyProof.Rows hiding St

def Pz (K : PySem.W.Frag) (ι : Em) (n : Nat) (v : V) (G' : Hz) (Q : VK) : Prop :=
  ∀ (ι' : Em) (H' : Hp), Agr n ι ι' → Rel K ι' G' H' → n ≤ G'.length → okV G'.length v = true → Q (mv ι' v) H'
def liftE (K : PySem.W.Frag) (m : ME) : TE := fun σ H Q => ∃ (ι : Em) (σ0 : L2.St) (G : Hz) (v : V) (G' : Hz),
  σ = ms ι σ0 ∧ okS G.length σ0 = true ∧ Rel K ι G H ∧ m σ0 G = some (v, G') ∧ Pz K ι G.length v G' Q
def PzA (K : PySem.W.Frag) (ι : Em) (n : Nat) (vs : List V) (G' : Hz) (Q : List V → Hp → Prop) : Prop :=
  ∀ (ι' : Em) (H' : Hp), Agr n ι ι' → Rel K ι' G' H' → n ≤ G'.length → vs.all (okV G'.length) = true → Q (vs.map (mv ι')) H'
def liftA (K : PySem.W.Frag) (m : MA) : TA := fun σ H Q => ∃ (ι : Em) (σ0 : L2.St) (G : Hz) (vs : List V) (G' : Hz),
  σ = ms ι σ0 ∧ okS G.length σ0 = true ∧ Rel K ι G H ∧ m σ0 G = some (vs, G') ∧ PzA K ι G.length vs G' Q
def PzB {α : Type} (K : PySem.W.Frag) (ι : Em) (n : Nat) (v : α) (G' : Hz) (Q : α → Hp → Prop) : Prop :=
  ∀ (ι' : Em) (H' : Hp), Agr n ι ι' → Rel K ι' G' H' → n ≤ G'.length → Q v H'
def liftB {α : Type} (K : PySem.W.Frag) (m : L2.St → Hz → Option (α × Hz)) : L2.St → Hp → (α → Hp → Prop) → Prop := fun σ H Q => ∃ (ι : Em) (σ0 : L2.St) (G : Hz) (v : α) (G' : Hz),
  σ = ms ι σ0 ∧ okS G.length σ0 = true ∧ Rel K ι G H ∧ m σ0 G = some (v, G') ∧ PzB K ι G.length v G' Q

def SE (X : Cx) (e : Expr) (m : ME) : Prop := PE X e (liftE X.K m)
def SA (X : Cx) (es : List Expr) (m : MA) : Prop := PA X es (liftA X.K m)
def SO (X : Cx) (e : Option Expr) (m : MO) : Prop := PO X e (liftB X.K m)
def STt (X : Cx) (e : Expr) (m : MT) : Prop := PT X e (liftB X.K m)
def SW (X : Cx) (e : Expr) (m : MT) : Prop := PW X e (liftB X.K m)

section
variable {X : Cx} {e a b c : Expr} {es rest : List Expr} {pos : Pos}
theorem PE.imp {t t' : TE} (h : PE X e t) (i : ∀ σ H Q, t' σ H Q → t σ H Q) : PE X e t' := ⟨fun pins s σ H Q I q => h.run pins s σ H Q I (i σ H Q q)⟩
theorem PA.imp {t t' : TA} (h : PA X es t) (i : ∀ σ H Q, t' σ H Q → t σ H Q) : PA X es t' := ⟨fun pos pins s σ H Q I q => h.run pos pins s σ H Q I (i σ H Q q)⟩
theorem PO.imp {o : Option Expr} {t t' : TO} (h : PO X o t) (i : ∀ σ H Q, t' σ H Q → t σ H Q) : PO X o t' := ⟨fun pins s σ H Q I q => h.run pins s σ H Q I (i σ H Q q)⟩
theorem PT.imp {t t' : TT} (h : PT X e t) (i : ∀ σ H Q, t' σ H Q → t σ H Q) : PT X e t' := ⟨fun pins s σ H Q I q => h.run pins s σ H Q I (i σ H Q q)⟩
theorem PW.imp {t t' : TT} (h : PW X e t) (i : ∀ σ H Q, t' σ H Q → t σ H Q) : PW X e t' := ⟨fun wh pins s σ H Q I q => h.run wh pins s σ H Q I (i σ H Q q)⟩

/-- the pieces of a lifted meaning, one after another -/
theorem liftE.into {K : PySem.W.Frag} {m : ME} {ι : Em} {σ0 : L2.St} {G : Hz} {v : V} {G' : Hz} {H : Hp} {Q : VK} (so : okS G.length σ0 = true) (R : Rel K ι G H) (e : m σ0 G = some (v, G')) (p : Pz K ι G.length v G' Q) : liftE K m (ms ι σ0) H Q :=
  ⟨ι, σ0, G, v, G', rfl, so, R, e, p⟩
theorem bnd {α β : Type} {o : Option α} {f : α → Option β} {y : β} (h : o.bind f = some y) : ∃ x, o = some x ∧ f x = some y := Option.bind_eq_some_iff.mp h

/-! ### names, constants -/
theorem se_var {i : Nat} {x : Str} (h : PE X (.Name x pos) (tVar i)) : SE X (.Name x pos) (eVar i) := PE.imp h fun σ H Q h => by
  obtain ⟨ι, σ0, G, v, G', rfl, so, R, e, p⟩ := h
  unfold eVar at e
  cases q : σ0[i]? with
  | none => rw [q] at e; cases e
  | some o => cases o with
    | none => rw [q] at e; cases e
    | some u =>
      rw [q] at e
      cases e
      exact ⟨mv ι v, ms_get q, p ι H Agr.refl R (Nat.le_refl _) (okS_get so q)⟩
def atomV : V → Bool
  | .ref _ => false
  | _ => true
theorem atom_mv {v : V} (h : atomV v = true) (ι : Em) : mv ι v = v := by cases v <;> first | rfl | cases h
theorem atom_ok {v : V} (h : atomV v = true) (n : Nat) : okV n v = true := by cases v <;> first | rfl | cases h
theorem se_c {v : V} (h : PE X e (tC v)) (k : atomV v = true := by rfl) : SE X e (eC v) := PE.imp h fun σ H Q h => by
  obtain ⟨ι, σ0, G, u, G', rfl, so, R, e, p⟩ := h
  cases e
  have q := p ι H Agr.refl R (Nat.le_refl _) (atom_ok k _)
  rw [atom_mv k] at q
  exact q
/-- another meaning that gives the same -/
theorem SE.as {m m' : ME} (h : SE X e m) (q : ∀ σ G, m σ G = m' σ G) : SE X e m' := by
  have : m = m' := funext fun σ => funext fun G => q σ G
  rw [← this]
  exact h

/-! ### operators -/
def OpZ (X : Cx) (F : Value → Value → Sem Value) (f : F2) : Prop := ∃ r, OpR X F r ∧ ∀ (ι : Em) (G : Hz) (H : Hp) (x y v : V) (G' : Hz) (Q : VK), Rel X.K ι G H → okV G.length x = true → okV G.length y = true →
  f x y G = some (v, G') → Pz X.K ι G.length v G' Q → r (mv ι x) (mv ι y) H Q
theorem two {K : PySem.W.Frag} {ma mb : ME} {f : F2} {ι : Em} {σ0 : L2.St} {G G' : Hz} {v : V} {H : Hp} {Q : VK} {r : R2} (so : okS G.length σ0 = true) (R : Rel K ι G H) (e : eBin f ma mb σ0 G = some (v, G')) (p : Pz K ι G.length v G' Q)
    (hf : ∀ (ι : Em) (G : Hz) (H : Hp) (x y v : V) (G' : Hz) (Q : VK), Rel K ι G H → okV G.length x = true → okV G.length y = true → f x y G = some (v, G') → Pz K ι G.length v G' Q → r (mv ι x) (mv ι y) H Q) :
    tOp r (liftE K ma) (liftE K mb) (ms ι σ0) H Q := by
  obtain ⟨⟨x, G1⟩, e1, e⟩ := bnd e
  obtain ⟨⟨y, G2⟩, e2, e⟩ := bnd e
  refine liftE.into so R e1 fun ι1 H1 a1 R1 l1 k1 => ?_
  rw [ms_agr a1 so]
  refine liftE.into (okS_mono l1 so) R1 e2 fun ι2 H2 a2 R2 l2 k2 => ?_
  rw [mv_agr a2 k1]
  exact hf ι2 G2 H2 x y v G' Q R2 (okV_mono l2 k1) k2 e fun ι3 H3 a3 R3 l3 k3 => p ι3 H3 ((a1.trans a2 l1).trans a3 (Nat.le_trans l1 l2)) R3 (Nat.le_trans (Nat.le_trans l1 l2) l3) k3
theorem se_bin {op : Operator} {f : F2} {ma mb : ME} (h : OpZ X (binaryOp op) f) (ha : SE X a ma) (hb : SE X b mb) : SE X (.BinOp a op b pos) (eBin f ma mb) := by
  obtain ⟨r, hr, hf⟩ := h
  refine PE.imp (pe_op hr ha hb) fun σ H Q h => ?_
  obtain ⟨ι, σ0, G, v, G', rfl, so, R, e, p⟩ := h
  exact two so R e p hf
theorem se_cmp {op : CmpOp} {f : F2} {ma mb : ME} (h : OpZ X (compareOp op) f) (ha : SE X a ma) (hb : SE X b mb) (hm : behindInMarks op b = false) : SE X (.Compare a [op] [b] pos) (eBin f ma mb) := by
  obtain ⟨r, hr, hf⟩ := h
  refine PE.imp (pe_cmpR hr ha hb hm) fun σ H Q h => ?_
  obtain ⟨ι, σ0, G, v, G', rfl, so, R, e, p⟩ := h
  exact two so R e p hf
theorem te_split {m : ME} {σ : L2.St} {G G' : Hz} {k : Bool} (e : tE m σ G = some (k, G')) : m σ G = some (.bl k, G') := by
  obtain ⟨⟨x, G1⟩, e1, e⟩ := bnd e
  cases x with
  | bl j => cases e; exact e1
  | _ => cases e
theorem st_cmp {op : CmpOp} {f : F2} {ma mb : ME} (h : OpZ X (compareOp op) f) (ha : SE X a ma) (hb : SE X b mb) (hm : behindInMarks op b = false) : STt X (.Compare a [op] [b] pos) (tE (eBin f ma mb)) := by
  obtain ⟨r, hr, hf⟩ := h
  refine PT.imp (pt_cmpR hr ha hb hm) fun σ H Q h => ?_
  obtain ⟨ι, σ0, G, v, G', rfl, so, R, e, p⟩ := h
  exact two (Q := fun x H' => ∃ k, x = V.bl k ∧ Q k H') so R (te_split e) (fun ι' H' a' R' l' _ => ⟨v, rfl, p ι' H' a' R' l'⟩) hf
theorem st_val {m : ME} (h : SE X e m) (he : ∀ whole, isTrue e X.env whole = (do let v ← whole; standAt e.pos; holding [v] (truthy v)) := by intro _; rfl) : STt X e (tE m) := by
  refine PT.imp (pt_val h he) fun σ H Q h => ?_
  obtain ⟨ι, σ0, G, v, G', rfl, so, R, e, p⟩ := h
  exact liftE.into so R (te_split e) fun ι' H' a' R' l' _ => ⟨v, rfl, p ι' H' a' R' l'⟩
theorem st_not {m : MT} (h : STt X a m) : STt X (.UnaryOp .Not a pos) (tNotZ m) := by
  refine PT.imp (pt_not h) fun σ H Q h => ?_
  obtain ⟨ι, σ0, G, v, G', rfl, so, R, e, p⟩ := h
  obtain ⟨⟨k, G1⟩, e1, e⟩ := bnd e
  cases e
  exact ⟨ι, σ0, G, k, G1, rfl, so, R, e1, p⟩
theorem SW.pt {m : MT} (h : SW X e m) : STt X e m := L2.PW.pt h
theorem sw_or1 {m : MT} (h : STt X a m) : SW X (.BoolOp .Or [a] pos) m := pw_or1 h
theorem sw_or {m m' : MT} (ha : STt X a m) (hb : SW X (.BoolOp .Or (b :: rest) pos) m') : SW X (.BoolOp .Or (a :: b :: rest) pos) (tOrZ m m') := by
  refine PW.imp (pw_or ha hb) fun σ H Q h => ?_
  obtain ⟨ι, σ0, G, v, G', rfl, so, R, e, p⟩ := h
  obtain ⟨⟨k, G1⟩, e1, e⟩ := bnd e
  refine ⟨ι, σ0, G, k, G1, rfl, so, R, e1, fun ι1 H1 a1 R1 l1 => ?_⟩
  cases k with
  | true =>
    rw [if_pos rfl] at e ⊢
    cases e
    exact p ι1 H1 a1 R1 l1
  | false =>
    rw [if_neg Bool.false_ne_true] at e ⊢
    rw [ms_agr a1 so]
    exact ⟨ι1, σ0, G1, v, G', rfl, okS_mono l1 so, R1, e, fun ι2 H2 a2 R2 l2 => p ι2 H2 (a1.trans a2 l1) R2 (Nat.le_trans l1 l2)⟩
/-! and, or, not as values -/
theorem se_ifE {mt : MT} {ma mb : ME} (hc : STt X c mt) (ha : SE X a ma) (hb : SE X b mb) : SE X (.IfExp c a b pos) (eIf mt ma mb) := by
  refine PE.imp (pe_ifExp hc ha hb) fun σ H Q h => ?_
  obtain ⟨ι, σ0, G, v, G', rfl, so, R, e, p⟩ := h
  obtain ⟨⟨k, G1⟩, e1, e⟩ := bnd e
  refine ⟨ι, σ0, G, k, G1, rfl, so, R, e1, fun ι1 H1 a1 R1 l1 => ?_⟩
  rw [ms_agr a1 so]
  cases k with
  | true =>
    rw [if_pos rfl] at e ⊢
    exact liftE.into (okS_mono l1 so) R1 e fun ι2 H2 a2 R2 l2 k2 => p ι2 H2 (a1.trans a2 l1) R2 (Nat.le_trans l1 l2) k2
  | false =>
    rw [if_neg Bool.false_ne_true] at e ⊢
    exact liftE.into (okS_mono l1 so) R1 e fun ι2 H2 a2 R2 l2 k2 => p ι2 H2 (a1.trans a2 l1) R2 (Nat.le_trans l1 l2) k2
/-! ### arguments, displays -/
theorem sa_nil : SA X [] aNil := PA.imp pa_nil fun σ H Q h => by
  obtain ⟨ι, σ0, G, v, G', rfl, so, R, e, p⟩ := h
  cases e
  exact p ι H Agr.refl R (Nat.le_refl _) rfl
theorem sa_cons {m : ME} {r : MA} (ha : SE X e m) (hr : SA X es r) (hs : starEach (e :: es) X.env = (false, eval e X.env) :: starEach es X.env := by rfl) : SA X (e :: es) (aCons m r) := PA.imp (pa_cons ha hr hs) fun σ H Q h => by
  obtain ⟨ι, σ0, G, v, G', rfl, so, R, e, p⟩ := h
  obtain ⟨⟨x, G1⟩, e1, e⟩ := bnd e
  obtain ⟨⟨xs, G2⟩, e2, e⟩ := bnd e
  cases e
  refine liftE.into so R e1 fun ι1 H1 a1 R1 l1 k1 => ?_
  rw [ms_agr a1 so]
  refine ⟨ι1, σ0, G1, xs, G2, rfl, okS_mono l1 so, R1, e2, fun ι2 H2 a2 R2 l2 k2 => ?_⟩
  rw [mv_agr a2 k1]
  exact p ι2 H2 (a1.trans a2 l1) R2 (Nat.le_trans l1 l2) (by rw [List.all_cons, okV_mono l2 k1, k2]; rfl)
theorem Pz.alloc {K : PySem.W.Frag} {ι : Em} {G : Hz} {H : Hp} {o : O} {Q : VK} {v : V} {G' : Hz} (R : Rel K ι G H) (k : okO G.length o = true) (n : isFz o = false) (e : alloc o G = some (v, G')) (p : Pz K ι G.length v G' Q) : ∀ q, H q = none → Q (.ref q) (upd H q (o.ho ι)) := fun q hq => by
  cases e
  have := p (ext ι G.length q) (upd H q (o.ho ι)) ext_agr (R.new k n hq) (by simp) (by simp [okV])
  have z : mv (ext ι G.length q) (.ref G.length) = .ref q := congrArg V.ref ext_self
  rw [z] at this
  exact this
theorem se_lst {r : MA} (h : SA X es r) : SE X (.List es pos) (eLst r) := PE.imp (pe_lst h) fun σ H Q h => by
  obtain ⟨ι, σ0, G, v, G', rfl, so, R, e, p⟩ := h
  obtain ⟨⟨xs, G1⟩, e1, e⟩ := bnd e
  dsimp only at e
  split at e
  · rename_i z
    refine ⟨ι, σ0, G, xs, G1, rfl, so, R, e1, fun ι1 H1 a1 R1 l1 k1 => ⟨by rw [List.length_map]; exact z, ?_⟩⟩
    exact Pz.alloc (o := .lst xs) R1 k1 rfl e fun ι2 H2 a2 R2 l2 k2 => p ι2 H2 (a1.trans a2 l1) R2 (Nat.le_trans l1 l2) k2
  · cases e
/-! ### subscripts, slices -/
def IxZ (X : Cx) (f : F2) : Prop := ∃ r, IxR X r ∧ ∀ (ι : Em) (G : Hz) (H : Hp) (x y v : V) (G' : Hz) (Q : VK), Rel X.K ι G H → okV G.length x = true → okV G.length y = true →
  f x y G = some (v, G') → Pz X.K ι G.length v G' Q → r (mv ι x) (mv ι y) H Q
theorem se_ix {f : F2} {ma mb : ME} (h : IxZ X f) (ha : SE X a ma) (hb : SE X b mb) (hs : PlainIx b) : SE X (.Subscript a b pos) (eBin f ma mb) := by
  obtain ⟨r, hr, hf⟩ := h
  refine PE.imp (pe_ix hr ha hb hs) fun σ H Q h => ?_
  obtain ⟨ι, σ0, G, v, G', rfl, so, R, e, p⟩ := h
  exact two so R e p hf
/-! ### built-ins by name, methods of built-in types -/
def CallZ (X : Cx) (F : Value) (f : FL) : Prop := ∃ r, CallR X F r ∧ ∀ (ι : Em) (G : Hz) (H : Hp) (vs : List V) (v : V) (G' : Hz) (Q : VK), Rel X.K ι G H → vs.all (okV G.length) = true →
  f vs G = some (v, G') → Pz X.K ι G.length v G' Q → r (vs.map (mv ι)) H Q
theorem call_of {K : PySem.W.Frag} {f : FL} {m : MA} {r : List V → Hp → VK → Prop} {ι : Em} {σ0 : L2.St} {G G' : Hz} {v : V} {H : Hp} {Q : VK} (so : okS G.length σ0 = true) (R : Rel K ι G H) (e : eCall f m σ0 G = some (v, G')) (p : Pz K ι G.length v G' Q)
    (hf : ∀ (ι : Em) (G : Hz) (H : Hp) (vs : List V) (v : V) (G' : Hz) (Q : VK), Rel K ι G H → vs.all (okV G.length) = true → f vs G = some (v, G') → Pz K ι G.length v G' Q → r (vs.map (mv ι)) H Q) :
    liftA K m (ms ι σ0) H fun vs H1 => r vs H1 Q := by
  obtain ⟨⟨xs, G1⟩, e1, e⟩ := bnd e
  refine ⟨ι, σ0, G, xs, G1, rfl, so, R, e1, fun ι1 H1 a1 R1 l1 k1 => ?_⟩
  exact hf ι1 G1 H1 xs v G' Q R1 k1 e fun ι2 H2 a2 R2 l2 k2 => p ι2 H2 (a1.trans a2 l1) R2 (Nat.le_trans l1 l2) k2
theorem se_callB {id : String} {f : FL} {m : MA} {x : Str} {p : Pos} (hc : CallZ X (.builtin id) f) (hg : Gl X x) (hm : X.mg x = none) (hv : bootBuiltins x = some (.builtin id)) (ha : SA X (e :: es) m) (hn : x ≠ "__name__" := by decide) (hdb : (x == ("__debug__" : Str)) = false := by decide)
    (he : starEach (e :: es) X.env = (false, eval e X.env) :: starEach es X.env := by rfl) (hpl : (backTo pos (starEach es X.env)).any (·.1) = false := by rfl) : SE X (.Call (.Name x p) (e :: es) [] pos) (eCall f m) := by
  obtain ⟨r, hr, hf⟩ := hc
  refine PE.imp (pe_callB hr hg hm hv ha hn hdb he hpl) fun σ H Q h => ?_
  obtain ⟨ι, σ0, G, v, G', rfl, so, R, e, p⟩ := h
  exact call_of so R e p hf
variable {o : Expr} {name : Str} {apos cpos : Pos} {T id : String} {tp : V → Hz → Bool} {f : FM} {m : ME}
/-! ### what is thrown away -/
theorem kept_len {G : Hz} : ∀ {G' : Hz} {n : Nat}, keptB n G G' = true → G.length ≤ G'.length := by
  induction G with
  | nil => intro _ _ _; exact Nat.zero_le _
  | cons o G ih =>
    intro G' n h
    cases G' with
    | nil => cases h
    | cons o' G' => exact Nat.succ_le_succ (ih (Bool.and_eq_true_iff.mp h).2)
theorem kept_at {G : Hz} : ∀ {G' : Hz} {n i : Nat} {u : O}, keptB n G G' = true → i < G.length → G'[i]? = some u → G[i]? = some u ∨ okO n u = true := by
  induction G with
  | nil => intro _ _ _ _ _ l; exact absurd l (Nat.not_lt_zero _)
  | cons o G ih =>
    intro G' n i u h l e
    cases G' with
    | nil => cases h
    | cons o' G' =>
      obtain ⟨h1, h2⟩ := Bool.and_eq_true_iff.mp h
      cases i with
      | zero =>
        cases e
        rcases Bool.or_eq_true_iff.mp h1 with q | q
        · exact .inl (congrArg some (of_decide_eq_true q))
        · exact .inr q
      | succ i => exact ih (G' := G') h2 (Nat.lt_of_succ_lt_succ l) e
theorem Rel.cut {K : PySem.W.Frag} {ι ι' : Em} {G G' : Hz} {H H' : Hp} (R : Rel K ι G H) (R' : Rel K ι' G' H') (h : keptB G.length G G' = true) : Rel K ι' (G'.take G.length) H' := by
  have len : (G'.take G.length).length = G.length := by rw [List.length_take]; exact Nat.min_eq_left (kept_len h)
  have get : ∀ {i : Nat} {u}, (G'.take G.length)[i]? = some u → i < G.length ∧ G'[i]? = some u := fun {i u} e => by
    have l : i < G.length := by rw [← len]; exact lt_of_get e
    rw [List.getElem?_take_of_lt l] at e
    exact ⟨l, e⟩
  refine ⟨fun i u e => R'.at_ i u (get e).2, fun i j u v e1 e2 => R'.inj i j u v (get e1).2 (get e2).2, fun i u e => ?_⟩
  obtain ⟨l, e⟩ := get e
  rw [len]
  rcases kept_at h l e with q | q
  · exact R.ok i u q
  · exact q
theorem cut_to {K : PySem.W.Frag} {ι ι' : Em} {G G' G2 : Hz} {H H' : Hp} {v w : V} (R : Rel K ι G H) (R' : Rel K ι' G' H') (a : Agr G.length ι ι') (k : okV G'.length v = true) (h : cut G v G' = some (w, G2)) :
    ∃ ι2, Agr G.length ι ι2 ∧ Rel K ι2 G2 H' ∧ mv ι2 w = mv ι' v ∧ okV G2.length w = true ∧ G.length ≤ G2.length := by
  unfold Zl.cut at h
  split at h
  · rename_i kb
    have R2 := R.cut R' kb
    have len : (G'.take G.length).length = G.length := by rw [List.length_take]; exact Nat.min_eq_left (kept_len kb)
    have old : ∀ {u : V}, okV G.length u = true → ∃ ι2, Agr G.length ι ι2 ∧ Rel K ι2 (G'.take G.length) H' ∧ mv ι2 u = mv ι' u ∧ okV (G'.take G.length).length u = true ∧ G.length ≤ (G'.take G.length).length := fun {u} ku =>
      ⟨ι', a, R2, rfl, by rw [len]; exact ku, Nat.le_of_eq len.symm⟩
    cases v with
    | ref b =>
      dsimp only at h
      split at h
      · rename_i lt
        cases h
        exact old (decide_eq_true lt)
      · cases q : G'[b]? with
        | none => rw [q] at h; cases h
        | some o =>
          rw [q] at h
          dsimp only at h
          split at h
          · rename_i ko
            cases h
            have ag : Agr G.length ι' (ext ι' G.length (ι' b)) := ext_agr
            refine ⟨ext ι' G.length (ι' b), a.trans ag (Nat.le_refl _), ?_, congrArg V.ref ext_self, ?_, ?_⟩
            · have nb : ¬ b < G.length := by assumption
              have get : ∀ {i : Nat} {u}, (G'.take G.length ++ [o])[i]? = some u → (i < G.length ∧ G'[i]? = some u ∧ okO G.length u = true) ∨ (i = G.length ∧ u = o) := fun {i u} e => by
                by_cases hi : i < G.length
                · rw [List.getElem?_append_left (by rw [len]; exact hi)] at e
                  have z := R2.ok i u e
                  rw [len] at z
                  rw [List.getElem?_take_of_lt hi] at e
                  exact .inl ⟨hi, e, z⟩
                · have l := lt_of_get e
                  rw [List.length_append, len, List.length_cons, List.length_nil] at l
                  obtain rfl : i = G.length := by omega
                  rw [List.getElem?_append_right (by rw [len]; exact Nat.le_refl _), len, Nat.sub_self] at e
                  exact .inr ⟨rfl, (Option.some.inj e).symm⟩
              refine ⟨fun i u e => ?_, fun i j u w e1 e2 n1 n2 z => ?_, fun i u e => ?_⟩
              · rcases get e with ⟨hi, e, ku⟩ | ⟨z1, z2⟩
                · exact (R'.at_ i u e).to ag hi ku (fun _ x => x) (fun _ _ x => x) fun _ _ x => x
                · subst z1 z2
                  have z := (R'.at_ b u q).ho ko.2
                  rw [ho_agr ag ko.1] at z
                  exact .of_ho ko.2 (by rw [ext_self]; exact z)
              · rcases get e1 with ⟨hi, f1, _⟩ | ⟨z1, w1⟩
                · rcases get e2 with ⟨hj, f2, _⟩ | ⟨z2, w2⟩
                  · rw [← ag i hi, ← ag j hj] at z
                    exact R'.inj i j u w f1 f2 n1 n2 z
                  · rw [← ag i hi, z2, ext_self] at z
                    have y := R'.inj i b u o f1 q n1 (by rw [w2] at n2; exact n2) z
                    rw [y] at hi
                    exact absurd hi nb
                · rcases get e2 with ⟨hj, f2, _⟩ | ⟨z2, w2⟩
                  · rw [← ag j hj, z1, ext_self] at z
                    have y := R'.inj b j o w q f2 (by rw [w1] at n1; exact n1) n2 z
                    rw [← y] at hj
                    exact absurd hj nb
                  · exact z1.trans z2.symm
              · have l : G.length ≤ (G'.take G.length ++ [o]).length := by rw [List.length_append, len]; exact Nat.le_add_right _ _
                rcases get e with ⟨hi, e, ku⟩ | ⟨z1, z2⟩
                · exact okO_mono l ku
                · rw [z2]
                  exact okO_mono l ko.1
            · rw [List.length_append, len]
              exact decide_eq_true (Nat.lt_succ_self _)
            · rw [List.length_append, len]
              exact Nat.le_add_right _ _
          · cases h
    | _ =>
      cases h
      exact old rfl
  · cases h
end
end Zl

/-! Zl, part 3: the operators, built-ins and methods keep to the layer's rules. -/
namespace Zl
open PySem PySem.Spec L2
open PyProof.Rows hiding St

section
variable {X : Cx}
theorem Pz.same {K : PySem.W.Frag} {ι : Em} {G : Hz} {H : Hp} {v : V} {Q : VK} (R : Rel K ι G H) (p : Pz K ι G.length v G Q) (k : okV G.length v = true) : Q (mv ι v) H := p ι H .refl R (Nat.le_refl _) k
theorem Pz.put {K : PySem.W.Frag} {ι : Em} {G : Hz} {H : Hp} {v : V} {Q : VK} {i : Nat} {o o' : O} (R : Rel K ι G H) (e : G[i]? = some o) (n : (isFi o || isFz o) = false) (k : okO G.length o' = true) (n' : isFz o' = false) (p : Pz K ι G.length v (G.set i o') Q) (kv : okV G.length v = true) : Q (mv ι v) (upd H (ι i) (o'.ho ι)) :=
  p ι _ .refl (R.put e n k n') (by rw [List.length_set]; exact Nat.le_refl _) (by rw [List.length_set]; exact kv)
theorem Rel.okl {K : PySem.W.Frag} {ι : Em} {G : Hz} {H : Hp} {i : Nat} {xs : List V} (R : Rel K ι G H) (e : G[i]? = some (.lst xs)) : xs.all (okV G.length) = true := R.ok i _ e
theorem Rel.okt {K : PySem.W.Frag} {ι : Em} {G : Hz} {H : Hp} {i : Nat} {xs : List V} (R : Rel K ι G H) (e : G[i]? = some (.tup xs)) : xs.all (okV G.length) = true := R.ok i _ e
theorem all_mem {xs : List V} {n : Nat} {v : V} (h : xs.all (okV n) = true) (m : v ∈ xs) : okV n v = true := List.all_eq_true.mp h v m
theorem all_sub {xs ys : List V} {n : Nat} (h : xs.all (okV n) = true) (m : ∀ v, v ∈ ys → v ∈ xs) : ys.all (okV n) = true := List.all_eq_true.mpr fun v hv => all_mem h (m v hv)

theorem z_add : OpZ X (binaryOp .Add) bAdd := by
  refine ⟨_, op_add.or (op_add_str.or op_cat), fun ι G H x y v G' Q R kx ky e p => ?_⟩
  unfold bAdd at e
  split at e
  · cases e
    exact .inl ⟨_, _, rfl, rfl, p.same R rfl⟩
  · split at e
    · rename_i z
      cases e
      exact .inr (.inl ⟨_, _, rfl, rfl, z, p.same R rfl⟩)
    · cases e
  · split at e
    · rename_i e1 e2
      split at e
      · rename_i z
        refine .inr (.inr ⟨_, _, _, _, rfl, rfl, R.lstM e1, R.lstM e2, by rw [List.length_map, List.length_map]; exact z, ?_⟩)
        rw [← List.map_append]
        exact Pz.alloc (o := .lst _) R (by show List.all _ _ = true; rw [List.all_append, R.okl e1, R.okl e2]; rfl) rfl e p
      · cases e
    · cases e
  · cases e
theorem z_sub : OpZ X (binaryOp .Sub) bSub := by
  refine ⟨_, op_sub, fun ι G H x y v G' Q R kx ky e p => ?_⟩
  unfold bSub at e
  split at e
  · cases e
    exact ⟨_, _, rfl, rfl, p.same R rfl⟩
  · cases e
theorem small_log {i : Int} (h : smallN i = true) : i.natAbs.log2 < 2000 := PySem.Flt.log2_lt_of (by decide) (by
  have := of_decide_eq_true h
  unfold bigN at this
  exact this)
theorem z_mul : OpZ X (binaryOp .Mult) bMul := by
  refine ⟨_, op_mulW.or op_rep, fun ι G H x y v G' Q R kx ky e p => ?_⟩
  unfold bMul at e
  split at e
  · split at e
    · rename_i z
      cases e
      have h1 := small_log z.1
      have h2 := small_log z.2
      exact .inl ⟨_, _, rfl, rfl, by unfold CMulW; omega, p.same R rfl⟩
    · cases e
  · split at e
    · rename_i e1
      split at e
      · rename_i z
        obtain ⟨z1, z2, z3⟩ := z
        refine .inr ⟨_, _, _, rfl, rfl, R.lstM e1, z1, z2, by rw [List.length_map]; exact z3, ?_⟩
        rw [show (List.replicate _ (List.map (mv ι) _)).flatten = List.map (mv ι) (List.replicate _ _).flatten from by rw [List.map_flatten, List.map_replicate]]
        refine Pz.alloc (o := .lst _) R (all_sub (R.okl e1) fun v hv => ?_) rfl e p
        obtain ⟨l, h1, h2⟩ := List.mem_flatten.mp hv
        rw [List.eq_of_mem_replicate h1] at h2
        exact h2
      · cases e
    · cases e
  · cases e
theorem z_mod : OpZ X (binaryOp .Mod) bMod := by
  refine ⟨_, op_modN, fun ι G H x y v G' Q R kx ky e p => ?_⟩
  unfold bMod at e
  split at e
  · split at e
    · rename_i z
      cases e
      exact ⟨_, _, rfl, rfl, z, p.same R rfl⟩
    · cases e
  · cases e
theorem op_divW : OpR X (binaryOp .FloorDiv) (rI (fun _ j => j ≠ 0 ∧ j.natAbs.log2 < 9000) fun i j => .int (i.fdiv j)) := opI fun i j _ _ _ _ _ hc q =>
  floordiv_int hc.1 q (.inl (PyProof.noPylong_of_log2 hc.2))
theorem z_div : OpZ X (binaryOp .FloorDiv) bDiv := by
  refine ⟨_, op_divW, fun ι G H x y v G' Q R kx ky e p => ?_⟩
  unfold bDiv at e
  split at e
  · split at e
    · rename_i z
      cases e
      have h := small_log z.2
      exact ⟨_, _, rfl, rfl, ⟨z.1, by omega⟩, p.same R rfl⟩
    · cases e
  · cases e
theorem op_powW : OpR X (binaryOp .Pow) (rI (fun i j => 0 ≤ j ∧ j ≤ 1000 ∧ i.natAbs.log2 < 2000) fun i j => .int (i ^ j.toNat)) := opI fun i j _ _ _ _ _ hc q => by
  refine pow_int hc.1 ?_ q
  have b : Builtin.Int.intBits i ≤ i.natAbs.log2 + 1 := by
    unfold Builtin.Int.intBits
    split <;> omega
  have h3 := hc.2.2
  have b2 : (Builtin.Int.intBits i : Int) ≤ 2000 := by omega
  calc (Builtin.Int.intBits i : Int) * j ≤ 2000 * j := Int.mul_le_mul_of_nonneg_right b2 hc.1
    _ ≤ 2000 * 1000 := Int.mul_le_mul_of_nonneg_left hc.2.1 (by decide)
    _ ≤ 2 ^ 27 := by decide
theorem z_pow : OpZ X (binaryOp .Pow) bPow := by
  refine ⟨_, op_powW, fun ι G H x y v G' Q R kx ky e p => ?_⟩
  unfold bPow at e
  split at e
  · split at e
    · rename_i z
      cases e
      exact ⟨_, _, rfl, rfl, ⟨z.2.1, z.2.2, small_log z.1⟩, p.same R rfl⟩
    · cases e
  · cases e
theorem z_lt : OpZ X (compareOp .Lt) cLt := by
  refine ⟨_, op_lt, fun ι G H x y v G' Q R kx ky e p => ?_⟩
  unfold cLt at e
  split at e
  · cases e
    exact ⟨_, _, rfl, rfl, p.same R rfl⟩
  · cases e
theorem z_gt : OpZ X (compareOp .Gt) cGt := by
  refine ⟨_, op_gt, fun ι G H x y v G' Q R kx ky e p => ?_⟩
  unfold cGt at e
  split at e
  · cases e
    exact ⟨_, _, rfl, rfl, p.same R rfl⟩
  · cases e
/-! data -/
theorem dpAll_of {K : PySem.W.Frag} {ι : Em} {H : Hp} {f : V → Option PyData} (h : ∀ v d, f v = some d → d.hasDict = false → Dp K H (mv ι v) d) : ∀ (xs : List V) (ds : List PyData), mapO f xs = some ds → (PyData.list ds).hasDict = false → DpAll K H (xs.map (mv ι)) ds
  | [], _, e, _ => by
    cases e
    exact .nil
  | x :: xs, ds, e, n => by
    obtain ⟨d, e1, e⟩ := bnd e
    obtain ⟨ds', e2, e⟩ := bnd e
    cases e
    have n2 : d.hasDict = false ∧ (PyData.list ds').hasDict = false := by
      simp only [PyData.hasDict] at n ⊢
      simpa [PyData.hasDictAll] using n
    exact .cons (h x d e1 n2.1) (dpAll_of h xs ds' e2 n2.2)
theorem dp_of {K : PySem.W.Frag} {ι : Em} {G : Hz} {H : Hp} (R : Rel K ι G H) : ∀ (k : Nat) (v : V) (d : PyData), rdD k G v = some d → d.hasDict = false → Dp K H (mv ι v) d := by
  intro k
  induction k with
  | zero =>
    intro v d e n
    cases v with
    | non => cases e; exact .non
    | bl b => cases e; exact .bl b
    | int b => cases e; exact .int b
    | str b => cases e; exact .str b
    | _ => cases e
  | succ k ih =>
    intro v d e n
    cases v with
    | non => cases e; exact .non
    | bl b => cases e; exact .bl b
    | int b => cases e; exact .int b
    | str b => cases e; exact .str b
    | ref a =>
      unfold rdD at e
      split at e
      · rename_i q
        obtain ⟨ds, e1, e⟩ := bnd e
        cases e
        exact .lst (R.lstS q) (dpAll_of ih _ _ e1 n)
      · rename_i q
        obtain ⟨ds, e1, e⟩ := bnd e
        cases e
        exact .tup (R.tupS q) (dpAll_of ih _ _ e1 (by simpa [PyData.hasDict] using n))
      · obtain ⟨ds, e1, e⟩ := bnd e
        cases e
        simp [PyData.hasDict] at n
      · cases e
    | _ => cases e
theorem noDict_of_shaped {d : PyData} (h : SeqAt.shaped d = true) : d.hasDict = false := by
  have := SeqAt.canLay_of_shaped h
  exact PyData.hasDict_of_canLay d this
theorem scal_mv {ι : Em} {x y : V} (h : scal x y = true) : mv ι x = x ∧ mv ι y = y := by
  cases x <;> cases y <;> first | exact ⟨rfl, rfl⟩ | cases h
theorem z_eq (hu : X.A.units + 64 < cLine) : OpZ X (compareOp .Eq) cEq := by
  refine ⟨_, op_eq.or (op_eqD hu), fun ι G H x y v G' Q R kx ky e p => ?_⟩
  unfold cEq at e
  split at e
  · rename_i z
    cases e
    obtain ⟨q1, q2⟩ := scal_mv (ι := ι) z
    rw [q1, q2]
    exact .inl ⟨z, p.same R rfl⟩
  · split at e
    · rename_i d d' e1 e2
      split at e
      · rename_i z
        cases e
        exact .inr ⟨d, d', dp_of R _ _ _ e1 (noDict_of_shaped z.1), dp_of R _ _ _ e2 (noDict_of_shaped z.2), z.1, z.2, p.same R rfl⟩
      · cases e
    · cases e
theorem z_ne (hu : X.A.units + 64 < cLine) : OpZ X (compareOp .NotEq) cNe := by
  refine ⟨_, op_ne.or (op_neD hu), fun ι G H x y v G' Q R kx ky e p => ?_⟩
  unfold cNe at e
  split at e
  · rename_i z
    cases e
    obtain ⟨q1, q2⟩ := scal_mv (ι := ι) z
    rw [q1, q2]
    exact .inl ⟨z, p.same R rfl⟩
  · split at e
    · rename_i d d' e1 e2
      split at e
      · rename_i z
        cases e
        exact .inr ⟨d, d', dp_of R _ _ _ e1 (noDict_of_shaped z.1), dp_of R _ _ _ e2 (noDict_of_shaped z.2), z.1, z.2, p.same R rfl⟩
      · cases e
    · cases e

/-! is None -/
/-! tests of a value that is no Call, Name: comparisons with None -/
/-! in, not in -/
theorem flat_mv {ι : Em} {x : V} (h : flatV x = true) : mv ι x = x := by
  cases x <;> first | rfl | cases h
theorem flats_mv {ι : Em} {xs : List V} (h : xs.all flatV = true) : xs.map (mv ι) = xs := by
  have : ∀ ys : List V, (∀ v, v ∈ ys → flatV v = true) → ys.map (mv ι) = ys := fun ys => by
    induction ys with
    | nil => intro _; rfl
    | cons y ys ih =>
      intro hy
      rw [List.map_cons, flat_mv (hy y (List.mem_cons_self ..)), ih fun v hv => hy v (List.mem_cons_of_mem _ hv)]
  exact this xs (List.all_eq_true.mp h)
theorem valV_mv {ι : Em} {kvs : List (Key × V)} {k : Key} : valV (kvs.map fun p => (p.1, mv ι p.2)) k = (valV kvs k).map (mv ι) := by
  induction kvs with
  | nil => rfl
  | cons q r ih =>
    by_cases z : q.1 = k
    · rw [List.map_cons, valV_pos (p := (q.1, mv ι q.2)) z, valV_pos z]
      rfl
    · rw [List.map_cons, valV_neg (p := (q.1, mv ι q.2)) z, valV_neg z, ih]
theorem keyOf_mv {ι : Em} {x : V} {k : Key} (h : keyOf x = some k) : mv ι x = kV k := by
  cases x <;> first | (cases h; rfl) | cases h
theorem opR_din (hu : X.A.units + 1 < cLine) : OpR X (compareOp .In) (fun x y H Q => ∃ a o, y = .ref a ∧ DGet H a x o ∧ Q (.bl o.isSome) H) := by
  intro pins s σ H x y v u Q I rx ry h
  obtain ⟨a, o, rfl, g, q⟩ := h
  cases ry
  exact d_in hu I g rx fun s' I' => ⟨.bl o.isSome, H, I', rfl, q⟩
theorem z_in (hu : X.A.units + 1 < cLine) : OpZ X (compareOp .In) cIn := by
  refine ⟨_, op_in_seq.or (opR_din hu), fun ι G H x y v G' Q R kx ky e p => ?_⟩
  unfold cIn cInG at e
  split at e
  · split at e
    · rename_i q
      split at e
      · rename_i z
        cases e
        refine .inl ⟨_, _, rfl, .inl (R.lstS q), by rw [flat_mv z.1]; exact z.1, by rw [flats_mv z.2]; exact z.2, ?_⟩
        rw [flat_mv z.1, flats_mv z.2]
        simpa [mv] using p.same R rfl
      · cases e
    · rename_i q
      split at e
      · rename_i z
        cases e
        refine .inl ⟨_, _, rfl, .inr (R.tupS q), by rw [flat_mv z.1]; exact z.1, by rw [flats_mv z.2]; exact z.2, ?_⟩
        rw [flat_mv z.1, flats_mv z.2]
        simpa [mv] using p.same R rfl
      · cases e
    · rename_i q
      split at e
      · rename_i k hk
        cases e
        refine .inr ⟨_, _, rfl, by rw [keyOf_mv hk]; exact .k (R.dkM q), ?_⟩
        rw [valV_mv, Option.isSome_map]
        simpa [mv] using p.same R rfl
      · cases e
    · cases e
  · cases e
/-! subscripts -/
theorem atI_map {ι : Em} {xs : List V} {i : Int} {v : V} (h : atI xs i = some v) : atI (xs.map (mv ι)) i = some (mv ι v) := by
  unfold atI at h ⊢
  rw [List.length_map]
  obtain ⟨j, e1, e2⟩ := bnd h
  rw [e1]
  show (xs.map (mv ι))[j]? = _
  rw [List.getElem?_map, e2]
  rfl
theorem atI_ok {xs : List V} {i : Int} {v : V} {n : Nat} (k : xs.all (okV n) = true) (h : atI xs i = some v) : okV n v = true := by
  unfold atI at h
  obtain ⟨j, e1, e2⟩ := bnd h
  exact all_mem k (List.mem_of_getElem? e2)
theorem z_ix : IxZ X xIx := by
  refine ⟨_, ix_seq, fun ι G H x y v G' Q R kx ky e p => ?_⟩
  unfold xIx at e
  split at e
  · split at e
    · rename_i q
      obtain ⟨u, e1, e⟩ := bnd e
      cases e
      exact .inl ⟨_, _, _, _, rfl, rfl, R.lstS q, atI_map e1, p.same R (atI_ok (R.okl q) e1)⟩
    · rename_i q
      obtain ⟨u, e1, e⟩ := bnd e
      cases e
      exact .inl ⟨_, _, _, _, rfl, rfl, R.fzS q, atI_map e1, p.same R (atI_ok (R.ok _ _ q) e1)⟩
    · rename_i q
      obtain ⟨u, e1, e⟩ := bnd e
      cases e
      exact .inr (.inl ⟨_, _, _, _, rfl, rfl, R.tupS q, atI_map e1, p.same R (atI_ok (R.okt q) e1)⟩)
    · cases e
  · split at e
    · rename_i z
      obtain ⟨u, e1, e⟩ := bnd e
      cases e
      exact .inr (.inr ⟨_, _, _, rfl, rfl, z, e1, p.same R rfl⟩)
    · cases e
  · cases e
/-! built-ins -/
theorem z_len : CallZ X (.builtin "len") fLen := by
  refine ⟨_, call_len_seq.or (call_len_str.or call_lenD), fun ι G H vs v G' Q R kx e p => ?_⟩
  unfold fLen at e
  split at e
  · split at e
    · rename_i q
      cases e
      exact .inl ⟨_, _, rfl, .inl (R.lstS q), by rw [List.length_map]; exact p.same R rfl⟩
    · rename_i q
      cases e
      exact .inl ⟨_, _, rfl, .inl (R.fzS q), by rw [List.length_map]; exact p.same R rfl⟩
    · rename_i q
      cases e
      exact .inl ⟨_, _, rfl, .inr (R.tupS q), by rw [List.length_map]; exact p.same R rfl⟩
    · rename_i q
      cases e
      exact .inr (.inr ⟨_, _, rfl, R.dkM q, by rw [List.length_map]; exact p.same R rfl⟩)
    · cases e
  · split at e
    · rename_i z
      cases e
      exact .inr (.inl ⟨_, rfl, z, p.same R rfl⟩)
    · cases e
  · cases e
theorem ints_of {ι : Em} : ∀ {xs : List V} {ns : List Int}, ints? xs = some ns → xs.map (mv ι) = ns.map V.int
  | [], _, e => by cases e; rfl
  | x :: xs, ns, e => by
    obtain ⟨i, e1, e⟩ := bnd e
    obtain ⟨is, e2, e⟩ := bnd e
    cases e
    cases x <;> first | (cases e1; rw [List.map_cons, List.map_cons, ints_of e2]; rfl) | cases e1
theorem maxI_mem : ∀ (ns : List Int) (m : Int), maxI m ns ∈ m :: ns
  | [], m => List.mem_cons_self ..
  | x :: xs, m => by
    unfold maxI
    have := maxI_mem xs (if x > m then x else m)
    rcases List.mem_cons.mp this with h | h
    · rw [h]
      split
      · exact List.mem_cons_of_mem _ (List.mem_cons_self ..)
      · exact List.mem_cons_self ..
    · exact List.mem_cons_of_mem _ (List.mem_cons_of_mem _ h)
theorem maxI_ge : ∀ (ns : List Int) (m : Int), m ≤ maxI m ns ∧ ∀ y, y ∈ ns → y ≤ maxI m ns
  | [], m => ⟨Int.le_refl _, fun _ h => nomatch h⟩
  | x :: xs, m => by
    unfold maxI
    obtain ⟨h1, h2⟩ := maxI_ge xs (if x > m then x else m)
    generalize maxI (if x > m then x else m) xs = z at h1 h2 ⊢
    refine ⟨?_, fun y hy => ?_⟩
    · split at h1 <;> omega
    · rcases List.mem_cons.mp hy with rfl | hy
      · split at h1 <;> omega
      · exact h2 y hy
theorem minI_mem : ∀ (ns : List Int) (m : Int), minI m ns ∈ m :: ns
  | [], m => List.mem_cons_self ..
  | x :: xs, m => by
    unfold minI
    have := minI_mem xs (if x < m then x else m)
    rcases List.mem_cons.mp this with h | h
    · rw [h]
      split
      · exact List.mem_cons_of_mem _ (List.mem_cons_self ..)
      · exact List.mem_cons_self ..
    · exact List.mem_cons_of_mem _ (List.mem_cons_of_mem _ h)
theorem minI_le : ∀ (ns : List Int) (m : Int), minI m ns ≤ m ∧ ∀ y, y ∈ ns → minI m ns ≤ y
  | [], m => ⟨Int.le_refl _, fun _ h => nomatch h⟩
  | x :: xs, m => by
    unfold minI
    obtain ⟨h1, h2⟩ := minI_le xs (if x < m then x else m)
    generalize minI (if x < m then x else m) xs = z at h1 h2 ⊢
    refine ⟨?_, fun y hy => ?_⟩
    · split at h1 <;> omega
    · rcases List.mem_cons.mp hy with rfl | hy
      · split at h1 <;> omega
      · exact h2 y hy
theorem z_max (hc : X.calm = true) : CallZ X (.builtin "max") fMax := by
  refine ⟨_, (call_max2 hc).or (cr_max hc), fun ι G H vs v G' Q R kx e p => ?_⟩
  unfold fMax at e
  split at e
  · cases e
    exact .inl ⟨_, _, rfl, p.same R rfl⟩
  · split at e
    · rename_i q
      split at e
      · rename_i m ns en
        cases e
        refine .inr ⟨_, m :: ns, rfl, by rw [← ints_of en]; exact R.lstS q, Nat.succ_pos _, fun k hk hg => ?_⟩
        have h1 := hg _ (maxI_mem ns m)
        have h2 : k ≤ maxI m ns := by
          rcases List.mem_cons.mp hk with h | h
          · rw [h]; exact (maxI_ge ns m).1
          · exact (maxI_ge ns m).2 k h
        rw [Int.le_antisymm h2 h1]
        exact p.same R rfl
      · cases e
    · cases e
  · cases e
theorem z_min (hc : X.calm = true) : CallZ X (.builtin "min") fMin := by
  refine ⟨_, (call_min2 hc).or (cr_min hc), fun ι G H vs v G' Q R kx e p => ?_⟩
  unfold fMin at e
  split at e
  · cases e
    exact .inl ⟨_, _, rfl, p.same R rfl⟩
  · split at e
    · rename_i q
      split at e
      · rename_i m ns en
        cases e
        refine .inr ⟨_, m :: ns, rfl, by rw [← ints_of en]; exact R.lstS q, Nat.succ_pos _, fun k hk hg => ?_⟩
        have h1 := hg _ (minI_mem ns m)
        have h2 : minI m ns ≤ k := by
          rcases List.mem_cons.mp hk with h | h
          · rw [h]; exact (minI_le ns m).1
          · exact (minI_le ns m).2 k h
        rw [Int.le_antisymm h1 h2]
        exact p.same R rfl
      · cases e
    · cases e
  · cases e
theorem isort_perm (ns : List Int) : (isort ns).Perm ns := List.mergeSort_perm ..
theorem isort_sorted (ns : List Int) : (isort ns).Pairwise (· ≤ ·) := by
  have := List.pairwise_mergeSort (le := fun a b : Int => decide (a ≤ b)) (fun a b c h1 h2 => by simp at h1 h2 ⊢; omega) (fun a b => by simp; omega) ns
  exact this.imp fun h => of_decide_eq_true h
theorem ints_ok {n : Nat} (ns : List Int) : (ns.map V.int).all (okV n) = true := List.all_eq_true.mpr fun v hv => by
  obtain ⟨i, _, rfl⟩ := List.mem_map.mp hv
  rfl
theorem ints_mv {ι : Em} (ns : List Int) : (ns.map V.int).map (mv ι) = ns.map V.int := by
  rw [List.map_map]
  rfl
theorem z_abs : CallZ X (.builtin "abs") fAbs := by
  refine ⟨_, call_abs, fun ι G H vs v G' Q R kx e p => ?_⟩
  unfold fAbs at e
  split at e
  · cases e
    exact ⟨_, rfl, p.same R rfl⟩
  · cases e
end
end Zl

/-! Zl, part 4: rules for statements, targets, loops, comprehensions. -/
namespace Zl
open PySem PySem.Spec L2
open PyProof.Rows hiding St

def PostN (K : PySem.W.Frag) (ι : Em) (n : Nat) (σ1 : L2.St) (G1 : Hz) (Q : L2.St → Hp → Prop) : Prop :=
  ∀ (ι' : Em) (H' : Hp), Agr n ι ι' → Rel K ι' G1 H' → n ≤ G1.length → okS G1.length σ1 = true → Q (ms ι' σ1) H'
def PostS (K : PySem.W.Frag) (ι : Em) (n : Nat) (D : Ends) : R → Prop
  | .nx σ1 G1 => PostN K ι n σ1 G1 D.nx
  | .bk σ1 G1 => PostN K ι n σ1 G1 D.bk
  | .ct σ1 G1 => PostN K ι n σ1 G1 D.ct
  | .rt v G1 => Pz K ι n v G1 D.rt
def liftS (K : PySem.W.Frag) (m : MS) : TS := fun D σ H => ∃ (ι : Em) (σ0 : L2.St) (G : Hz) (r : R),
  σ = ms ι σ0 ∧ okS G.length σ0 = true ∧ Rel K ι G H ∧ m σ0 G = some r ∧ PostS K ι G.length D r
def liftG (K : PySem.W.Frag) (g : MG) : TG := fun v σ H Q => ∃ (ι : Em) (v0 : V) (σ0 : L2.St) (G : Hz) (σ1 : L2.St) (G1 : Hz),
  v = mv ι v0 ∧ okV G.length v0 = true ∧ σ = ms ι σ0 ∧ okS G.length σ0 = true ∧ Rel K ι G H ∧ g v0 σ0 G = some (σ1, G1) ∧ PostN K ι G.length σ1 G1 Q
def liftGs (K : PySem.W.Frag) (g : MGs) : TGs := fun vs σ H Q => ∃ (ι : Em) (v0 : List V) (σ0 : L2.St) (G : Hz) (σ1 : L2.St) (G1 : Hz),
  vs = v0.map (mv ι) ∧ v0.all (okV G.length) = true ∧ σ = ms ι σ0 ∧ okS G.length σ0 = true ∧ Rel K ι G H ∧ g v0 σ0 G = some (σ1, G1) ∧ PostN K ι G.length σ1 G1 Q
/-- an iterator keeps to a turn of the layer -/
def ItOk (K : PySem.W.Frag) (ι : Em) (n : Nat) (it : MIt) (J : It) : Prop :=
  ∀ (ι' : Em) (G : Hz) (H : Hp) (i : Nat), Agr n ι ι' → n ≤ G.length → Rel K ι' G H →
    (it i G = some none → J.stop i H) ∧ ∀ x G1, it i G = some (some (x, G1)) → J.go i H ∧ ∀ y H1, J.yld i H y H1 → ∃ ι2, Agr G.length ι' ι2 ∧ Rel K ι2 G1 H1 ∧ y = mv ι2 x ∧ okV G1.length x = true ∧ G.length ≤ G1.length
def liftI (K : PySem.W.Frag) (w : MI) : TI := fun σ H Q => ∃ (ι : Em) (σ0 : L2.St) (G : Hz) (it : MIt) (G' : Hz),
  σ = ms ι σ0 ∧ okS G.length σ0 = true ∧ Rel K ι G H ∧ w σ0 G = some (it, G') ∧ ∀ (ι' : Em) (H' : Hp), Agr G.length ι ι' → Rel K ι' G' H' → G.length ≤ G'.length → ∀ J, ItOk K ι' G'.length it J → Q J H'
def SS (X : Cx) (st : Stmt) (m : MS) : Prop := PS X st (liftS X.K m)
def SSs (X : Cx) (sts : List Stmt) (m : MS) : Prop := PSs X sts (liftS X.K m)
def SG (X : Cx) (tg : Expr) (g : MG) : Prop := PG X tg (liftG X.K g)
def SGs (X : Cx) (tgs : List Expr) (g : MGs) : Prop := PGs X tgs (liftGs X.K g)
def SI (X : Cx) (tg iter : Expr) (w : MI) : Prop := PI X tg iter (liftI X.K w)

section
variable {X : Cx} {st : Stmt} {rest body : List Stmt} {e tg iter : Expr} {es : List Expr} {pos : Pos}
theorem PS.imp {t t' : TS} (h : PS X st t) (i : ∀ D σ H, t' D σ H → t D σ H) : PS X st t' := ⟨fun pins s σ H D I q => h.run pins s σ H D I (i D σ H q)⟩
theorem PSs.imp {t t' : TS} (h : PSs X rest t) (i : ∀ D σ H, t' D σ H → t D σ H) : PSs X rest t' := ⟨fun pins s σ H D I q => h.run pins s σ H D I (i D σ H q)⟩
theorem PG.imp {t t' : TG} (h : PG X tg t) (i : ∀ v σ H Q, t' v σ H Q → t v σ H Q) : PG X tg t' := ⟨fun pins s σ H v u Q I r q => h.run pins s σ H v u Q I r (i v σ H Q q)⟩
theorem PGs.imp {t t' : TGs} (h : PGs X es t) (i : ∀ v σ H Q, t' v σ H Q → t v σ H Q) : PGs X es t' := ⟨fun pins s σ H v u Q I r q => h.run pins s σ H v u Q I r (i v σ H Q q)⟩
theorem PI.imp {t t' : TI} (h : PI X tg iter t) (i : ∀ σ H Q, t' σ H Q → t σ H Q) : PI X tg iter t' := ⟨fun pins s σ H Q I q => h.run pins s σ H Q I (i σ H Q q)⟩

theorem PostN.from {K : PySem.W.Frag} {ι ι1 : Em} {n m : Nat} {σ1 : L2.St} {G1 : Hz} {Q : L2.St → Hp → Prop} (p : PostN K ι n σ1 G1 Q) (a : Agr n ι ι1) (l : n ≤ m) : PostN K ι1 m σ1 G1 Q :=
  fun ι' H' a' R' l' k' => p ι' H' (a.trans a' l) R' (Nat.le_trans l l') k'
theorem Pz.from {K : PySem.W.Frag} {ι ι1 : Em} {n m : Nat} {v : V} {G1 : Hz} {Q : VK} (p : Pz K ι n v G1 Q) (a : Agr n ι ι1) (l : n ≤ m) : Pz K ι1 m v G1 Q :=
  fun ι' H' a' R' l' k' => p ι' H' (a.trans a' l) R' (Nat.le_trans l l') k'
theorem PostS.from {K : PySem.W.Frag} {ι ι1 : Em} {n m : Nat} {D : Ends} {r : R} (p : PostS K ι n D r) (a : Agr n ι ι1) (l : n ≤ m) : PostS K ι1 m D r := by
  cases r with
  | nx σ G => exact PostN.from p a l
  | bk σ G => exact PostN.from p a l
  | ct σ G => exact PostN.from p a l
  | rt v G => exact Pz.from p a l
theorem liftS.into {K : PySem.W.Frag} {m : MS} {ι : Em} {σ0 : L2.St} {G : Hz} {r : R} {H : Hp} {D : Ends} (so : okS G.length σ0 = true) (R : Rel K ι G H) (e : m σ0 G = some r) (p : PostS K ι G.length D r) : liftS K m D (ms ι σ0) H :=
  ⟨ι, σ0, G, r, rfl, so, R, e, p⟩

/-! ### blocks -/
theorem ss_nil : SSs X [] sPass := PSs.imp pss_nil fun D σ H h => by
  obtain ⟨ι, σ0, G, r, rfl, so, R, e, p⟩ := h
  cases e
  exact p ι H .refl R (Nat.le_refl _) so
theorem ss_one {m : MS} (h : SS X st m) : SSs X [st] m := pss_one h
theorem ss_cons {m m' : MS} (h : SS X st m) (h' : SSs X rest m') : SSs X (st :: rest) (sSeq m m') := PSs.imp (pss_cons h h') fun D σ H h => by
  obtain ⟨ι, σ0, G, r, rfl, so, R, e, p⟩ := h
  obtain ⟨r1, e1, e⟩ := bnd e
  refine liftS.into so R e1 ?_
  cases r1 with
  | nx σ1 G1 => exact fun ι1 H1 a1 R1 l1 k1 => liftS.into k1 R1 e (p.from a1 l1)
  | bk σ1 G1 => cases e; exact p
  | ct σ1 G1 => cases e; exact p
  | rt v G1 => cases e; exact p
theorem s_ret {m : ME} (h : SE X e m) : SS X (.Return (some e) pos) (sRet m) := PS.imp (ps_ret h) fun D σ H h => by
  obtain ⟨ι, σ0, G, r, rfl, so, R, e, p⟩ := h
  obtain ⟨⟨x, G1⟩, e1, e⟩ := bnd e
  cases e
  exact liftE.into so R e1 p
theorem s_if {c : Expr} {a b : List Stmt} {t : MT} {m m' : MS} (hc : STt X c t) (ha : SSs X a m) (hb : SSs X b m') : SS X (.If c a b pos) (sIf t m m') := PS.imp (ps_if hc ha hb) fun D σ H h => by
  obtain ⟨ι, σ0, G, r, rfl, so, R, e, p⟩ := h
  obtain ⟨⟨k, G1⟩, e1, e⟩ := bnd e
  refine ⟨ι, σ0, G, k, G1, rfl, so, R, e1, fun ι1 H1 a1 R1 l1 => ?_⟩
  rw [ms_agr a1 so]
  cases k with
  | true =>
    rw [if_pos rfl] at e ⊢
    exact liftS.into (okS_mono l1 so) R1 e (p.from a1 l1)
  | false =>
    rw [if_neg Bool.false_ne_true] at e ⊢
    exact liftS.into (okS_mono l1 so) R1 e (p.from a1 l1)
/-! ### targets, stores -/
theorem g_set {i : Nat} {x : Str} (h : PG X (.Name x pos) (gName i)) : SG X (.Name x pos) (gSet i) := PG.imp h fun v σ H Q h => by
  obtain ⟨ι, v0, σ0, G, σ1, G1, rfl, kv, rfl, so, R, e, p⟩ := h
  cases e
  have := p ι H .refl R (Nat.le_refl _) (okS_set so kv)
  rw [ms_set] at this
  exact this
theorem gs_nil : SGs X [] gsNil := PGs.imp pgs_nil fun v σ H Q h => by
  obtain ⟨ι, v0, σ0, G, σ1, G1, rfl, kv, rfl, so, R, e, p⟩ := h
  unfold gsNil at e
  cases v0 with
  | nil =>
    cases e
    exact ⟨rfl, p ι H .refl R (Nat.le_refl _) so⟩
  | cons _ _ => cases e
theorem gs_cons {g : MG} {r : MGs} (h1 : SG X e g) (h2 : SGs X es r) (hs : (assignEach (e :: es) X.env).map (·.2) = assign e X.env :: (assignEach es X.env).map (·.2) := by rfl) : SGs X (e :: es) (gsCons g r) := PGs.imp (pgs_cons h1 h2 hs) fun v σ H Q h => by
  obtain ⟨ι, v0, σ0, G, σ1, G1, rfl, kv, rfl, so, R, e, p⟩ := h
  unfold gsCons at e
  cases v0 with
  | nil => cases e
  | cons u us =>
    obtain ⟨⟨σ2, G2⟩, e1, e⟩ := bnd e
    rw [List.all_cons, Bool.and_eq_true] at kv
    refine ⟨_, _, rfl, ι, u, σ0, G, σ2, G2, rfl, kv.1, rfl, so, R, e1, fun ι2 H2 a2 R2 l2 k2 => ?_⟩
    rw [mvs_agr a2 kv.2]
    exact ⟨ι2, us, σ2, G2, σ1, G1, rfl, okVs_mono l2 kv.2, rfl, k2, R2, e, p.from a2 l2⟩
/-- a, b = a tuple or a list -/
theorem g_un {n : Nat} {k : Nat} {r : MGs} (hc : X.calm = true) (h : SGs X es r) (hn : (assignEach es X.env).length = n := by rfl) (hst : (assignEach es X.env).findIdx? (·.1) = none := by rfl) : SG X (.Tuple es k pos) (gUn n r) := by
  refine ⟨fun pins s σ H v u Q I rv hw => ?_⟩
  obtain ⟨ι, v0, σ0, G, σ1, G1, rfl, kv, rfl, so, R, e, p⟩ := hw
  unfold gUn at e
  split at e
  · split at e
    · rename_i q
      split at e
      · rename_i z
        exact (pg_tup hc h hn hst).run pins s _ H _ u Q I rv ⟨_, _, rfl, R.tupS q, by rw [List.length_map]; exact z, ι, _, σ0, G, σ1, G1, rfl, R.okt q, rfl, so, R, e, p⟩
      · cases e
    · rename_i q
      split at e
      · rename_i z
        exact (pg_lst hc h hn hst).run pins s _ H _ u Q I rv ⟨_, _, rfl, R.lstS q, by rw [List.length_map]; exact z, ι, _, σ0, G, σ1, G1, rfl, R.okl q, rfl, so, R, e, p⟩
      · cases e
    · cases e
  · cases e
def PutZ (X : Cx) (f : V → V → V → Hz → Option Hz) : Prop := ∃ r, PSet X r ∧ ∀ (ι : Em) (G : Hz) (H : Hp) (o i v : V) (G' : Hz) (Q : Hp → Prop), Rel X.K ι G H → okV G.length o = true → okV G.length i = true → okV G.length v = true →
  f o i v G = some G' → (∀ (ι' : Em) (H' : Hp), Agr G.length ι ι' → Rel X.K ι' G' H' → G.length ≤ G'.length → Q H') → r (mv ι o) (mv ι i) (mv ι v) H Q
theorem g_put {o i : Expr} {mo mi : ME} {f : V → V → V → Hz → Option Hz} (hs : PutZ X f) (ho : SE X o mo) (hi : SE X i mi)
    (ha : ∀ v, assign (.Subscript o i pos) X.env v = (do
      let ov ← holding [v] (eval o X.env)
      let iv ← holding [v, ov] (eval i X.env)
      standAt pos
      holding [v, ov, iv] (setItem ov iv v)
      release [v, ov, iv] []) := by intro _; rfl) : SG X (.Subscript o i pos) (gPut f mo mi) := by
  obtain ⟨r, hr, hf⟩ := hs
  refine PG.imp (pg_sub ho hi hr ha) fun v σ H Q h => ?_
  obtain ⟨ι, v0, σ0, G, σ1, G1, rfl, kv, rfl, so, R, e, p⟩ := h
  obtain ⟨⟨x, Ga⟩, e1, e⟩ := bnd e
  obtain ⟨⟨y, Gb⟩, e2, e⟩ := bnd e
  obtain ⟨Gc, e3, e⟩ := bnd e
  cases e
  refine liftE.into so R e1 fun ι1 H1 a1 R1 l1 k1 => ?_
  rw [ms_agr a1 so]
  refine liftE.into (okS_mono l1 so) R1 e2 fun ι2 H2 a2 R2 l2 k2 => ?_
  rw [mv_agr a2 k1, mv_agr (a1.trans a2 l1) kv, ms_agr a2 (okS_mono l1 so)]
  refine hf ι2 Gb H2 x y v0 _ _ R2 (okV_mono l2 k1) k2 (okV_mono (Nat.le_trans l1 l2) kv) e3 fun ι3 H3 a3 R3 l3 => ?_
  have so2 := okS_mono (Nat.le_trans l1 l2) so
  rw [ms_agr a3 so2]
  exact p ι3 H3 ((a1.trans a2 l1).trans a3 (Nat.le_trans l1 l2)) R3 (Nat.le_trans (Nat.le_trans l1 l2) l3) (okS_mono l3 so2)
theorem s_asg {m : ME} {g : MG} (he : SE X e m) (hg : SG X tg g) (hs : swapsWithSole [tg] e pos.line X.env = pure false := by rfl) (hw : swappedStores [tg] e X.env = pure none := by rfl)
    (h1 : (assignEach [tg] X.env).map (·.2) = [assign tg X.env] := by rfl) : SS X (.Assign [tg] e pos) (sAsg m g) := PS.imp (ps_asg he hg hs hw h1) fun D σ H h => by
  obtain ⟨ι, σ0, G, r, rfl, so, R, e, p⟩ := h
  obtain ⟨⟨x, G1⟩, e1, e⟩ := bnd e
  obtain ⟨⟨σ2, G2⟩, e2, e⟩ := bnd e
  cases e
  refine liftE.into so R e1 fun ι1 H1 a1 R1 l1 k1 => ?_
  rw [ms_agr a1 so]
  exact ⟨ι1, x, σ0, G1, σ2, G2, rfl, k1, rfl, okS_mono l1 so, R1, e2, PostN.from p a1 l1⟩
theorem s_set {i : Nat} {x : Str} {m : ME} {pos' : Pos} (hN : X.N.Nodup) (hi : X.N[i]? = some x) (hx : Loc X.env.scope x) (he : SE X e m) (hs : swapsWith e (some (.Name x pos')) pos.line X.env = pure false := by rfl) (hf : X.fn x = true ∨ X.env.scope.names.lookup x = some .local := by first | exact .inl rfl | exact .inr rfl | assumption) :
    SS X (.Assign [.Name x pos'] e pos) (sAsg m (gSet i)) := PS.imp (ps_set hN hi hx he hs hf) fun D σ H h => by
  obtain ⟨ι, σ0, G, r, rfl, so, R, e, p⟩ := h
  obtain ⟨⟨x, G1⟩, e1, e⟩ := bnd e
  cases e
  refine liftE.into so R e1 fun ι1 H1 a1 R1 l1 k1 => ?_
  have := p ι1 H1 a1 R1 l1 (okS_set (okS_mono l1 so) k1)
  rw [ms_set] at this
  rw [ms_agr a1 so]
  exact this
/-! ### for, while -/
theorem PSs.ends {t : TS} {m : MS} (h : SSs X rest m) : PSs X rest (liftS X.K m) := h
theorem s_for {n : Nat} {w : MI} {g : MG} {b : MS} (hp : PassesOwn (model X.prog X.w) X.A X.env X.xe) (hc : X.calm = true) (hi : SI X tg iter w) (hg : SG X tg g) (hb : SSs X body b)
    (hs : ∀ x, foldedSetIterable iter X.env x = pure x := by intro _; rfl) : SS X (.For tg iter body [] pos) (sFor n w g b) := PS.imp (ps_for hp hc hi hg hb hs) fun D σ H h => by
  obtain ⟨ι, σ0, G, r, rfl, so, R, e, p⟩ := h
  obtain ⟨⟨it, G1⟩, e1, e⟩ := bnd e
  refine ⟨ι, σ0, G, it, G1, rfl, so, R, e1, fun ι1 H1 a1 R1 l1 J hJ => ?_⟩
  refine ⟨fun i f σ H => ∃ (ι' : Em) (σ' : L2.St) (G' : Hz) (r : Zl.R), σ = ms ι' σ' ∧ okS G'.length σ' = true ∧ Rel X.K ι' G' H ∧ Agr G1.length ι1 ι' ∧ G1.length ≤ G'.length ∧ loopF it g b f i σ' G' = some r ∧ PostS X.K ι G.length D r, ?_, ?_⟩
  · exact ⟨n, ι1, σ0, G1, r, ms_agr a1 so, okS_mono l1 so, R1, .refl, Nat.le_refl _, e, p⟩
  · rintro i f σ H ⟨ι', σ', G', r, rfl, so', R', a', l', e', p'⟩
    cases f with
    | zero => cases e'
    | succ f =>
      obtain ⟨hstop, hgo⟩ := hJ ι' G' H i a' l' R'
      have aa : Agr G.length ι ι' := a1.trans a' l1
      have ll : G.length ≤ G'.length := Nat.le_trans l1 l'
      unfold loopF at e'
      cases q : it i G' with
      | none => rw [q] at e'; cases e'
      | some o =>
        rw [q] at e'
        cases o with
        | none =>
          cases e'
          exact .inl ⟨hstop q, p' ι' H aa R' ll so'⟩
        | some xg =>
          obtain ⟨x, G2⟩ := xg
          obtain ⟨go, hy⟩ := hgo x G2 q
          obtain ⟨⟨σ3, G3⟩, e2, e'⟩ := bnd e'
          obtain ⟨r4, e4, e'⟩ := bnd e'
          refine .inr ⟨go, _, fun σ' H' z => ⟨f, Nat.lt_succ_self f, z⟩, fun y H2 yy => ?_⟩
          obtain ⟨ι2, a2, R2, rfl, k2, l2⟩ := hy y H2 yy
          rw [ms_agr a2 so']
          refine ⟨ι2, x, σ', G2, σ3, G3, rfl, k2, rfl, okS_mono l2 so', R2, e2, fun ι3 H3 a3 R3 l3 k3 => ?_⟩
          have a13 : Agr G'.length ι' ι3 := a2.trans a3 l2
          have l13 : G'.length ≤ G3.length := Nat.le_trans l2 l3
          refine liftS.into k3 R3 e4 ?_
          cases r4 with
          | nx σ4 G4 => exact fun ι4 H4 a4 R4 l4 k4 => ⟨ι4, σ4, G4, r, rfl, k4, R4, a'.trans (a13.trans a4 l13) l', Nat.le_trans l' (Nat.le_trans l13 l4), e', p'⟩
          | ct σ4 G4 => exact fun ι4 H4 a4 R4 l4 k4 => ⟨ι4, σ4, G4, r, rfl, k4, R4, a'.trans (a13.trans a4 l13) l', Nat.le_trans l' (Nat.le_trans l13 l4), e', p'⟩
          | bk σ4 G4 =>
            cases e'
            exact PostN.from p' (aa.trans a13 ll) (Nat.le_trans ll l13)
          | rt v G4 =>
            cases e'
            exact Pz.from p' (aa.trans a13 ll) (Nat.le_trans ll l13)
/-! ### what a loop walks -/
theorem itR_ok {K : PySem.W.Frag} {ι : Em} {n : Nat} {lo : Int} {m : Nat} : ItOk K ι n (itR lo m) (Itr lo m) := by
  intro ι' G H i ag l R
  unfold itR
  by_cases h : i < m
  · rw [if_pos h]
    refine ⟨(fun z => nomatch z), fun x G1 z => ?_⟩
    cases z
    refine ⟨h, fun y H1 yy => ?_⟩
    obtain ⟨rfl, rfl⟩ := yy
    exact ⟨ι', .refl, R, rfl, rfl, Nat.le_refl _⟩
  · rw [if_neg h]
    refine ⟨fun _ => Nat.le_of_not_lt h, fun x G1 z => ?_⟩
    cases z
theorem small62_of {i : Int} (h : small62 i = true) : -(2 ^ 62) ≤ i ∧ i < 2 ^ 62 := of_decide_eq_true h
theorem i_range1 {a : Expr} {m : MA} {p pos : Pos} (hg : Gl X "range") (hm : X.mg "range" = none) (ha : SA X [a] m) (hs : starEach [a] X.env = [(false, eval a X.env)] := by rfl) : SI X tg (.Call (.Name "range" p) [a] [] pos) (iRange1 m) := PI.imp (pi_range1 hg hm ha hs) fun σ H Q h => by
  obtain ⟨ι, σ0, G, it, G1, rfl, so, R, e, p⟩ := h
  obtain ⟨⟨xs, G2⟩, e1, e⟩ := bnd e
  refine ⟨ι, σ0, G, xs, G2, rfl, so, R, e1, fun ι1 H1 a1 R1 l1 k1 => ?_⟩
  dsimp only at e
  split at e
  · split at e
    · rename_i z
      cases e
      exact ⟨_, rfl, (small62_of z).1, (small62_of z).2, p ι1 H1 a1 R1 l1 _ itR_ok⟩
    · cases e
  · cases e
/-! ### list comprehensions -/
theorem wipe_in {σ : L2.St} {i : Nat} : ∀ {vs : List Nat}, i ∈ vs → i < σ.length → (wipe σ vs)[i]? = some none
  | [], h, _ => nomatch h
  | v :: vs, h, l => by
    show ((wipe σ vs).set v none)[i]? = _
    by_cases z : v = i
    · subst z
      rw [List.getElem?_set_self (by rw [wipe_length]; exact l)]
    · rw [List.getElem?_set_ne z]
      rcases List.mem_cons.mp h with q | q
      · exact absurd q.symm z
      · exact wipe_in q l
theorem wipe_wipe (σ : L2.St) (vs : List Nat) : wipe (wipe σ vs) vs = wipe σ vs := by
  refine List.ext_getElem? fun i => ?_
  by_cases h : i ∈ vs
  · by_cases l : i < σ.length
    · rw [wipe_in h (by rw [wipe_length]; exact l), wipe_in h l]
    · rw [List.getElem?_eq_none (by rw [wipe_length, wipe_length]; omega), List.getElem?_eq_none (by rw [wipe_length]; omega)]
  · rw [wipe_out h]
theorem turn_of {K : PySem.W.Frag} {g : MG} {t : MT} {te : ME} {cm : Bool} {D : Nat} {ι ι0 : Em} {σ0 : L2.St} {x : V} {G G1 G2 : Hz} {H H1 : Hp} {vs : List Nat} {Nx : Hp → Prop} (R0 : Rel K ι0 G H) (R : Rel K ι G1 H1) (a0 : Agr G.length ι0 ι) (l0 : G.length ≤ G1.length)
    (so : okS G.length (wipe σ0 vs) = true) (kx : okV G1.length x = true) (hD : D < G.length)
    (hg : ∀ (v : V) (σ : L2.St) (G : Hz) (σ' : L2.St) (G' : Hz), g v σ G = some (σ', G') → wipe σ' vs = wipe σ vs)
    (e : turnC cm g t te D (wipe σ0 vs) x G G1 = some G2) (nx : ∀ ι' H', Agr G.length ι0 ι' → Rel K ι' G2 H' → G.length ≤ G2.length → Nx H') :
    liftG K g (mv ι x) (wipe (ms ι0 σ0) vs) H1 fun σ2 H2 => wipe σ2 vs = wipe (ms ι0 σ0) vs ∧ liftB K t σ2 H2 fun b H3 =>
      if b = true then liftE K te σ2 H3 fun y H4 => ∃ acc, H4 (ι0 D) = some (.lst acc) ∧ acc.length < sizeLine ∧ Nx (upd H4 (ι0 D) (.lst (acc ++ [y]))) else Nx H3 := by
  obtain ⟨⟨σ2, Ga⟩, e1, e⟩ := bnd e
  obtain ⟨⟨k, Gb⟩, e2, e⟩ := bnd e
  rw [← ms_wipe, ms_agr a0 so]
  refine ⟨ι, x, wipe σ0 vs, G1, σ2, Ga, rfl, kx, rfl, okS_mono l0 so, R, e1, fun ι1 H2 a1 R1 l1 k1 => ⟨?_, ?_⟩⟩
  · rw [← ms_wipe, hg _ _ _ _ _ e1, ms_wipe, ms_agr a1 (okS_mono l0 so)]
    rw [← ms_wipe]
    congr 1
    exact (wipe_wipe σ0 vs)
  · have a01 : Agr G.length ι0 ι1 := a0.trans a1 l0
    have l01 : G.length ≤ Ga.length := Nat.le_trans l0 l1
    refine ⟨ι1, σ2, Ga, k, Gb, rfl, k1, R1, e2, fun ι2 H3 a2 R2 l2 => ?_⟩
    have a02 : Agr G.length ι0 ι2 := a01.trans a2 l01
    have l02 : G.length ≤ Gb.length := Nat.le_trans l01 l2
    rw [ms_agr a2 k1]
    cases k with
    | false =>
      dsimp only at e ⊢
      rw [if_neg Bool.false_ne_true] at e ⊢
      cases cm with
      | false =>
        cases e
        exact nx ι2 H3 a02 R2 l02
      | true =>
        rw [if_pos rfl] at e
        split at e
        · rename_i kb
          cases e
          exact nx ι2 H3 a02 (R0.cut R2 kb) (by rw [List.length_take]; exact Nat.le_of_eq (Nat.min_eq_left (kept_len kb)).symm)
        · cases e
    | true =>
      dsimp only at e ⊢
      rw [if_pos rfl] at e ⊢
      obtain ⟨⟨y, Gc⟩, e3, e⟩ := bnd e
      obtain ⟨⟨z, Gd⟩, e4, e⟩ := bnd e
      refine liftE.into (okS_mono l2 k1) R2 e3 fun ι3 H4 a3 R3 l3 k3 => ?_
      have a03 : Agr G.length ι0 ι3 := a02.trans a3 l02
      have l03 : G.length ≤ Gc.length := Nat.le_trans l02 l3
      have fin : ∀ (ι4 : Em), Agr G.length ι0 ι4 → Rel K ι4 Gd H4 → mv ι4 z = mv ι3 y → okV Gd.length z = true → G.length ≤ Gd.length → ∃ acc, H4 (ι0 D) = some (.lst acc) ∧ acc.length < sizeLine ∧ Nx (upd H4 (ι0 D) (.lst (acc ++ [mv ι3 y]))) := fun ι4 a4 R4 q4 k4 l4 => by
        dsimp only at e
        split at e
        · rename_i acc q
          split at e
          · rename_i zz
            cases e
            have eD : ι0 D = ι4 D := a4 D hD
            refine ⟨acc.map (mv ι4), by rw [eD]; exact R4.lstM q, by rw [List.length_map]; exact zz, ?_⟩
            have := R4.put (o' := .lst (acc ++ [z])) q rfl (by show List.all _ _ = true; rw [List.all_append, R4.okl q, List.all_cons, k4]; rfl) rfl
            rw [show O.ho ι4 (.lst (acc ++ [z])) = .lst (acc.map (mv ι4) ++ [mv ι3 y]) from by rw [← q4]; show HO.lst (List.map _ _) = _; rw [List.map_append]; rfl] at this
            rw [eD]
            exact nx ι4 _ a4 this (by rw [List.length_set]; exact l4)
          · cases e
        · cases e
      cases cm with
      | false =>
        cases e4
        exact fin ι3 a03 R3 rfl k3 l03
      | true =>
        rw [if_pos rfl] at e4
        obtain ⟨ι4, a4, R4, q4, k4, l4⟩ := cut_to R0 R3 a03 k3 e4
        exact fin ι4 a4 R4 q4 k4 l4
end
end Zl

/-! Zl, part 5: list comprehensions; defs of the program and their calls. -/
namespace Zl
open PySem PySem.Spec L2
open PyProof.Rows hiding St

/-- a target that stores nothing but at the slots vs -/
def GW (vs : List Nat) (g : MG) : Prop := ∀ (v : V) (σ : L2.St) (G : Hz) (σ' : L2.St) (G' : Hz), g v σ G = some (σ', G') → wipe σ' vs = wipe σ vs
theorem wipe_set {σ : L2.St} {i : Nat} {v : V} {vs : List Nat} (h : i ∈ vs) : wipe (σ.set i (some v)) vs = wipe σ vs := by
  refine List.ext_getElem? fun j => ?_
  by_cases hj : j ∈ vs
  · by_cases l : j < σ.length
    · rw [wipe_in hj (by rw [List.length_set]; exact l), wipe_in hj l]
    · rw [List.getElem?_eq_none (by rw [wipe_length, List.length_set]; omega), List.getElem?_eq_none (by rw [wipe_length]; omega)]
  · rw [wipe_out hj, wipe_out hj, List.getElem?_set_ne fun z => hj (by rw [← z]; exact h)]
theorem gw_set {vs : List Nat} {i : Nat} (h : i ∈ vs) : GW vs (gSet i) := fun v σ G σ' G' e => by
  cases e
  exact wipe_set h
def STs (X : Cx) (ifs : List Expr) (t : MT) : Prop := PTs X ifs (liftB X.K t)
theorem sts_nil {X : Cx} : STs X [] tYesZ := ⟨fun pins s σ H Q I h => by
  obtain ⟨ι, σ0, G, v, G', rfl, so, R, e, p⟩ := h
  cases e
  exact (pts_nil (X := X)).run pins s _ H Q I (p ι H .refl R (Nat.le_refl _))⟩
section
variable {X : Cx} {elt tg iter : Expr} {ifs : List Expr} {scope : Scope} {own : List (Str × Nat)} {pos : Pos} {w : MI} {g : MG} {t : MT} {te : ME} {n : Nat} {cm : Bool}
theorem comp_lift (gw : GW (own.map (·.2)) g) {σ : L2.St} {H : Hp} {Q : VK} (h : liftE X.K (eComp n cm w (own.map (·.2)) g t te) σ H Q) : tLc (liftI X.K w) (liftG X.K g) (liftB X.K t) (liftE X.K te) (own.map (·.2)) σ H Q := by
  generalize own.map (·.2) = vs at gw h ⊢
  obtain ⟨ι, σ0, G, v, G', rfl, so, R, e, p⟩ := h
  obtain ⟨⟨it, G1⟩, e1, e⟩ := bnd e
  obtain ⟨G2, e2, e⟩ := bnd e
  cases e
  refine ⟨ι, σ0, G, it, G1, rfl, so, R, e1, fun ι1 H1 a1 R1 l1 J hJ D hD => ?_⟩
  have R2 := R1.new (o := .lst []) rfl rfl hD
  refine ⟨fun i f H => ∃ (ι' : Em) (Gi : Hz), Rel X.K ι' Gi H ∧ Agr (G1.length + 1) (ext ι1 G1.length D) ι' ∧ G1.length + 1 ≤ Gi.length ∧ loopC it (turnC cm g t te G1.length (wipe σ0 vs)) f i Gi = some G', ?_, ?_⟩
  · exact ⟨n, _, _, R2, .refl, by simp, e2⟩
  · rintro i f H ⟨ι', Gi, Ri, ai, li, ei⟩
    have a1i : Agr G1.length ι1 ι' := ext_agr.trans (ai.mono (Nat.le_succ _)) (Nat.le_refl _)
    have l1i : G1.length ≤ Gi.length := Nat.le_trans (Nat.le_succ _) li
    have eD : ι' G1.length = D := (ai _ (Nat.lt_succ_self _)).symm.trans ext_self
    cases f with
    | zero => cases ei
    | succ f =>
      obtain ⟨hstop, hgo⟩ := hJ ι' Gi H i a1i l1i Ri
      unfold loopC at ei
      cases q : it i Gi with
      | none => rw [q] at ei; cases ei
      | some o =>
        rw [q] at ei
        cases o with
        | none =>
          cases ei
          refine .inl ⟨hstop q, ?_⟩
          have := p ι' H (a1.trans a1i l1) Ri (Nat.le_trans l1 l1i) (decide_eq_true li)
          rw [show mv ι' (.ref G1.length) = .ref D from congrArg V.ref eD] at this
          exact this
        | some xg =>
          obtain ⟨x, G3⟩ := xg
          obtain ⟨go, hy⟩ := hgo x G3 q
          obtain ⟨G4, e4, ei⟩ := bnd ei
          refine .inr ⟨go, _, fun H' z => ⟨f, Nat.lt_succ_self f, z⟩, fun y H2 yy => ?_⟩
          obtain ⟨ι2, a2, Rx, rfl, k2, l2⟩ := hy y H2 yy
          rw [ms_agr (a1.trans a1i l1) so, ← eD]
          refine turn_of Ri Rx a2 l2 (okS_wipe (okS_mono (Nat.le_trans l1 l1i) so) _) k2 li gw e4 fun ι3 H3 a3 R3 l3 => ?_
          exact ⟨ι3, G4, R3, by rw [eD]; exact ai.trans a3 li, Nat.le_trans li l3, ei⟩
theorem se_comp (hc : X.calm = true) (hN : X.N.Nodup) (hi : SI X tg iter w) (ok : BlkOk X.N X.env.scope scope own) (gw : GW (own.map (·.2)) g)
    (hg : ∀ (s : Shared) (H : Hp) (C : Addr) (cl : List (Str × Addr)) (fp : List Addr), SG (X.blk s H scope (compEnvC scope cl C X.env) fp) tg g) (ht : ∀ (s : Shared) (H : Hp) (C : Addr) (cl : List (Str × Addr)) (fp : List Addr), STs (X.blk s H scope (compEnvC scope cl C X.env) fp) ifs t)
    (he : ∀ (s : Shared) (H : Hp) (C : Addr) (cl : List (Str × Addr)) (fp : List Addr), SE (X.blk s H scope (compEnvC scope cl C X.env) fp) elt te) (hs : ∀ x, foldedSetIterable iter X.env x = pure x := by intro _; rfl) :
    SE X (.ListComp elt [⟨tg, iter, ifs, 0⟩] scope pos) (eComp n cm w (own.map (·.2)) g t te) :=
  PE.imp (pe_lc (g := liftG X.K g) (tt := liftB X.K t) (te := liftE X.K te) hc hN hi ok hg ht he hs) fun _ _ _ h => comp_lift gw h
end

/-! ### defs -/
/-- the def at f does what m says, wherever no value is being shown (guards) -/
structure FnZ (P : Program) (w : World) (K : PySem.W.Frag) (mg : Str → Option Value) (base : Heap) (k : Nat) (f : Addr) (fd : FuncData) (ps : List Str) (m : FL) : Prop where
  run : ∀ (A : Around) (outer : List Env) (s : Shared) (H : Hp) (args : Args) (us : List Value) (ι : Em) (G : Hz) (vs : List V) (v : V) (G' : Hz) (Q : VK),
    Room k A → A.guards = some [] → Env0 P w K mg base A outer s H → BindsTo s fd args (ps.zip us) → Vals (vs.map (mv ι)) us → vs.length = ps.length → Rel K ι G H → vs.all (okV G.length) = true →
    m vs G = some (v, G') → Pz K ι G.length v G' Q → codeAny (model P w) A (.call (.ref f) args) (CR CX0 outer P w H s Q E0) s
section
variable {P : Program} {w : World} {K : PySem.W.Frag} {mg : Str → Option Value} {base : Heap}
theorem FnZ.mono {j k : Nat} {f : Addr} {fd : FuncData} {ps : List Str} {m : FL} (F : FnZ P w K mg base j f fd ps m) (h : j ≤ k) : FnZ P w K mg base k f fd ps m :=
  ⟨fun A outer s H args us ι G vs v G' Q hr => F.run A outer s H args us ι G vs v G' Q (hr.mono h)⟩
theorem ms_start {ι : Em} {N : List Str} {vs : List V} : ms ι (startZ N.length vs) = L2.start N (vs.map (mv ι)) := by
  unfold ms startZ L2.start
  rw [List.map_append, List.map_map, List.map_map, List.map_replicate, List.length_map]
  rfl
theorem okS_start {n k : Nat} {vs : List V} (h : vs.all (okV n) = true) : okS n (startZ k vs) = true := by
  unfold okS startZ
  rw [List.all_append, Bool.and_eq_true]
  refine ⟨List.all_eq_true.mpr fun x hx => ?_, List.all_eq_true.mpr fun x hx => ?_⟩
  · obtain ⟨v, hv, rfl⟩ := List.mem_map.mp hx
    exact all_mem h hv
  · rw [List.eq_of_mem_replicate hx]
/-- THE RULE for a def: its body by the rules -/
theorem fnz_of {k : Nat} {f : Addr} {name qual : Str} {params : Arguments} {body : List Stmt} {scope : Scope} {dV kV doc pm cdv ct oc : Value} {an od : Option Addr} {osl : Array (Option Value)} {N ps : List Str} {b : MS}
    (lk : K.lookup f = some ⟨oc, od, .func (PySem.W.fnOf name qual params body scope dV kV doc pm an cdv ct), osl⟩) (hcd : PySem.W.codeIn K cdv qual = true) (S : FnScope N ps scope)
    (hbody : ∀ (A : Around) (outer : List Env) (s : Shared) (H : Hp), Room k (A.deeper (envOfC qual scope s.heap.objs.size f cdv)) → A.guards = some [] → SSs (cxOf CX0 P w K mg base N qual scope f cdv A outer s H E0).nox body b) :
    FnZ P w K mg base (k + 1) f (PySem.W.fnOf name qual params body scope dV kV doc pm an cdv ct) ps (runD N.length b) := by
  refine ⟨fun A outer s H args us ι G vs v G' Q hr hG e0 hb r hl R ko e p => ?_⟩
  have hl2 : (vs.map (mv ι)).length = ps.length := by rw [List.length_map]; exact hl
  have keep := fun b o (z : base.get? b = some o) => (e0.bs b o z).1
  have KX : K.In s.heap := e0.mod.kin.keeps keep
  have bound : ∀ y ∈ ps.zip us, scope.names.lookup y.1 = some .local ∨ (scope.names.lookup y.1 = some .cell ∧ ((cellsFrom (s.heap.objs.size + 1) scope.names []).lookup y.1).isSome = true) := fun ⟨y, u⟩ hy =>
    (S.par y (List.of_mem_zip hy).1).imp (fun q => q) fun q => ⟨q, PySem.W.cellsFrom_some _ _ _ (.inl q)⟩
  refine codeAny_call_function hr.depth (KX _ _ lk) rfl S.co S.gen rfl (PySem.W.codeRec_of KX hcd) (hb _ _ _ _ (wpAny_newFunctionEnv_cells S.kind bound fun env he s1 x => ?_))
  subst he
  refine ⟨(e0.mod.nolimit.keeps keep).keeps x.toInCall.keep, codeAny_func ?_⟩
  have I := inv_start (CX := CX0) (E := E0) S hr.hd e0 hl2 r x
  have I2 := I.wish fun _ _ => False
  obtain ⟨r1, e1, e⟩ := bnd e
  have go := (hbody A outer s H (hr.deeper _) hG).run [] s1 _ H { nx := fun _ H' => Q .non H', rt := Q } I2 (by
    rw [← ms_start]
    refine liftS.into (okS_start ko) R e1 ?_
    cases r1 with
    | nx σ1 G1 => cases e; exact fun ι' H' a' R' l' _ => p ι' H' a' R' l' rfl
    | rt u G1 => cases e; exact p
    | bk σ1 G1 => cases e
    | ct σ1 G1 => cases e)
  refine wpAny_mono go (fun fl s' hs => ?_) fun _ _ z => False.elim z
  cases fl with
  | ret u =>
    obtain ⟨v', σ', H', J, rv, q⟩ := hs
    exact ⟨v', H', J.os, J.bare, J.base, J.hok, rv, q⟩
  | next =>
    obtain ⟨σ', H', J, q⟩ := hs
    exact ⟨V.non, H', J.os, J.bare, J.base, J.hok, rfl, q⟩
  | brk => obtain ⟨_, _, _, z⟩ := hs; exact False.elim z
  | cont => obtain ⟨_, _, _, z⟩ := hs; exact False.elim z
/-- the same over the layer's Fun -/
theorem Fun.okZ {x qual : Str} {st : Stmt} {f : Addr} {fd : FuncData} {N ps : List Str} {k : Nat} {b : MS} (F : Fun K x qual st f fd) (S : FnScope N ps (defScope st))
    (hbody : ∀ (cdv : Value) (A : Around) (outer : List Env) (s : Shared) (H : Hp), Room k (A.deeper (envOfC qual (defScope st) s.heap.objs.size f cdv)) → A.guards = some [] → SSs (cxOf CX0 P w K mg base N qual (defScope st) f cdv A outer s H E0).nox (defBody st) b) :
    FnZ P w K mg base (k + 1) f fd ps (runD N.length b) := by
  obtain ⟨oc, od, kV, doc, pm, an, cdv, ct, osl, rfl, lk, hcd⟩ := F.ex
  exact fnz_of lk hcd S fun A outer s H hr hG => hbody cdv A outer s H hr hG
end

section
variable {X : Cx} {k : Nat} {f : Addr} {fd : FuncData} {ps : List Str} {dvs : List V} {ds : List Value} {x : Str} {p pos : Pos} {e : Expr} {es : List Expr} {m : FL} {ma : MA}
/-- the def's call: the written arguments, then the defaults -/
def eFn (m : FL) (dvs : List V) (r : MA) : ME := fun σ G => (r σ G).bind fun p => m (p.1 ++ dvs) p.2
theorem run_fnz {pins : List (Addr × Obj)} {σ : L2.St} {H : Hp} {s : Shared} {Q : VK} {us : List Value} {vs : List V} {ι : Em} {G G' : Hz} {v : V} (F : FnZ X.prog X.w X.K X.mg X.base k f fd ps m) (hr : Room k X.A) (hG : X.A.guards = some []) (hb : Binds X.K fd ps ds) (hd : Vals dvs ds) (hat : dvs.all atomV = true)
    (hl : (vs ++ dvs).length = ps.length) (I : Inv X pins σ H s) (r : Vals (vs.map (mv ι)) us) (R : Rel X.K ι G H) (ko : vs.all (okV G.length) = true) (e : m (vs ++ dvs) G = some (v, G')) (pz : Pz X.K ι G.length v G' Q) :
    wpAny (model X.prog X.w) X.A (call (.ref f) us) (EP X pins σ Q) X.xe s := by
  have dm : dvs.map (mv ι) = dvs := by
    have : ∀ l : List V, l.all atomV = true → l.map (mv ι) = l := fun l => by
      induction l with
      | nil => intro _; rfl
      | cons a l ih =>
        intro h
        rw [List.all_cons, Bool.and_eq_true] at h
        rw [List.map_cons, atom_mv h.1, ih h.2]
    exact this dvs hat
  have dk : dvs.all (okV G.length) = true := List.all_eq_true.mpr fun v hv => atom_ok (List.all_eq_true.mp hat v hv) _
  have r2 : Vals ((vs ++ dvs).map (mv ι)) (us ++ ds) := by
    rw [List.map_append, dm]
    exact r.append hd
  have hl2 : (us ++ ds).length = ps.length := by rw [← r2.length, List.length_map]; exact hl
  refine wpAny_call (codeAny_mono (F.run X.A X.stack s H ⟨us, []⟩ (us ++ ds) ι G (vs ++ dvs) v G' Q hr hG I.env0 (hb s us I.kIn hl2) r2 hl R (by rw [List.all_append, ko, dk]; rfl) e pz) fun r s' hq => ?_)
  cases r with
  | error e => exact hq.elim
  | ok fl => cases fl with
    | ret u => exact I.after hq
    | _ => exact hq.elim
theorem se_fn (F : FnZ X.prog X.w X.K X.mg X.base k f fd ps m) (hr : Room k X.A) (hG : X.A.guards = some []) (hg : Gl X x) (hm : X.mg x = some (.ref f)) (hk : PySem.W.keepIn X.K (.ref f) = true) (hb : Binds X.K fd ps ds) (hd : Vals dvs ds) (hat : dvs.all atomV = true)
    (ha : SA X (e :: es) ma) (hn : ∀ σ G vs G', ma σ G = some (vs, G') → (vs ++ dvs).length = ps.length) (hdb : (x == ("__debug__" : Str)) = false := by decide) (he : starEach (e :: es) X.env = (false, eval e X.env) :: starEach es X.env := by rfl) (hpl : (backTo pos (starEach es X.env)).any (·.1) = false := by rfl) :
    SE X (.Call (.Name x p) (e :: es) [] pos) (eFn m dvs ma) := by
  refine ⟨fun pins s σ H Q I h => ?_⟩
  obtain ⟨ι, σ0, G, v, G', rfl, so, R, ee, pz⟩ := h
  obtain ⟨⟨xs, G1⟩, e1, ee⟩ := bnd ee
  refine wpAny_Call_Name_kw (ld_glob I hg hm ?_ hdb)
  have hA := PA.run ha pos pins s _ H (fun vs' H1 => ∃ ι1, xs.map (mv ι1) = vs' ∧ Agr G.length ι ι1 ∧ Rel X.K ι1 G1 H1 ∧ G.length ≤ G1.length ∧ xs.all (okV G1.length) = true) I ⟨ι, σ0, G, xs, G1, rfl, so, R, e1, fun ι1 H1 a1 R1 l1 k1 => ⟨ι1, rfl, a1, R1, l1, k1⟩⟩
  refine PySem.W.callWith_K (h₀ := X.base) I.ok.mod.kin hk (thn hA fun us s1 hz => ?_) he hpl
  obtain ⟨vs, H1, I1, r, ι1, rfl, a1, R1, l1, k1⟩ := hz
  exact ⟨I1.kIn, run_fnz F hr hG hb hd hat (hn _ _ _ _ e1) I1 r R1 k1 ee (pz.from a1 l1)⟩
/-- how many values an argument list gives -/
def AL (n : Nat) (ma : MA) : Prop := ∀ σ G vs G', ma σ G = some (vs, G') → vs.length = n
theorem al_nil : AL 0 aNil := fun _ _ _ _ e => by cases e; rfl
theorem al_cons {n : Nat} {m : ME} {r : MA} (h : AL n r) : AL (n + 1) (aCons m r) := fun _ _ _ _ e => by
  obtain ⟨p, e1, e⟩ := bnd e
  obtain ⟨q, e2, e⟩ := bnd e
  cases e
  rw [List.length_cons, h _ _ _ _ e2]
theorem AL.to {n j : Nat} (h : AL n ma) (q : n + dvs.length = j) : ∀ σ G vs G', ma σ G = some (vs, G') → (vs ++ dvs).length = j := fun _ _ _ _ e => by
  rw [List.length_append, h _ _ _ _ e]
  exact q
end
end Zl

/-! Zl, part 6: more built-ins and methods, repr, isinstance, enumerate, zip, a law's end. -/
namespace Zl
open PySem PySem.Spec L2
open PyProof.Rows hiding St

/-- len(set(xs)), xs of ints -/
def nDist (ns : List Int) : Nat := (PyProof.Rows.firstMet (fun i => ns.getD i 0) ns.length).length
def fLenSet : F1 := fun x G => match x with
  | .ref a => match G[a]? with
    | some (.lst xs) => match ints? xs with
      | some ns => if ns.length ≤ 4000 then some (.int (nDist ns), G) else none
      | none => none
    | _ => none
  | _ => none
/-- the built-in type of a value -/
def tyZ (v : V) (G : Hz) : Option String := match v with
  | .non => some "NoneType"
  | .bl _ => some "bool"
  | .int _ => some "int"
  | .str _ => some "str"
  | .ref a => match G[a]? with
    | some (.lst _) => some "list"
    | some (.fz _) => some "list"
    | some (.tup _) => some "tuple"
    | some (.dK _) => some "dict"
    | _ => none
  | _ => none
def isiT (t T : String) : Option Bool := if t = T then some true else if t = "bool" ∧ T = "int" then some true else
  if (t = "NoneType" ∨ t = "bool" ∨ t = "int" ∨ t = "str" ∨ t = "list" ∨ t = "tuple" ∨ t = "dict") ∧ (T = "bool" ∨ T = "int" ∨ T = "str" ∨ T = "list" ∨ T = "tuple" ∨ T = "dict") then some false else none
def fIsi : FL := fun vs G => match vs with
  | [x, .ty T] => (tyZ x G).bind fun t => (isiT t T).bind fun b => some (.bl b, G)
  | _ => none
def uAdd : F2 := fun x y G => match x, y with
  | .int i, .int j => some (.int (i + j), G)
  | _, _ => none
def uSub : F2 := fun x y G => match x, y with
  | .int i, .int j => some (.int (i - j), G)
  | _, _ => none

section
variable {X : Cx} {pos : Pos}
/-! repr -/
/-! methods of lists -/
theorem map_eraseIdx {α β : Type} (f : α → β) : ∀ (l : List α) (k : Nat), (l.eraseIdx k).map f = (l.map f).eraseIdx k
  | [], _ => rfl
  | _ :: _, 0 => rfl
  | a :: l, k + 1 => congrArg (f a :: ·) (map_eraseIdx f l k)
/-! stores -/
theorem z_putL : PutZ X pLst := by
  refine ⟨_, set_list, fun ι G H o i v G' Q R ko ki kv e p => ?_⟩
  unfold pLst at e
  split at e
  · split at e
    · rename_i q
      obtain ⟨j, ej, e⟩ := bnd e
      cases e
      refine ⟨_, _, _, j, rfl, rfl, R.lstM q, by rw [List.length_map]; exact ej, ?_⟩
      rw [← List.map_set]
      exact p ι _ .refl (R.put (o' := .lst _) q rfl (List.all_eq_true.mpr fun u hu => by
        rcases List.mem_or_eq_of_mem_set hu with z | z
        · exact all_mem (R.okl q) z
        · rw [z]; exact kv) rfl) (by rw [List.length_set]; exact Nat.le_refl _)
    · cases e
  · cases e
/-! enumerate, zip -/
theorem itE_ok {K : PySem.W.Frag} {ι : Em} {n a : Nat} (ha : a < n) : ItOk K ι n (itE a) (Ite K (ι a)) := by
  intro ι' G H i ag l R
  have e0 : ι a = ι' a := ag a ha
  unfold itE
  split
  · rename_i xs q
    have hq : SqL K H (ι a) (xs.map (mv ι')) := by rw [e0]; exact R.lstS q
    cases q2 : xs[i]? with
    | none =>
      refine ⟨fun _ => ⟨_, hq, ?_⟩, fun x G1 z => ?_⟩
      · rw [List.length_map]
        exact List.getElem?_eq_none_iff.mp q2
      · cases z
    | some u =>
      refine ⟨fun z => ?_, fun x G1 z => ?_⟩
      · cases z
      · cases z
        have q' : (xs.map (mv ι'))[i]? = some (mv ι' u) := by rw [List.getElem?_map, q2]; rfl
        have ku := all_mem (R.okl q) (List.mem_of_getElem? q2)
        refine ⟨⟨_, _, hq, q'⟩, fun y H1 yy => ?_⟩
        obtain ⟨T, x, rfl, hT, rfl, hx⟩ := yy
        have hx' := hx _ hq
        rw [q'] at hx'
        cases hx'
        have := R.new (o := .tup [.int (i : Int), u]) (p := T) (by show List.all _ _ = true; rw [List.all_cons, List.all_cons, ku]; rfl) rfl hT
        exact ⟨ext ι' G.length T, ext_agr, this, (congrArg V.ref ext_self).symm, by simp [okV], by simp⟩
  · exact ⟨(fun z => nomatch z), fun _ _ z => nomatch z⟩
theorem i_enum {e : Expr} {m : MA} {p tpos : Pos} {elts : List Expr} {kk : Nat} (hg : Gl X "enumerate") (hm : X.mg "enumerate" = none) (ha : SA X [e] m) (hs : starEach [e] X.env = [(false, eval e X.env)] := by rfl) : SI X (.Tuple elts kk tpos) (.Call (.Name "enumerate" p) [e] [] pos) (iEnumZ m) := PI.imp (pi_enum hg hm ha hs) fun σ H Q h => by
  obtain ⟨ι, σ0, G, it, G1, rfl, so, R, e, p⟩ := h
  obtain ⟨⟨xs, G2⟩, e1, e⟩ := bnd e
  refine ⟨ι, σ0, G, xs, G2, rfl, so, R, e1, fun ι1 H1 a1 R1 l1 k1 => ?_⟩
  dsimp only at e
  split at e
  · split at e
    · rename_i q
      cases e
      exact ⟨_, _, rfl, R1.lstS q, p ι1 H1 a1 R1 l1 _ (itE_ok (lt_of_get q))⟩
    · cases e
  · cases e
end
end Zl

/-! Zl, part 7: a law's end. -/
namespace Zl
open PySem PySem.Spec L2
open PyProof.Rows hiding St

/-- the script as the only thing of the plain heap -/
def G0 (ns : List Int) : Hz := [.fz (ns.map V.int)]
theorem rel0 {K : PySem.W.Frag} {H : Hp} {a : Addr} {ns : List Int} (h : (∃ ob, H a = some (.frz ob (.lst (ns.map V.int)))) ∨ KL K a (ns.map V.int)) : Rel K (emC fun _ => a) (G0 ns) H := by
  refine ⟨fun i o e => ?_, fun i j o u e1 e2 n1 n2 _ => ?_, fun i o e => ?_⟩
  · cases i with
    | zero =>
      cases e
      show (∃ ob, H a = some (.frz ob (.lst ((ns.map V.int).map (mv _))))) ∨ KL K a ((ns.map V.int).map (mv _))
      rw [ints_mv]
      exact h
    | succ i => cases e
  · cases i with
    | zero => cases e1; cases n1
    | succ i => cases e1
  · cases i with
    | zero => cases e; exact ints_ok ns
    | succ i => cases e
/-- the law's def, called by the claim -/
theorem law_callZ {P : Program} {w : World} {K : PySem.W.Frag} {mg mb : Str → Option Value} {k : Nat} {fa a : Addr} {fd : FuncData} {x : Str} {m : FL} {s₁ : Shared} {vs : List Value} {ns : List Int} {G' : Hz}
    (KX : K.In s₁.heap) (hns : s₁.heap.Ns mainGlobals mg) (hb : s₁.heap.Ns builtinsNs mb) (hbb : ∀ x : Str, x ≠ "__name__" → mb x = bootBuiltins x) (hlim : s₁.heap.NoLimit) (hg : s₁.gens = #[])
    (ha : s₁.heap.get? a = some { cls := .type "list", data := .seq vs.toArray }) (hi : IntsAre vs ns) (hl : ns.length ≤ sizeLine) (hr : Room k callerA)
    (F : ∀ base : Heap, K.In base → base.Ns mainGlobals mg → FnZ P w K mg base k fa fd [x] m) (hbind : ∀ (s : Shared) (u : Value), BindsTo s fd ⟨[u], []⟩ [(x, u)])
    (hm : m [.ref 0] (G0 ns) = some (.bl true, G')) :
    codeAny (model P w) callerA (.call (.ref fa) ⟨[.ref a], []⟩) (fun r s' => r = .ok (.ret (.bool true)) ∧ OldK s₁.heap s'.heap ∧ s'.os = s₁.os ∧ AllBare s'.gens) s₁ := by
  have rv := vals_ints hi
  have lenV := hi.length
  have core : ∀ H : Hp, (∀ b, H b = none ∨ ∃ o xs, H b = some (.frz o (.lst xs))) → ((∃ ob, H a = some (.frz ob (.lst (ns.map V.int)))) ∨ KL K a (ns.map V.int)) → HOk P w H s₁.heap → (∀ b, H b ≠ none → b = a) → (H a ≠ none → K.lookup a = none) →
      codeAny (model P w) callerA (.call (.ref fa) ⟨[.ref a], []⟩) (fun r s' => r = .ok (.ret (.bool true)) ∧ OldK s₁.heap s'.heap ∧ s'.os = s₁.os ∧ AllBare s'.gens) s₁ := by
    intro H hO hS hok hA hK
    have alone : ∀ {b : Addr} {u : HO}, H b = some u → b = a := fun {b u} q => hA b (by rw [q]; simp)
    have noA : ∀ {b : Addr} {o : Obj} {es : Array DictEntry} {ep : Nat}, s₁.heap.get? b = some o → o.data = .dict es ep → H b = none := fun {b o es ep} e d => by
      cases q : H b with
      | none => rfl
      | some u =>
        obtain rfl := alone q
        rw [ha] at e
        cases e
        exact nomatch (show Data.seq vs.toArray _ = Data.dict es ep from d)
    have nsK : ∀ {b : Addr} {m : Str → Option Value}, s₁.heap.Ns b m → (hidT s₁.heap H).Ns b m := fun {b m} ⟨o, es, ep, e, d, r⟩ => ⟨o, es, ep, hidT_get e (noA e d), d, r⟩
    have hKb : K.In (hidT s₁.heap H) := fun b o e => hidT_get (KX b o e) (by
      cases q : H b with
      | none => rfl
      | some u =>
        obtain rfl := alone q
        rw [hK (by rw [q]; simp)] at e
        cases e)
    have hM : Mod K mg (hidT s₁.heap H) := ⟨hKb, nsK hns, ⟨mb, nsK hb, hbb⟩, let ⟨mc, h1, h2⟩ := hlim; ⟨mc, nsK h1, h2⟩⟩
    have none_in : ∀ b : Addr, b ∉ frs [] := fun b z => absurd (show b ∈ ([] : List Addr) from z) (by simp)
    have e0 : Env0 P w K mg (hidT s₁.heap H) callerA [] s₁ H := ⟨rfl, hM, fun b o e => of_hidT e, Nat.le_of_eq (hidT_size _ _), trivial, fun b hb => absurd hb (none_in b), hok, .of_eq hg⟩
    refine codeAny_mono ((F _ hKb (nsK hns)).run callerA [] s₁ H ⟨[.ref a], []⟩ [.ref a] (emC fun _ => a) (G0 ns) [.ref 0] (.bl true) G' (fun v _ => v = .bl true) hr rfl e0 (hbind s₁ (.ref a)) (.cons rfl .nil) rfl (rel0 hS) rfl hm fun _ _ _ _ _ _ => rfl) fun r s' h => ?_
    cases r with
    | error e => exact h.elim
    | ok fl => cases fl with
      | ret u =>
        obtain ⟨v, H', os, bare, un, hok', r', q⟩ := h
        subst q
        obtain rfl : u = Value.bool true := r'
        refine ⟨rfl, OldK.of_keep fun b o e => ?_, os, bare⟩
        cases q : H b with
        | none => exact un.keep b o e q (none_in b) (by simp)
        | some u =>
          rcases hO b with z | ⟨ob, xs, z⟩
          · rw [q] at z; cases z
          · have z2 := un.frzs b ob _ z
            obtain ⟨e1, _⟩ := hok b _ z
            obtain ⟨e2, _⟩ := hok' b _ z2
            rw [e] at e1
            cases e1
            exact e2
      | _ => exact h.elim
  cases hk : K.lookup a with
  | some o =>
    have e := KX a o hk
    rw [ha] at e
    cases e
    exact core (fun _ => none) (fun _ => .inl rfl) (.inr ⟨_, vs.toArray, _, hk, rfl, rfl, rfl, by rw [List.size_toArray, lenV]; exact hl, by simpa using rv⟩) (fun b u z => nomatch (show (none : Option HO) = some u from z)) (fun b z => absurd rfl z) fun z => absurd rfl z
  | none =>
    have at_a : ∀ {b : Addr} {α : HO}, b = a → (if b = a then some α else none) = some α := fun h => if_pos h
    refine core (fun b => if b = a then some (.frz { cls := .type "list", data := .seq vs.toArray } (.lst (ns.map V.int))) else none) (fun b => ?_) (.inl ⟨_, if_pos rfl⟩) (fun b u z => ?_) (fun b z => ?_) fun _ => hk
    · by_cases hb : b = a
      · exact .inr ⟨_, _, if_pos hb⟩
      · exact .inl (if_neg hb)
    · by_cases hb : b = a
      · cases (if_pos hb).symm.trans z
        subst hb
        exact ⟨ha, by rw [List.length_map]; exact hl, vs, _, rv, ha⟩
      · cases (if_neg hb).symm.trans z
    · by_cases hb : b = a
      · exact hb
      · exact absurd (if_neg hb) z
end Zl

/-! Zl, part 8: defs with defaults, constants, the end over a head by facts. -/
namespace Zl
open PySem PySem.Spec L2
open PyProof.Rows hiding St

section
variable {P : Program} {w : World} {K : PySem.W.Frag} {mg : Str → Option Value} {base : Heap}
theorem FnZ.cut {k : Nat} {f : Addr} {fd : FuncData} {ps : List Str} {m : FL} (F : FnZ P w K mg base k f fd ps m) : FnZ P w K mg base k f fd ps (cutF m) := ⟨fun A outer s H args us ι G vs v G' Q hr hG e0 hb r hl R ko e p => by
  obtain ⟨⟨x, G1⟩, e1, e⟩ := bnd e
  refine F.run A outer s H args us ι G vs x G1 Q hr hG e0 hb r hl R ko e1 fun ι1 H1 a1 R1 l1 k1 => ?_
  obtain ⟨ι2, a2, R2, q2, k2, l2⟩ := cut_to R R1 a1 k1 e
  rw [← q2]
  exact p ι2 H1 a2 R2 l2 k2⟩
theorem FunD.okZ {x qual : Str} {params : Arguments} {body : List Stmt} {scope : Scope} {dvs : List V} {kws : List (Str × V)} {f : Addr} {fd : FuncData} {N ps : List Str} {k : Nat} {b : MS} (F : FunD K x qual params body scope dvs kws f fd) (S : FnScope N ps scope)
    (hbody : ∀ (cdv : Value) (A : Around) (outer : List Env) (s : Shared) (H : Hp), Room k (A.deeper (envOfC qual scope s.heap.objs.size f cdv)) → A.guards = some [] → SSs (cxOf CX0 P w K mg base N qual scope f cdv A outer s H E0).nox body b) :
    FnZ P w K mg base (k + 1) f fd ps (runD N.length b) := by
  obtain ⟨oc, od, dV, kV, doc, pm, an, cdv, ct, osl, rfl, lk, hcd, _, _⟩ := F.ex
  exact fnz_of lk hcd S fun A outer s H hr hG => hbody cdv A outer s H hr hG
end

section
variable {X : Cx} {st : Stmt} {rest body : List Stmt} {e a b : Expr} {pos : Pos}
/-- forget slots, no place thrown away -/
def sWipe (ds : List Nat) (b : MS) : MS := fun σ G => (b σ G).bind fun r => match r with
  | .nx σ' G' => some (.nx (wipe σ' ds) G')
  | .ct σ' G' => some (.ct (wipe σ' ds) G')
  | r => some r
/-! constants -/
def fNeg : F1 := fun x G => match x with
  | .int i => some (.int (-i), G)
  | _ => none
theorem k_pow {i j k : Int} (ha : SE X a (eC (.int i))) (hb : SE X b (eC (.int j))) (hi : smallN i = true) (h0 : 0 ≤ j) (h1 : j ≤ 1000) (q : i ^ j.toNat = k) : SE X (.BinOp a .Pow b pos) (eC (.int k)) := SE.as (se_bin z_pow ha hb) fun _ _ => by
  subst q
  show (if smallN i = true ∧ 0 ≤ j ∧ j ≤ 1000 then _ else _) = _
  rw [if_pos ⟨hi, h0, h1⟩]
  rfl
def iListZ (m : ME) : MI := fun σ G => (m σ G).bind fun p => match p.1 with
    | .ref a => match p.2[a]? with
      | some (.lst _) => some (itL a, p.2)
      | some (.fz _) => some (itL a, p.2)
      | _ => none
    | _ => none
end
/-- the turns of a loop, at most -/
@[irreducible] def fuelN : Nat := 100000
theorem lt_fuel {n : Nat} (h : n < 100000) : n < fuelN := by
  unfold fuelN
  exact h
/-- the goal that a head by facts leaves -/
theorem walk_ofZE {l : PySem.W.OpenLaw} {n k : Nat} {q : Program} {loose : List Str} {XP : (Str → Option Value) → Heap → Prop} {YP : World → Heap → Prop} {d : DefRec} {m : FL} {x : Str}
    (hn : l.most = some n) (hn2 : n ≤ sizeLine) (hdf : d.params.defaults = []) (hr : Room k callerA)
    (F : ∀ (w : World) (mg : Str → Option Value) (fa : Addr) (h : Heap), YP w h → h.Ns mainGlobals mg → mg d.name = some (.ref fa) →
      ∃ (K : PySem.W.Frag) (fd : FuncData), K.In h ∧ (∀ (s : Shared) (u : Value), BindsTo s fd ⟨[u], []⟩ [(x, u)]) ∧
        ∀ base : Heap, K.In base → base.Ns mainGlobals mg → FnZ l.prog w K mg base k fa fd [x] m)
    (hm : ∀ ns : List Int, ns.length ≤ n → ∃ G', m [.ref 0] (G0 ns) = some (.bl true, G')) :
    PySem.W.WalkO q loose XP YP l.row.toRowW d [] (fun f vs => PySem.call f vs) := by
  refine Att.attach_call hn hdf fun w s₀ s₁ mg mb fa o pm cd doc a vs ns G Y ho hd hcd hmg hobj hints hlen hg => ?_
  obtain ⟨K, fd, KX, hb, hF⟩ := F w mg fa _ Y G.T.g hmg
  obtain ⟨G', e⟩ := hm ns hlen
  exact law_callZ KX G.T.g G.T.b G.T.builtins G.T.nolimit hg hobj hints (Nat.le_trans hlen hn2) hr hF hb e
end Zl

/-! Zl, part 12: is of bools, list(range(..)), xs[::-1], dicts. -/
namespace Zl
open PySem PySem.Spec L2
open PyProof.Rows hiding St

section
variable {X : Cx} {e a b o i f : Expr} {pos : Pos}
/-! ### is, is not of bools -/
def cIsB : F2 := fun x y G => match x, y with
  | .bl i, .bl j => some (.bl (decide (i = j)), G)
  | _, _ => none
def cNotB : F2 := fun x y G => match x, y with
  | .bl i, .bl j => some (.bl (!decide (i = j)), G)
  | _, _ => none
/-! ### list(range(..)) -/
def okRg (i j : Int) : Bool := small62 i && small62 j && decide ((j - i).toNat ≤ 2 ^ 24)
def lrg (i j : Int) (G : Hz) : Option (V × Hz) := if okRg i j = true then alloc (.lst (rgV i j)) G else none
def eListR1 (a : ME) : ME := fun σ G => (a σ G).bind fun p => match p.1 with
  | .int n => lrg 0 n p.2
  | _ => none
def eListR2 (a b : ME) : ME := fun σ G => (a σ G).bind fun p => (b σ p.2).bind fun q => match p.1, q.1 with
  | .int i, .int j => lrg i j q.2
  | _, _ => none
/-! ### xs[::-1] -/
def fRev : F1 := fun x G => match x with
  | .ref a => match G[a]? with
    | some (.lst xs) => alloc (.lst xs.reverse) G
    | _ => none
  | _ => none
/-! ### dicts -/
def eDct0 : ME := fun _ G => alloc (.dK []) G
/-- d[k], k an int or a text -/
def xDK : F2 := fun x y G => match x with
  | .ref a => match G[a]? with
    | some (.dK kvs) => (keyOf y).bind fun k => (valV kvs k).bind fun v => some (v, G)
    | _ => none
  | _ => none
def pDct : V → V → V → Hz → Option Hz := fun o i v G => match o with
  | .ref a => match G[a]? with
    | some (.dK kvs) => (keyOf i).bind fun k => if kvs.length < sizeLine then some (G.set a (.dK (putK kvs k v))) else none
    | _ => none
  | _ => none
/-- d.get(k, x) -/
def eGet2 (mo mk mx : ME) : ME := fun σ G => (mo σ G).bind fun p => match p.1 with
  | .ref a => match p.2[a]? with
    | some (.dK _) => (mk σ p.2).bind fun q => (mx σ q.2).bind fun r => match r.2[a]? with
      | some (.dK kvs) => (keyOf q.1).bind fun k => some ((valV kvs k).getD r.1, r.2)
      | _ => none
    | _ => none
  | _ => none
end
end Zl

/-! Zl, part 14: dict(pairs). -/
namespace Zl
open PySem PySem.Spec L2
open PyProof.Rows hiding St

section
variable {X : Cx}
def pairO (G : Hz) : V → Option (Key × V)
  | .ref p => match G[p]? with
    | some (.tup [k, v]) => (keyOf k).bind fun q => some (q, v)
    | _ => none
  | _ => none
def fDictP : FL := fun vs G => match vs with
  | [.ref a] => match G[a]? with
    | some (.lst xs) => (mapO (pairO G) xs).bind fun kvs => alloc (.dK (mergeK [] kvs)) G
    | _ => none
  | _ => none
end
end Zl

/-! Zl, part 15: tests of chains; comprehensions with their slots apart. -/
namespace Zl
open PySem PySem.Spec L2
open PyProof.Rows hiding St

section
variable {X : Cx} {a b c : Expr} {pos : Pos}
end
section
variable {X : Cx} {elt tg iter tg1 iter1 kx vx : Expr} {ifs ifs1 : List Expr} {scope : Scope} {own : List (Str × Nat)} {pos : Pos} {w w1 : MI} {g g1 : MG} {t t1 : MT} {te tk : ME} {n : Nat} {cm : Bool} {vs vs1 : List Nat}
theorem se_compV (hc : X.calm = true) (hN : X.N.Nodup) (hi : SI X tg iter w) (ok : BlkOk X.N X.env.scope scope own) (hvs : own.map (·.2) = vs) (gw : GW vs g)
    (hg : ∀ (s : Shared) (H : Hp) (C : Addr) (cl : List (Str × Addr)) (fp : List Addr), SG (X.blk s H scope (compEnvC scope cl C X.env) fp) tg g) (ht : ∀ (s : Shared) (H : Hp) (C : Addr) (cl : List (Str × Addr)) (fp : List Addr), STs (X.blk s H scope (compEnvC scope cl C X.env) fp) ifs t) (he : ∀ (s : Shared) (H : Hp) (C : Addr) (cl : List (Str × Addr)) (fp : List Addr), SE (X.blk s H scope (compEnvC scope cl C X.env) fp) elt te)
    (hs : ∀ x, foldedSetIterable iter X.env x = pure x := by intro _; rfl) : SE X (.ListComp elt [⟨tg, iter, ifs, 0⟩] scope pos) (eComp n cm w vs g t te) := by
  subst hvs
  exact se_comp hc hN hi ok gw hg ht he hs
end
end Zl

/-! Zl, part 18: enumerate(xs, n). -/
namespace Zl
open PySem PySem.Spec L2
open PyProof.Rows hiding St

def itES (a : Nat) (k0 : Int) : MIt := fun i G => match G[a]? with
  | some (.lst xs) => some (xs[i]?.map fun x => (.ref G.length, G ++ [.tup [.int (k0 + (i : Int)), x]]))
  | _ => none
def iEnumS (k0 : Int) (e : ME) : MI := fun σ G => (e σ G).bind fun p => match p.1 with
  | .ref a => match p.2[a]? with
    | some (.lst _) => some (itES a k0, p.2)
    | _ => none
  | _ => none
section
variable {X : Cx} {e : Expr}
end
end Zl

/-! Zl, part 19: ranges that go down by one. -/
namespace Zl
open PySem PySem.Spec L2
open PyProof.Rows hiding St

section
variable {X : Cx} {a b : Expr} {pos : Pos}
/-! list(range(i, j, -1)) -/
def dgV (i : Int) (n : Nat) : List V := (List.range n).map fun (k : Nat) => V.int (i - (k : Int))
def ldg (i j : Int) (G : Hz) : Option (V × Hz) := if small62 i = true ∧ small62 j = true ∧ (i - j).toNat ≤ 2 ^ 24 then alloc (.lst (dgV i (i - j).toNat)) G else none
def eListD (a b : ME) : ME := fun σ G => (a σ G).bind fun p => (b σ p.2).bind fun q => match p.1, q.1 with
  | .int i, .int j => ldg i j q.2
  | _, _ => none
end
end Zl

/-! Zl, part 21: dict.clear(), the text of a flat dict. -/
namespace Zl
open PySem PySem.Spec L2
open PyProof.Rows hiding St
section
variable {X : Cx}
/-! ### the text of a flat dict -/
def scalD : V → Option PyData
  | .non => some .none
  | .bl b => some (.bool b)
  | .int i => some (.int i)
  | .str x => some (.str x)
  | _ => none
def keyD : Key → PyData
  | .inl i => .int i
  | .inr x => .str x
end
end Zl
namespace Zl
open PySem PySem.Spec L2
open PyProof.Rows hiding St
/-! ### displays of dicts with constant keys and values -/
end Zl
namespace Zl
open PySem PySem.Spec L2
open PyProof.Rows hiding St
/-! ### == of flat dicts that are equal -/
def sameK (ks ls : List (Key × V)) : Bool := decide (ks.length = ls.length) && ks.all fun p => decide (valV ls p.1 = some p.2) && flatV p.2
end Zl
namespace Zl
open PySem PySem.Spec L2
open PyProof.Rows hiding St
end Zl
namespace Zl
open PySem PySem.Spec L2
open PyProof.Rows hiding St
/-! ### list(d) -/
end Zl
namespace Zl
open PySem PySem.Spec L2
open PyProof.Rows hiding St
end Zl

/-! Zl, part 23: the text of any data, dicts within. -/
namespace Zl
open PySem PySem.Spec L2
open PyProof.Rows hiding St
/-- what stands at a, with its parts shown -/
inductive PtZ (P : Program) (w : World) (h : Heap) (a : Addr) : PyData → Prop
  | lst {ds : List PyData} {o : Obj} {its : Array Value} {n : Nat} {as bs : List Addr} (g1 : h.get? a = some o) (g2 : o.cls = .type "list") (g3 : o.data = .seq its n) (g4 : ReadsAll h its.toList ds as) (g5 : ReadAtMost h (PyData.depthAll ds) bs) (g6 : ReprAllK P w bs h (PyData.depthAll ds) its.toList (PyData.shownAll ds)) : PtZ P w h a (.list ds)
  | tup {ds : List PyData} {o : Obj} {its : Array Value} {n : Nat} {as bs : List Addr} (g1 : h.get? a = some o) (g2 : o.cls = .type "tuple") (g3 : o.data = .seq its n) (g4 : ReadsAll h its.toList ds as) (g5 : ReadAtMost h (PyData.depthAll ds) bs) (g6 : ReprAllK P w bs h (PyData.depthAll ds) its.toList (PyData.shownAll ds)) : PtZ P w h a (.tuple ds)
  | dct {kvs : List (PyData × PyData)} {o : Obj} {es : Array DictEntry} {n : Nat} {as cs b1 b2 : List Addr} (g1 : h.get? a = some o) (g2 : o.cls = .type "dict") (g3 : o.data = .dict es n) (gs : (a == sysModules) = false) (g4 : ReadsAll h (es.toList.map (·.key)) (kvs.map (·.1)) as) (g5 : ReadsAll h (es.toList.map (·.val)) (kvs.map (·.2)) cs)
      (g6 : ReadAtMost h (PyData.depthAll (kvs.map (·.1))) b1) (g7 : ReadAtMost h (PyData.depthAll (kvs.map (·.2))) b2) (g8 : ReprAllK P w b1 h (PyData.depthAll (kvs.map (·.1))) (es.toList.map (·.key)) (PyData.shownAll (kvs.map (·.1)))) (g9 : ReprAllK P w b2 h (PyData.depthAll (kvs.map (·.2))) (es.toList.map (·.val)) (PyData.shownAll (kvs.map (·.2)))) : PtZ P w h a (.dict kvs)
section
variable {P : Program} {w : World} {h : Heap} {a : Addr} {d : PyData}
theorem PtZ.reads (p : PtZ P w h a d) : ∃ as, Reads h (.ref a) d as := by
  cases p with
  | lst g1 g2 g3 g4 _ _ => exact ⟨_, Reads.list g1 g2 g3 g4⟩
  | tup g1 g2 g3 g4 _ _ => exact ⟨_, Reads.tuple g1 g2 g3 g4⟩
  | dct g1 g2 g3 _ g4 g5 _ _ _ _ => exact ⟨_, Reads.dict g1 g2 g3 g4 g5⟩
theorem PtZ.repr (p : PtZ P w h a d) : ∃ bs, ReadAtMost h d.depth bs ∧ ReprK P w bs h d.depth (.ref a) d.shown := by
  obtain ⟨_, r⟩ := p.reads
  cases p with
  | lst g1 g2 g3 g4 g5 g6 =>
    rename_i ds o its n as bs
    have na : a ∉ bs := not_mem_of_deeper r (by rw [PyData.depth]; omega) g5
    refine ⟨a :: bs, ReadAtMost.cons r (by rw [PyData.depth]; omega) g5, ?_⟩
    rw [PyData.depth, PyData.shown]
    obtain ⟨l⟩ := its
    cases l with
    | nil =>
      have z : ReadsAll h [] ds as := g4
      cases z
      rw [PyData.shownAll, listText_nil]
      exact ReprK.listEmpty g1 g2 g3
    | cons y l => exact ReprK.list g1 g2 g3 na (by simpa using g6.length_eq) fun i z e => g6.item i z (by simpa using e)
  | tup g1 g2 g3 g4 g5 g6 =>
    rename_i ds o its n as bs
    have na : a ∉ bs := not_mem_of_deeper r (by rw [PyData.depth]; omega) g5
    refine ⟨a :: bs, ReadAtMost.cons r (by rw [PyData.depth]; omega) g5, ?_⟩
    rw [PyData.depth, PyData.shown]
    exact ReprK.tuple g1 g2 g3 na g6
  | dct g1 g2 g3 gs g4 g5 g6 g7 g8 g9 =>
    rename_i kvs o es n as cs b1 b2
    have hb : ReadAtMost h (PyData.depthKv kvs) (b1 ++ b2) := (g6.mono (PyData.depthAll_keys_le kvs)).append (g7.mono (PyData.depthAll_vals_le kvs))
    have na : a ∉ b1 ++ b2 := not_mem_of_deeper r (by rw [PyData.depth]; omega) hb
    refine ⟨a :: (b1 ++ b2), ReadAtMost.cons r (by rw [PyData.depth]; omega) hb, ?_⟩
    rw [PyData.depth, PyData.shown, PyData.shownKv_eq]
    exact ReprK.dict g1 g2 g3 gs na (ReprEntriesK.of_two _ _ _ (g8.more_le (fun b m => List.mem_append_left _ m) (PyData.depthAll_keys_le kvs)) (g9.more_le (fun b m => List.mem_append_right _ m) (PyData.depthAll_vals_le kvs)))
theorem PtZ.shows (p : PtZ P w h a d) (hz : d.shown.length ≤ sizeLine) : ∃ T idr, ShowsBy P w h a d T idr := by
  obtain ⟨_, r⟩ := p.reads
  cases p with
  | lst g1 g2 g3 g4 g5 g6 =>
    rename_i ds o its n as bs
    rw [PyData.shown] at hz
    have na : a ∉ bs := not_mem_of_deeper r (by rw [PyData.depth]; omega) g5
    refine ⟨"list", "list.__repr__", PySem.F.slot_list_repr.toG, PySem.F.slot_list_str, PySem.F.slot_list_format, fun s k0 => ⟨o, k0 _ _ g1, g2⟩, fun A E s Q hg hu k0 hQ => ?_⟩
    rw [PyData.depth] at hu
    rw [PyData.shown] at hQ
    obtain ⟨l⟩ := its
    cases l with
    | nil =>
      have z : ReadsAll h [] ds as := g4
      cases z
      rw [PyData.shownAll, listText_nil] at hQ
      exact call_list_repr_empty ⟨o, k0 _ _ g1, g2⟩ (k0 _ _ g1) g3 (hQ s.heap _ _ fun _ _ z => z)
    | cons y l => exact call_list_reprK g1 g2 g3 na (by simpa using g6.length_eq) (fun i z e => g6.item i z (by simpa using e)) hg (fun b _ => Clear.nil b) hu k0 hQ hz
  | tup g1 g2 g3 g4 g5 g6 =>
    rename_i ds o its n as bs
    rw [PyData.shown] at hz
    have na : a ∉ bs := not_mem_of_deeper r (by rw [PyData.depth]; omega) g5
    refine ⟨"tuple", "tuple.__repr__", PySem.F.slot_tuple_repr, PySem.F.slot_tuple_str, PySem.F.slot_tuple_format, fun s k0 => ⟨o, k0 _ _ g1, g2⟩, fun A E s Q hg hu k0 hQ => ?_⟩
    rw [PyData.depth] at hu
    rw [PyData.shown] at hQ
    exact call_tuple_reprK g1 g2 g3 na g6 hg (fun b _ => Clear.nil b) hu k0 hQ hz
  | dct g1 g2 g3 gs g4 g5 g6 g7 g8 g9 =>
    rename_i kvs o es n as cs b1 b2
    rw [PyData.shown] at hz
    have hb : ReadAtMost h (PyData.depthKv kvs) (b1 ++ b2) := (g6.mono (PyData.depthAll_keys_le kvs)).append (g7.mono (PyData.depthAll_vals_le kvs))
    have na : a ∉ b1 ++ b2 := not_mem_of_deeper r (by rw [PyData.depth]; omega) hb
    refine ⟨"dict", "dict.__repr__", PySem.F.slot_dict_repr, PySem.F.slot_dict_str, PySem.F.slot_dict_format, fun s k0 => ⟨o, k0 _ _ g1, g2⟩, fun A E s Q hg hu k0 hQ => ?_⟩
    rw [PyData.depth] at hu
    rw [PyData.shown, PyData.shownKv_eq] at hQ
    rw [PyData.shownKv_eq] at hz
    exact call_dict_reprK g1 g2 g3 gs na (ReprEntriesK.of_two _ _ _ (g8.more_le (fun b m => List.mem_append_left _ m) (PyData.depthAll_keys_le kvs)) (g9.more_le (fun b m => List.mem_append_right _ m) (PyData.depthAll_vals_le kvs))) hg (fun b _ => Clear.nil b) hu k0 hQ hz
end
end Zl

/-! Zl, part 25: sorted(xs), xs a list of pairs of ints. -/
namespace Zl
open PySem PySem.Spec L2
open PyProof.Rows hiding St
def leB {α : Type} (lt : α → α → Bool) (a b : α) : Bool := !lt b a
section
variable {X : Cx}
end
end Zl

/-! Zl, part 26: max(xs, default=d), xs a list of ints. -/
namespace Zl
open PySem PySem.Spec L2
open PyProof.Rows hiding St
def maxDf (d : Int) : List Int → Int
  | [] => d
  | n :: ns => maxI n ns
section
variable {X : Cx}
variable {x : Str} {p pos cp kpos : Pos} {e : Expr} {m : MA}
/-- the product of wide numbers -/
def wideN (i : Int) : Bool := decide (i.natAbs.log2 < 400000)
def bMulW : F2 := fun x y G => match x, y with
  | .int i, .int j => if wideN i = true ∧ wideN j = true then some (.int (i * j), G) else none
  | _, _ => none
/-! script[:k] -/
end
end Zl

/-! Zl, part 28: sorted(d), d a dict with ints for keys. -/
namespace Zl
open PySem PySem.Spec L2
open PyProof.Rows hiding St
def keyI : Key → Option Int
  | .inl i => some i
  | .inr _ => none
def intKs : List Key → Option (List Int)
  | [] => some []
  | k :: ks => (keyI k).bind fun i => (intKs ks).bind fun is => some (i :: is)
end Zl

/-! Zl, part 33: [x for x in d if ..], d a dict, the test without new things. -/
namespace Zl
open PySem PySem.Spec L2
open PyProof.Rows hiding St
/-- the layer's heap while one dict is locked -/
def LkR (K : PySem.W.Frag) (ι : Em) (G : Hz) (H : Hp) : Prop := ∃ (a : Addr) (H0 : Hp) (od : Obj) (kvs : List (Key × V)), Rel K ι G H0 ∧ H0 a = some (.dK kvs) ∧ H a = some (.frz od (.dK kvs)) ∧ ∀ b, b ≠ a → H0 b ≠ none → H b = H0 b
section
variable {K : PySem.W.Frag} {ι : Em} {G : Hz} {H : Hp} {i : Nat}
theorem LkR.lst {xs : List V} (R : LkR K ι G H) (e : G[i]? = some (.lst xs)) : SqL K H (ι i) (xs.map (mv ι)) := by
  obtain ⟨a, H0, od, kvs, R, h1, h2, h3⟩ := R
  have h := R.lstM e
  refine .of ?_
  rw [h3 (ι i) (fun z => by rw [z, h1] at h; cases h) (by rw [h]; simp), h]
theorem LkR.dk {kvs : List (Key × V)} (R : LkR K ι G H) (e : G[i]? = some (.dK kvs)) : Rd H (ι i) (.dK (kvs.map fun p => (p.1, mv ι p.2))) := by
  obtain ⟨a, H0, od, kv0, R, h1, h2, h3⟩ := R
  have h := R.dkM e
  by_cases z : ι i = a
  · rw [z] at h ⊢
    rw [h1] at h
    cases h
    exact .inr ⟨od, h2⟩
  · exact .inl (by rw [h3 _ z (by rw [h]; simp), h])
end
def Pur (m : ME) : Prop := ∀ σ G v G', m σ G = some (v, G') → G' = G
def PurT (m : MT) : Prop := ∀ σ G v G', m σ G = some (v, G') → G' = G
def liftP (K : PySem.W.Frag) (m : ME) : TE := fun σ H Q => ∃ (ι : Em) (σ0 : L2.St) (G : Hz) (v : V), σ = ms ι σ0 ∧ okS G.length σ0 = true ∧ LkR K ι G H ∧ m σ0 G = some (v, G) ∧ Q (mv ι v) H
def liftPT (K : PySem.W.Frag) (m : MT) : L2.St → Hp → (Bool → Hp → Prop) → Prop := fun σ H Q => ∃ (ι : Em) (σ0 : L2.St) (G : Hz) (b : Bool), σ = ms ι σ0 ∧ okS G.length σ0 = true ∧ LkR K ι G H ∧ m σ0 G = some (b, G) ∧ Q b H
structure SP (X : Cx) (e : Expr) (m : ME) : Prop where
  pe : PE X e (liftP X.K m)
  pur : Pur m
structure SPT (X : Cx) (e : Expr) (m : MT) : Prop where
  pt : PT X e (liftPT X.K m)
  pur : PurT m
structure SPW (X : Cx) (e : Expr) (m : MT) : Prop where
  pw : PW X e (liftPT X.K m)
  pur : PurT m
section
variable {X : Cx} {a b e o i : Expr} {pos : Pos}
theorem SPW.to {m : MT} (h : SPW X e m) : SPT X e m := ⟨L2.PW.pt h.pw, h.pur⟩
end
/-! ### the comprehension -/
end Zl

/-! Zl, part 34: calls with keywords, d.update(e). -/
namespace Zl
open PySem PySem.Spec L2
open PyProof.Rows hiding St
/-! ### calls with keywords -/
/-- the parameters' values: the positional ones us, then each keyword-only one: the j-th keyword's of ws, or the j-th lacking one's of mv -/
def kwG (sel : List (Bool × Nat)) {α : Type} (us mv ws : List α) : List α := us ++ sel.flatMap fun p => if p.1 = true then (ws.drop p.2).take 1 else (mv.drop p.2).take 1
section
variable {X : Cx} {kws : List Keyword} {e : Expr} {nm : Option Str} {kpos : Pos}
theorem PK.imp {t t' : TA} (h : PK X kws t) (i : ∀ σ H Q, t' σ H Q → t σ H Q) : PK X kws t' := ⟨fun pos pins s σ H Q I q => h.run pos pins s σ H Q I (i σ H Q q)⟩
end
section
variable {X : Cx} {k n : Nat} {f : Addr} {fd : FuncData} {ps ks : List Str} {sel : List (Bool × Nat)} {dvs : List V} {x : Str} {p pos : Pos} {e : Expr} {es : List Expr} {kws : List Keyword} {m : FL} {ma mk : MA}
end
/-! ### d.update(e) -/
/-! ### displays of dicts with constant keys, the values tuples of constants -/
end Zl

/-! Zl, part 40: sorted(set(xs)) of a list of ints. -/
namespace Zl
open PySem PySem.Spec L2
open PyProof.Rows hiding St
def nub : List Int → List Int
  | [] => []
  | x :: xs => if x ∈ xs then nub xs else x :: nub xs
/-- the ascending list of different numbers -/
def sortD (ns : List Int) : List Int := isort (nub ns)
section
variable {X : Cx} {a : Expr} {m : ME} {p p2 q pos : Pos}
end
end Zl

/-! Zl: errors. A raised error is, in the plain meaning, an answer of its own kind (exV k); a try lets its suite see it as a thing (XT.ex k). -/
namespace Zl
open PySem PySem.Spec L2
open PyProof.Rows hiding St

/-- a number in bytes -/
def dig : Nat → Nat → List UInt8
  | 0, _ => []
  | f + 1, n => if n = 0 then [] else UInt8.ofNat (n % 256) :: dig f (n / 256)
def und : List UInt8 → Nat
  | [] => 0
  | b :: bs => b.toNat + 256 * und bs
theorem und_dig : ∀ (f n : Nat), n ≤ f → und (dig f n) = n
  | 0, n, h => by
    obtain rfl : n = 0 := by omega
    rfl
  | f + 1, n, h => by
    unfold dig
    split
    · rename_i z
      rw [z]
      rfl
    · unfold und
      rw [und_dig f (n / 256) (by omega), UInt8.toNat_ofNat']
      omega
/-- in the place of an answer: an error of the code k was raised -/
def exV (k : Nat) : V := .byt (dig k k).toArray
def exN : V → Option Nat
  | .byt b => some (und b.toList)
  | _ => none
theorem exN_exV (k : Nat) : exN (exV k) = some k := by
  show some (und (dig k k)) = some k
  rw [und_dig k k (Nat.le_refl _)]
theorem exN_mv (ι : Em) (v : V) : exN (mv ι v) = exN v := by cases v <;> rfl
def exQ (W : Nat → Hp → Prop) (Q : VK) : VK := fun v H => match exN v with
  | some k => W k H
  | none => Q v H
/-- what is wished for an error of the code k: its dict, if it has one, is new -/
def eE (K : PySem.W.Frag) (E : XK) (k : Nat) (H : Hp) : Prop := match payF k with
  | none => E (.ref (He.ga K (errC k))) none H
  | some p => ∀ dd, H dd = none → E (.ref (He.ga K (errC k))) (some dd) (upd H dd (.xd [p]))
def wE (K : PySem.W.Frag) (W : WX) (σ : L2.St) : Nat → Hp → Prop := eE K fun cls d H => W cls d σ H
theorem wE_imp {K : PySem.W.Frag} {W W' : WX} {σ σ' : L2.St} {k : Nat} {H : Hp} (h : ∀ cls d H, W cls d σ H → W' cls d σ' H) (z : wE K W σ k H) : wE K W' σ' k H := by
  unfold wE eE at z ⊢
  split
  · rename_i q
    rw [q] at z
    exact h _ _ _ z
  · rename_i p q
    rw [q] at z
    exact fun dd hd => h _ _ _ (z dd hd)
/-- both cases in one -/
theorem wE_of {K : PySem.W.Frag} {W : WX} {σ : L2.St} {k : Nat} {H : Hp} (h : ∀ d H', (∀ a, H' a = none → H a = none) → (∀ a o, H a = some o → H' a = some o) → PayAt k d H' → (H' = H ∨ ∃ dd o, H dd = none ∧ H' = upd H dd o) → W (.ref (He.ga K (errC k))) d σ H') : wE K W σ k H := by
  unfold wE eE
  split
  · rename_i q
    exact h none H (fun _ z => z) (fun _ _ z => z) (by unfold PayAt; rw [q]) (.inl rfl)
  · rename_i p q
    intro dd hd
    refine h (some dd) _ (fun a z => ?_) (fun a o z => ?_) (by unfold PayAt; rw [q]; exact ⟨dd, rfl, upd_same⟩) (.inr ⟨dd, _, hd, rfl⟩)
    · by_cases e : a = dd
      · rw [e]
        exact hd
      · rw [upd_ne e] at z
        exact z
    · rw [upd_ne (ne_of_none z hd)]
      exact z
/-! ### an error that is caught is tracked -/
theorem Rel.addH {K : PySem.W.Frag} {ι : Em} {G : Hz} {H : Hp} {p : Addr} {o : HO} (R : Rel K ι G H) (hp : H p = none) : Rel K ι G (upd H p o) := by
  refine ⟨fun i u e => ?_, R.inj, R.ok⟩
  refine (R.at_ i u e).to (Agr.refl (n := G.length)) (lt_of_get e) (R.ok i u e) (fun _ hw => ?_) (fun _ _ hw => ?_) fun _ _ hw => ?_ <;>
  · rw [upd_ne (ne_of_none hw hp)]
    exact hw
/-- what is true of an exception's object alone -/
def ExcP (cls : Value) (d : Option Addr) (a : Addr) : Heap → Prop := fun h => ∃ (oe : Obj) (vs : Array Value), h.get? a = some oe ∧ oe.cls = cls ∧ oe.dict = d ∧ oe.data = .fields vs ∧ vs[2]? = some .none
theorem excP_ok {P : Program} {w : World} {H : Hp} {h : Heap} {a : Addr} {cls : Value} {d : Option Addr} (x : ExcP cls d a h) : ObjOk P w H h a (.ext (ExcP cls d a)) := by
  refine ⟨x, ?_, fun h1 h2 ⟨o, vs, e, r⟩ k => ⟨o, vs, k o e, r⟩⟩
  obtain ⟨o, _, e, _⟩ := x
  exact ⟨o, e⟩
section
variable {X : Cx} {pins : List (Addr × Obj)} {σ : L2.St} {H : Hp} {s : Shared}
theorem inv_track {a : Addr} {φ : HO} (I : Inv X pins σ H s) (na : H a = none) (n0 : X.s_0.heap.get? a = none) (nL : X.env.locals ≠ a) (nC : ∀ y c, X.env.cells.lookup y = some c → c ≠ a) (nP : ∀ p ∈ X.pn ++ pins, p.1 ≠ a)
    (ob : ObjOk X.prog X.w (upd H a φ) s.heap a φ) : Inv X pins σ (upd H a φ) s := by
  have old : ∀ b o, X.s_0.heap.get? b = some o → b ≠ a := fun b o e z => by
    rw [z, n0] at e
    cases e
  have trk : ∀ b o, H b = some o → b ≠ a := fun b o e => ne_of_none e na
  obtain ⟨ok, os, bare, base, loc, cell, free, freeC, pin, hok, len⟩ := I
  obtain ⟨b1, b2, b3, b4, b5, b6, b7⟩ := base
  refine ⟨ok, os, bare, ⟨b1, b2, fun b o e n q => ?_, b4, fun b xs e => ?_, fun b o u e => ?_, fun b ps e => ?_⟩, loc, cell, ?_, fun y c e => ?_, fun p hp => ?_, fun b u e => ?_, len⟩
  · rw [upd_ne (old b o e)]
    exact b3 b o e n q
  · rw [upd_ne (trk b _ (b5 b xs e))]
    exact b5 b xs e
  · rw [upd_ne (trk b _ (b6 b o u e))]
    exact b6 b o u e
  · obtain ⟨m, q⟩ := b7 b ps e
    exact ⟨m, by rw [upd_ne (trk b _ q)]; exact q⟩
  · rw [upd_ne nL]
    exact free
  · rw [upd_ne (nC y c e)]
    exact freeC y c e
  · obtain ⟨p1, p2, p3⟩ := pin p hp
    exact ⟨p1, by rw [upd_ne (nP p hp)]; exact p2, p3⟩
  · by_cases hb : b = a
    · subst hb
      rw [upd_same] at e
      cases e
      exact ob
    · rw [upd_ne hb] at e
      refine (hok b u e).stay (fun _ _ _ q => q) (fun c q => ?_) fun c xs q => ?_
      · rw [upd_ne (trk c _ q)]
        exact q
      · rw [upd_ne (trk c _ q)]
        exact q
/-- the context of the suite of an except clause -/
abbrev cxQ (X : Cx) (a : Addr) : Cx := { X with A := X.A.mark (some (.ref a)), calm := false, xe := fun _ _ => False }
theorem cxQ_ok (ok : X.Ok) (a : Addr) : (cxQ X a).Ok := by
  obtain ⟨k1, k2, k3, k4, k5, k6, k7, k8, _, k10, k11, k12, k13, k14, k15, k16, k17, k18⟩ := ok
  exact ⟨k1, k2, k3, k4, k5, k6, k7, k8, fun z => Bool.noConfusion (show false = true from z), k10, k11, k12, k13, k14, k15, k16, k17, k18⟩
theorem inv_toQ (I : Inv X pins σ H s) (a : Addr) : Inv (cxQ X a) pins σ H s := by
  obtain ⟨ok, r1, r2, r3, r4, r5, r6, r7, r8, r9, r10⟩ := I
  exact ⟨cxQ_ok ok a, r1, r2, r3, r4, r5, r6, r7, r8, r9, r10⟩
theorem inv_unQ {a : Addr} (I : Inv (cxQ X a) pins σ H s) (ok : X.Ok) : Inv X pins σ H s := by
  obtain ⟨_, r1, r2, r3, r4, r5, r6, r7, r8, r9, r10⟩ := I
  exact ⟨ok, r1, r2, r3, r4, r5, r6, r7, r8, r9, r10⟩
/-! ### try: body, except x as n: suite, where the clause takes all that the body may let out -/
variable {x n : Str} {c : Value} {i : Nat} {body suite : List Stmt} {b₀ : Stmt} {np pos pos' : Pos} {tb : WX → TS} {ts : Addr → TS} {D : Ends}
/-- an exception's object is no frame -/
theorem exc_no_frame {B h : Heap} {l : List Env} {a : Addr} {o : Obj} {vs : Array Value} (ff : h.FunFrames B l) (e : h.get? a = some o) (d : o.data = .fields vs) : a ∉ frs l := fun q => by
  obtain ⟨_, u, e2, nf⟩ := ff.mem q
  rw [e] at e2
  cases e2
  exact absurd d (nf vs)
end
end Zl

/-! Zl: defs that raise, calls of them, try. -/
namespace Zl
open PySem PySem.Spec L2
open PyProof.Rows hiding St

section
variable {X : Cx} {x n : Str} {c : Value} {i : Nat} {body suite rest : List Stmt} {b₀ st : Stmt} {np pos pos' : Pos} {tb : WX → TS} {ts : Addr → TS}
end

/-! ### defs that may raise -/
/-- as FnZ; an answer exV k: the def raises an error of the k-th class -/
structure FnX (P : Program) (w : World) (K : PySem.W.Frag) (mg : Str → Option Value) (base : Heap) (k : Nat) (f : Addr) (fd : FuncData) (ps : List Str) (m : FL) : Prop where
  run : ∀ (A : Around) (outer : List Env) (s : Shared) (H : Hp) (args : Args) (us : List Value) (ι : Em) (G : Hz) (vs : List V) (v : V) (G' : Hz) (Q : VK) (E : XK),
    Room k A → A.guards = some [] → Env0 P w K mg base A outer s H → BindsTo s fd args (ps.zip us) → Vals (vs.map (mv ι)) us → vs.length = ps.length → Rel K ι G H → vs.all (okV G.length) = true →
    m vs G = some (v, G') → Pz K ι G.length v G' (exQ (eE K E) Q) → codeAny (model P w) A (.call (.ref f) args) (CR (L2N.CX P w) outer P w H s Q E) s
section
variable {P : Program} {w : World} {K : PySem.W.Frag} {mg : Str → Option Value} {base : Heap}
theorem FnX.mono {j k : Nat} {f : Addr} {fd : FuncData} {ps : List Str} {m : FL} (F : FnX P w K mg base j f fd ps m) (h : j ≤ k) : FnX P w K mg base k f fd ps m :=
  ⟨fun A outer s H args us ι G vs v G' Q E hr => F.run A outer s H args us ι G vs v G' Q E (hr.mono h)⟩
end

/-! ### calls -/
section
variable {X : Cx} {W : WX} {k : Nat} {f : Addr} {fd : FuncData} {ps : List Str} {dvs : List V} {ds : List Value} {x : Str} {p pos pos' : Pos} {e tg : Expr} {es : List Expr} {m : FL} {ma : MA} {me : ME}
end

/-! ### statements of a def that raises -/
section
variable {X : Cx} {W : WX} {st : Stmt} {rest body : List Stmt} {e tg iter : Expr} {pos : Pos}
end
end Zl

/-! Zl: the body of a try, the try; isinstance of an error; defs that are called while an error is handled. -/
namespace Zl
open PySem PySem.Spec L2
open PyProof.Rows hiding St

/-! ### the body of a try: an error breaks off, the slot of the clause's name holds its code -/
def exB (K : PySem.W.Frag) (W : WX) (i : Nat) (D : Ends) : Ends := { D with bk := fun σ H => ∀ k v, σ[i]? = some (some v) → exN v = some k → wE K W (σ.set i none) k H }
def SB (X : Cx) (W : WX) (i : Nat) (st : Stmt) (m : MS) : Prop := PS X st (fun D σ H => liftS X.K m (exB X.K W i D) σ H)
def SBs (X : Cx) (W : WX) (i : Nat) (sts : List Stmt) (m : MS) : Prop := PSs X sts (fun D σ H => liftS X.K m (exB X.K W i D) σ H)
def sRetB (i : Nat) (a : ME) : MS := fun σ G => (a σ G).bind fun p => if exN p.1 = none then some (.rt p.1 p.2) else if i < σ.length then some (.bk (σ.set i (some p.1)) p.2) else none
/-- the suite of the clause, whose slot i holds the error at a -/
def SSsA (X : Cx) (a : Addr) (i : Nat) (sts : List Stmt) (m : MS) : Prop := PSs X sts (fun D σ H => σ[i]? = some (some (.ref a)) ∧ liftS X.K m D σ H)
theorem ssA {X : Cx} {a : Addr} {i : Nat} {sts : List Stmt} {m : MS} (h : SSs X sts m) : SSsA X a i sts m := PSs.imp h fun _ _ _ q => q.2
/-- behind the suite the name goes -/
def sTryE (i : Nat) : R → Option R
  | .nx σ G => some (.nx (σ.set i none) G)
  | .rt v G => some (.rt v G)
  | .bk σ G => some (.bk (σ.set i none) G)
  | .ct σ G => some (.ct (σ.set i none) G)
/-- the caught error -/
def fEx (k : Nat) : FL := fun vs G => match vs with
  | [] => alloc (.xt (.ex k)) G
  | _ => none
/-- ok: the classes that the clause takes -/
def sTry (i : Nat) (ok : Nat → Bool) (b s : MS) : MS := fun σ G => (b σ G).bind fun r => match r with
  | .nx σ1 G1 => some (.nx σ1 G1)
  | .rt v G1 => some (.rt v G1)
  | .ct _ _ => none
  | .bk σ1 G1 => match σ1[i]? with
    | some (some v) => match exN v with
      | some k => if ok k = true then (sSeq (sAsg (eCall (fEx k) aNil) (gSet i)) s σ1 G1).bind (sTryE i) else none
      | none => none
    | _ => none
section
variable {X : Cx} {W : WX} {i : Nat} {st : Stmt} {rest body suite : List Stmt} {b₀ : Stmt} {x n : Str} {e : Expr} {np pos pos' : Pos} {me : ME}
theorem sbs_nil : SBs X W i [] sPass := PSs.imp pss_nil fun D σ H h => by
  obtain ⟨ι, σ0, G, r, rfl, so, R, e, p⟩ := h
  cases e
  exact p ι H .refl R (Nat.le_refl _) so
theorem sbs_one {m : MS} (h : SB X W i st m) : SBs X W i [st] m := pss_one h
theorem sbs_cons {m m' : MS} (h : SB X W i st m) (h' : SBs X W i rest m') : SBs X W i (st :: rest) (sSeq m m') := PSs.imp (pss_cons h h') fun D σ H h => by
  obtain ⟨ι, σ0, G, r, rfl, so, R, e, p⟩ := h
  obtain ⟨r1, e1, e⟩ := bnd e
  refine liftS.into so R e1 ?_
  cases r1 with
  | nx σ1 G1 => exact fun ι1 H1 a1 R1 l1 k1 => liftS.into k1 R1 e (p.from a1 l1)
  | bk σ1 G1 => cases e; exact p
  | ct σ1 G1 => cases e; exact p
  | rt v G1 => cases e; exact p
theorem sb_if {c : Expr} {a b : List Stmt} {t : MT} {m m' : MS} (hc : STt X c t) (ha : SBs X W i a m) (hb : SBs X W i b m') : SB X W i (.If c a b pos) (sIf t m m') := PS.imp (ps_if hc ha hb) fun D σ H h => by
  obtain ⟨ι, σ0, G, r, rfl, so, R, e, p⟩ := h
  obtain ⟨⟨k, G1⟩, e1, e⟩ := bnd e
  refine ⟨ι, σ0, G, k, G1, rfl, so, R, e1, fun ι1 H1 a1 R1 l1 => ?_⟩
  rw [ms_agr a1 so]
  cases k with
  | true =>
    rw [if_pos rfl] at e ⊢
    exact liftS.into (okS_mono l1 so) R1 e (p.from a1 l1)
  | false =>
    rw [if_neg Bool.false_ne_true] at e ⊢
    exact liftS.into (okS_mono l1 so) R1 e (p.from a1 l1)
/-- the code of an error in the slot: the state ahead of it -/
theorem exB_at {K : PySem.W.Frag} {D : Ends} {ι ι1 : Em} {m : Nat} {σ0 : L2.St} {H1 : Hp} {v : V} {k : Nat} (hW : ∀ cls d σ H, W cls d (σ.set i none) H → W cls d σ H) (lt : i < σ0.length) (hk : exN v = some k) (so : okS m σ0 = true) (a1 : Agr m ι ι1) (z : (exB K W i D).bk (ms ι1 (σ0.set i (some v))) H1) : wE K W (ms ι σ0) k H1 := by
  have e1 : (ms ι1 (σ0.set i (some v)))[i]? = some (some (mv ι1 v)) := ms_get (List.getElem?_set_self lt)
  have z := z k (mv ι1 v) e1 ((exN_mv ι1 v).trans hk)
  rw [ms_set, List.set_set, ← ms_agr a1 so] at z
  exact wE_imp (fun cls d H y => hW _ _ _ _ y) z
end
end Zl

/-! Zl: isinstance of an error; defs that may be called while an error is handled. -/
namespace Zl
open PySem PySem.Spec L2
open PyProof.Rows hiding St

/-! ### isinstance(e, C), isinstance(e, (C, D, ..)), e an error; f: what each class answers -/
def fIsE (f : Nat → Option Bool) : F1 := fun x G => match x with
  | .ref b => match G[b]? with
    | some (.xt (.ex k)) => (f k).bind fun t => some (.bl t, G)
    | _ => none
  | _ => none
abbrev eIsE (f : Nat → Option Bool) (a : ME) : ME := eUn (fIsE f) a
section
variable {X : Cx} {e : Expr} {me : ME} {p q pos : Pos}
theorem inst_at {s : Shared} {pins : List (Addr × Obj)} {σ : L2.St} {H : Hp} {a : Addr} {k : Nat} (I : Inv X pins σ H s) (h : IsEx X.K k H a) : ∃ oe od, PySem.W.InstAt s.heap a oe (He.ga X.K (errC k)) od := by
  obtain ⟨oe, u, vs, h1, o2, o3, o4, _⟩ := h
  have o1 := (I.hok a _ h1).1
  obtain ⟨c, d, dt, sl⟩ := oe
  dsimp only at o2 o3 o4
  subst o2 o4
  unfold PayAt at o3
  split at o3
  · subst o3
    exact ⟨_, none, o1, rfl, rfl, trivial⟩
  · obtain ⟨dd, rfl, e2⟩ := o3
    obtain ⟨mA, ⟨od, es, ep, ho, hr⟩, _⟩ : ObjOk X.prog X.w H s.heap dd (.xd [_]) := I.hok dd _ e2
    exact ⟨_, some od, o1, rfl, rfl, ho⟩
theorem kitx_of {K : PySem.W.Frag} {D a : Addr} {oe : Obj} {od : Option Obj} (C : ExcC K D) : PySem.W.KitX K (.ref a) (.ref D) (fun h => PySem.W.InstAt h a oe D od) := by
  obtain ⟨cd, hc, _⟩ := PySem.W.any_some C.hd
  exact PySem.W.kitx_exc (by rw [hc]; rfl) C.hg C.hk C.hs C.ha C.hn C.ht C.hm
theorem call_isX {k : Nat} (C : ExcC X.K (He.ga X.K (errC k))) : CallR X (.builtin "isinstance") (fun xs H Q => ∃ (a : Addr) (c : V) (cv : Value) (b : Bool), xs = [.ref a, c] ∧ IsEx X.K k H a ∧ (∀ u, RelV c u → u = cv) ∧ PySem.W.kitOne X.K (.ref (He.ga X.K (errC k))) cv = some b ∧ Q (.bl b) H) := by
  intro pins s σ H xs us Q I r ⟨a, c, cv, b, ex, hx, hc, hk, hq⟩
  subst ex
  cases r with
  | cons r1 r2 => cases r2 with
    | cons r3 r4 =>
      cases r4
      obtain ⟨oe, od, J⟩ := inst_at I hx
      have e1 := hc _ r3
      subst e1
      cases r1
      exact PySem.W.kia_one (kitx_of C) I.kIn J hk (fun z => by cases z) fun tk => ⟨.bl b, H, I.tok tk, rfl, hq⟩
/-- one class -/
theorem se_isE {f : Nat → Option Bool} {c : Expr} {v : V} {cv : Value} (hg : Gl X "isinstance") (hm : X.mg "isinstance" = none) (ha : PA X [e, c] (tCons (liftE X.K me) (tCons (tC v) tNil))) (hv : ∀ u, RelV v u → u = cv) (hf : ∀ k b, f k = some b → ExcC X.K (He.ga X.K (errC k)) ∧ PySem.W.kitOne X.K (.ref (He.ga X.K (errC k))) cv = some b)
    (hs : starEach [e, c] X.env = (false, eval e X.env) :: starEach [c] X.env := by rfl) (hpl : (backTo pos (starEach [c] X.env)).any (·.1) = false := by rfl) :
    SE X (.Call (.Name "isinstance" p) [e, c] [] pos) (eIsE f me) := by
  have cr : CallR X (.builtin "isinstance") (fun xs H Q => ∃ k, ExcC X.K (He.ga X.K (errC k)) ∧ ∃ (a : Addr) (c : V) (cv : Value) (b : Bool), xs = [.ref a, c] ∧ IsEx X.K k H a ∧ (∀ u, RelV c u → u = cv) ∧ PySem.W.kitOne X.K (.ref (He.ga X.K (errC k))) cv = some b ∧ Q (.bl b) H) :=
    fun pins s σ H xs us Q I r ⟨k, C, h⟩ => call_isX C pins s σ H xs us Q I r h
  refine PE.imp (pe_callB cr hg hm rfl ha (he := hs) (hpl := hpl)) fun σ H Q h => ?_
  obtain ⟨ι, σ0, G, v1, G', rfl, so, R, ee, pz⟩ := h
  obtain ⟨⟨x, G1⟩, e1, ee⟩ := bnd ee
  refine liftE.into so R e1 fun ι1 H1 a1 R1 l1 k1 => ?_
  dsimp only at ee
  unfold fIsE at ee
  cases x with
  | ref b =>
    dsimp only at ee
    cases q : G1[b]? with
    | none => rw [q] at ee; cases ee
    | some o => cases o with
      | xt t => cases t with
        | ex k =>
          rw [q] at ee
          dsimp only at ee
          obtain ⟨t, ft, ee⟩ := bnd ee
          cases ee
          obtain ⟨C, hk⟩ := hf k t ft
          exact ⟨k, C, ι1 b, v, cv, t, rfl, R1.at_ b _ q, hv, hk, pz ι1 H1 a1 R1 l1 rfl⟩
        | st ns n => rw [q] at ee; cases ee
        | lk => rw [q] at ee; cases ee
        | dt kvs => rw [q] at ee; cases ee
        | ld b kvs => rw [q] at ee; cases ee
        | lK b kvs => rw [q] at ee; cases ee
      | _ => rw [q] at ee; cases ee
  | _ => cases ee
end

/-! ### the facts of the error classes; rs: those that are raised -/
/-- a class with a field -/
structure PayC (K : PySem.W.Frag) (k : Nat) : Prop where
  oex : OexC K (He.ga K (errC k))
  ini : PySem.W.findIn K (.ref (He.ga K (errC k))) "__init__" = some (some (.ref (He.ma K (He.ga K (errC k)) "__init__")))
  tI : PySem.W.typeIn K (.ref (He.ma K (He.ga K (errC k)) "__init__")) = some (.type "function")
  noF : PySem.W.findIn K (.ref (He.ga K (errC k))) (fldL.getD (k - 16) "") = some none
  xf : XfC K (He.ga K (errC k))
structure LateC (K : PySem.W.Frag) : Prop where
  sp : PySem.W.specialIn K (.ref (He.ga K "LateError")) "__getattribute__" = some (some (.builtin "type.__getattribute__"))
  rd : PySem.W.readsIn K (He.ga K "LateError") (.type "type") = true
  ty : PySem.W.typeIn K (.ref (He.ga K "LateError")) = some (.type "type")
  fc : PySem.W.findCls K (.ref (He.ga K "LateError")) (.type "type") "__init__" = some (.val (.builtin "ValueError.__init__"))
structure ExcT (K : PySem.W.Frag) (mg : Str → Option Value) (rs : List Nat) : Prop where
  cls : ∀ k ∈ rs, ExcC K (He.ga K (errC k))
  one : ∀ k ∈ rs, ∀ j, j < 20 → PySem.W.kitOne K (.ref (He.ga K (errC k))) (.ref (He.ga K (errC j))) = some (decide (k = j))
  ve : ∀ k ∈ rs, PySem.W.kitOne K (.ref (He.ga K (errC k))) (.type "ValueError") = some true
  lat : ∀ k ∈ rs, PySem.W.kitOne K (.ref (He.ga K (errC k))) (.ref (He.ga K "LateError")) = some true
  late : ∀ k ∈ rs, PySem.W.exmOne K (.ref (He.ga K (errC k))) (.ref (He.ga K "LateError")) = some true
  self : ∀ k ∈ rs, PySem.W.exmOne K (.ref (He.ga K (errC k))) (.ref (He.ga K (errC k))) = some true
  exc : ∀ k ∈ rs, k < 16 ∨ 20 ≤ k → PySem.W.excIn K (He.ga K (errC k)) He.veBase "ValueError.__new__" = true
  kp : ∀ k ∈ rs, PySem.W.keepIn K (.ref (He.ga K (errC k))) = true
  sub : ∀ k ∈ rs, PySem.W.subIn K (.ref (He.ga K (errC k))) (.type "BaseException") = some true
  ty : ∀ k ∈ rs, PySem.W.typeIn K (.ref (He.ga K (errC k))) = some (.type "type")
  gl : ∀ j, j < 20 → mg (errC j) = some (.ref (He.ga K (errC j)))
  pay : ∀ k ∈ rs, 16 ≤ k → k < 20 → PayC K k
  exm : ∀ k ∈ rs, 16 ≤ k → k < 20 → ∀ j, j < 4 → PySem.W.exmOne K (.ref (He.ga K (errC k))) (.ref (He.ga K (errC (16 + j)))) = some (decide (k = 16 + j))
  lateC : (∃ k ∈ rs, 16 ≤ k) → LateC K
  glL : mg "LateError" = some (.ref (He.ga K "LateError"))
def isJ (rs js : List Nat) : Nat → Option Bool := fun k => if k % 32 ∈ rs then some (decide (k % 32 ∈ js)) else none
def isV (rs : List Nat) : Nat → Option Bool := fun k => if k % 32 ∈ rs then some true else none
section
variable {K : PySem.W.Frag} {mg : Str → Option Value} {rs : List Nat}
theorem ExcT.isJ1 (T : ExcT K mg rs) {j : Nat} (hj : j < 20) : ∀ k b, isJ rs [j] k = some b → ExcC K (He.ga K (errC k)) ∧ PySem.W.kitOne K (.ref (He.ga K (errC k))) (.ref (He.ga K (errC j))) = some b := fun k b e => by
  unfold isJ at e
  split at e
  · rename_i h
    cases e
    rw [← errC_mod k]
    refine ⟨T.cls _ h, ?_⟩
    rw [T.one _ h j hj]
    simp
  · cases e
theorem ExcT.isV1 (T : ExcT K mg rs) : ∀ k b, isV rs k = some b → ExcC K (He.ga K (errC k)) ∧ PySem.W.kitOne K (.ref (He.ga K (errC k))) (.type "ValueError") = some b := fun k b e => by
  unfold isV at e
  split at e
  · rename_i h
    cases e
    rw [← errC_mod k]
    exact ⟨T.cls _ h, T.ve _ h⟩
  · cases e
theorem ExcT.isL1 (T : ExcT K mg rs) : ∀ k b, isV rs k = some b → ExcC K (He.ga K (errC k)) ∧ PySem.W.kitOne K (.ref (He.ga K (errC k))) (.ref (He.ga K "LateError")) = some b := fun k b e => by
  unfold isV at e
  split at e
  · rename_i h
    cases e
    rw [← errC_mod k]
    exact ⟨T.cls _ h, T.lat _ h⟩
  · cases e
section
variable {X : Cx} {e : Expr} {es : List Expr}
end
theorem ExcT.any (T : ExcT K mg rs) {k : Nat} (h : k ∈ rs) : ∀ js : List Nat, (∀ j ∈ js, j < 20) → PySem.W.kitAny K (.ref (He.ga K (errC k))) (js.map fun j => .ref (He.ga K (errC j))) = some (decide (k ∈ js))
  | [], _ => by simp [PySem.W.kitAny]
  | j :: js, hj => by
    have ih := T.any h js fun i hi => hj i (List.mem_cons_of_mem _ hi)
    show (match PySem.W.kitOne K (.ref (He.ga K (errC k))) (.ref (He.ga K (errC j))) with | some true => some true | some false => PySem.W.kitAny K _ (js.map _) | none => none) = _
    rw [T.one k h j (hj j (List.mem_cons_self ..))]
    by_cases q : k = j
    · rw [decide_eq_true q]
      simp [q]
    · rw [decide_eq_false q]
      dsimp only
      rw [ih]
      simp [q]
end
end Zl

/-! Zl: defs that are called while an error is handled; the head's facts of the error classes. -/
namespace Zl
open PySem PySem.Spec L2
open PyProof.Rows hiding St

structure RoomQ (k : Nat) (A : Around) : Prop where
  dp : A.depth + 3 * k + 5 < recursionLimit
  un : A.units + 16 * k + 200 < cLine
theorem RoomQ.of {k : Nat} {A : Around} (r : Room k A) : RoomQ k A := ⟨r.dp, r.un⟩
theorem RoomQ.mono {j k : Nat} {A : Around} (r : RoomQ k A) (h : j ≤ k) : RoomQ j A := ⟨by have := r.dp; omega, by have := r.un; omega⟩
theorem RoomQ.deeper {k : Nat} {A : Around} (r : RoomQ (k + 1) A) (env : Env) : RoomQ k (A.deeper env) :=
  ⟨by have := r.dp; show A.depth + 1 + 3 * k + 5 < _; omega, by have := r.un; show A.units + 3 + 16 * k + 200 < _; omega⟩
theorem RoomQ.depth {k : Nat} {A : Around} (r : RoomQ k A) : A.depth < recursionLimit := by have := r.dp; omega
theorem RoomQ.units {k : Nat} {A : Around} (r : RoomQ k A) : A.units + 64 < cLine := by have := r.un; omega
theorem RoomQ.mark {k : Nat} {A : Around} (r : RoomQ k A) (e : Option Value) : RoomQ k (A.mark e) := ⟨r.dp, r.un⟩
/-- as FnZ, also while an error is handled -/
structure FnQ (P : Program) (w : World) (K : PySem.W.Frag) (mg : Str → Option Value) (base : Heap) (k : Nat) (f : Addr) (fd : FuncData) (ps : List Str) (m : FL) : Prop where
  run : ∀ (A : Around) (outer : List Env) (s : Shared) (H : Hp) (args : Args) (us : List Value) (ι : Em) (G : Hz) (vs : List V) (v : V) (G' : Hz) (Q : VK),
    RoomQ k A → A.guards = some [] → Env0 P w K mg base A outer s H → BindsTo s fd args (ps.zip us) → Vals (vs.map (mv ι)) us → vs.length = ps.length → Rel K ι G H → vs.all (okV G.length) = true →
    m vs G = some (v, G') → Pz K ι G.length v G' Q → codeAny (model P w) A (.call (.ref f) args) (CR CX0 outer P w H s Q E0) s
section
variable {P : Program} {w : World} {K : PySem.W.Frag} {mg : Str → Option Value} {base : Heap}
end
section
variable {X : Cx} {k : Nat} {f : Addr} {fd : FuncData} {ps : List Str} {dvs : List V} {ds : List Value} {x : Str} {p pos : Pos} {e : Expr} {es : List Expr} {m : FL} {ma : MA}
end

section
variable {X : Cx} {e : Expr} {st : Stmt}
end
/-! ### the head, with the facts of the error classes -/
def excFB (K : PySem.W.Frag) (D : Addr) : Bool :=
  He.eqO (PySem.W.findIn K (.ref D) "__getattribute__") (some (some (.builtin "BaseException.__getattribute__"))) && (He.eqO (PySem.W.findIn K (.ref D) "__getattr__") (some none) && (decide (PySem.W.subIn K (.ref D) (.type "BaseException") = some true) && (PySem.W.hasDictIn K D && (He.eqO (PySem.W.findIn K (.ref D) "__class__") (some (some (.builtin "object.__class__"))) &&
    (decide (PySem.W.specialIn K (.builtin "object.__class__") "__get__" = some (some (.builtin "getset_descriptor.__get__"))) && (decide (PySem.W.takesIn K (.builtin "object.__class__") = some true) && decide (PySem.W.mroIn K D (.type "object") = some true)))))))
theorem excFB_ok {K : PySem.W.Frag} {D : Addr} (h : excFB K D = true) : ExcC K D := by
  unfold excFB at h
  obtain ⟨h1, h⟩ := He.ba h
  obtain ⟨h2, h⟩ := He.ba h
  obtain ⟨h3, h⟩ := He.ba h
  obtain ⟨h4, h⟩ := He.ba h
  obtain ⟨h5, h⟩ := He.ba h
  obtain ⟨h6, h⟩ := He.ba h
  obtain ⟨h7, h8⟩ := He.ba h
  exact ⟨He.eqO_ok h1, He.eqO_ok h2, of_decide_eq_true h3, h4, He.eqO_ok h5, of_decide_eq_true h6, of_decide_eq_true h7, of_decide_eq_true h8⟩
def oexB (K : PySem.W.Frag) (C : Addr) : Bool := (match K.lookup C with
  | some ⟨.type "type", _, .cls cd, sl⟩ => (match cd.mro, sl.toList with
    | .ref C1 :: bm, [_, _, _, _, some (.builtin n), _] => decide (C1 = C) && (decide (n = "ValueError.__new__") && (!cd.hasDel && (cd.hasDict && PySem.HandSPX.refsVE bm)))
    | _, _ => false)
  | _ => false) && (He.eqO (PySem.W.findIn K (.ref C) "__setattr__") (some (some (.builtin "object.__setattr__"))) && (decide (PySem.W.subIn K (.ref C) (.type "BaseException") = some true) && (decide (PySem.W.typeIn K (.ref C) = some (.type "type")) && PySem.W.keepIn K (.ref C))))
theorem oexB_ok {K : PySem.W.Frag} {C : Addr} (h : oexB K C = true) : OexC K C := by
  unfold oexB at h
  obtain ⟨h1, h⟩ := He.ba h
  obtain ⟨h2, h⟩ := He.ba h
  obtain ⟨h3, h⟩ := He.ba h
  obtain ⟨h4, h5⟩ := He.ba h
  refine ⟨?_, He.eqO_ok h2, of_decide_eq_true h3, of_decide_eq_true h4, h5⟩
  split at h1
  · rename_i d0 cd sl lk
    split at h1
    · rename_i C1 bm u0 u1 u2 u3 n u5 em es
      obtain ⟨g1, h1⟩ := He.ba h1
      obtain ⟨g2, h1⟩ := He.ba h1
      obtain ⟨g3, h1⟩ := He.ba h1
      obtain ⟨g4, g5⟩ := He.ba h1
      have g1 := of_decide_eq_true g1
      have g2 := of_decide_eq_true g2
      obtain ⟨c1, c2, c3, c4, c5, c6, c7, c8, c9, c10, c11⟩ := cd
      dsimp only at em g3 g4
      have g3 : c11 = false := by simpa using g3
      subst g1 g2 g3 em g4
      have e2 : sl = #[u0, u1, u2, u3, some (.builtin "ValueError.__new__"), u5] := by
        cases sl with
        | mk l => exact congrArg Array.mk es
      subst e2
      exact ⟨_, _, _, _, _, _, _, _, _, _, _, _, _, _, _, lk, g5⟩
    · cases h1
  · cases h1
def payB (K : PySem.W.Frag) (k : Nat) : Bool := oexB K (He.ga K (errC k)) && (He.eqO (PySem.W.findIn K (.ref (He.ga K (errC k))) "__init__") (some (some (.ref (He.ma K (He.ga K (errC k)) "__init__")))) &&
  (decide (PySem.W.typeIn K (.ref (He.ma K (He.ga K (errC k)) "__init__")) = some (.type "function")) && (He.eqO (PySem.W.findIn K (.ref (He.ga K (errC k))) (fldL.getD (k - 16) "")) (some none) && xfB K (He.ga K (errC k)))))
theorem payB_ok {K : PySem.W.Frag} {k : Nat} (h : payB K k = true) : PayC K k := by
  obtain ⟨h1, h⟩ := He.ba h
  obtain ⟨h2, h⟩ := He.ba h
  obtain ⟨h3, h⟩ := He.ba h
  obtain ⟨h4, h5⟩ := He.ba h
  exact ⟨oexB_ok h1, He.eqO_ok h2, of_decide_eq_true h3, He.eqO_ok h4, xfB_ok h5⟩
def lateB (K : PySem.W.Frag) : Bool := He.eqO (PySem.W.specialIn K (.ref (He.ga K "LateError")) "__getattribute__") (some (some (.builtin "type.__getattribute__"))) && (PySem.W.readsIn K (He.ga K "LateError") (.type "type") && (decide (PySem.W.typeIn K (.ref (He.ga K "LateError")) = some (.type "type")) &&
  (match PySem.W.findCls K (.ref (He.ga K "LateError")) (.type "type") "__init__" with
    | some (.val (.builtin n)) => decide (n = "ValueError.__init__")
    | _ => false)))
theorem lateB_ok {K : PySem.W.Frag} (h : lateB K = true) : LateC K := by
  obtain ⟨h1, h⟩ := He.ba h
  obtain ⟨h2, h⟩ := He.ba h
  obtain ⟨h3, h4⟩ := He.ba h
  refine ⟨He.eqO_ok h1, h2, of_decide_eq_true h3, ?_⟩
  split at h4
  · rename_i n e
    rw [e, of_decide_eq_true h4]
  · cases h4
def kst (K : PySem.W.Frag) (k : Nat) : Bool := PySem.W.keepIn K (.ref (He.ga K (errC k))) && (decide (PySem.W.subIn K (.ref (He.ga K (errC k))) (.type "BaseException") = some true) && decide (PySem.W.typeIn K (.ref (He.ga K (errC k))) = some (.type "type")))
def excOB (K : PySem.W.Frag) (k : Nat) : Bool :=
  excFB K (He.ga K (errC k)) && (((List.range 20).all fun j => decide (PySem.W.kitOne K (.ref (He.ga K (errC k))) (.ref (He.ga K (errC j))) = some (decide (k = j)))) && (decide (PySem.W.kitOne K (.ref (He.ga K (errC k))) (.type "ValueError") = some true ∧ PySem.W.kitOne K (.ref (He.ga K (errC k))) (.ref (He.ga K "LateError")) = some true) &&
    (decide (PySem.W.exmOne K (.ref (He.ga K (errC k))) (.ref (He.ga K "LateError")) = some true) && (decide (PySem.W.exmOne K (.ref (He.ga K (errC k))) (.ref (He.ga K (errC k))) = some true) && (kst K k && (if k < 16 ∨ 20 ≤ k then PySem.W.excIn K (He.ga K (errC k)) He.veBase "ValueError.__new__" else (payB K k && ((List.range 4).all fun j => decide (PySem.W.exmOne K (.ref (He.ga K (errC k))) (.ref (He.ga K (errC (16 + j)))) = some (decide (k = 16 + j)))))))))))
def excB (rs : List Nat) (K : PySem.W.Frag) : Bool := (rs.all fun k => excOB K k) && (((List.range 20).all fun j => (He.Fa.glo (errC j)).ok K) && ((He.Fa.glo "LateError").ok K && ((rs.all fun k => decide (k < 16)) || lateB K)))
theorem excB_ok {K : PySem.W.Frag} {h : Heap} {mg : Str → Option Value} {rs : List Nat} (X : K.In h) (G : h.Ns mainGlobals mg) (e : excB rs K = true) : ExcT K mg rs := by
  obtain ⟨e1, e⟩ := He.ba e
  obtain ⟨e2, e⟩ := He.ba e
  obtain ⟨e3, e4⟩ := He.ba e
  have a1 : ∀ k ∈ rs, excOB K k = true := List.all_eq_true.mp e1
  have a2 : ∀ k ∈ rs, _ := fun k hk => He.ba (a1 k hk)
  have a3 : ∀ k ∈ rs, _ := fun k hk => He.ba (a2 k hk).2
  have a4 : ∀ k ∈ rs, _ := fun k hk => He.ba (a3 k hk).2
  have a5 : ∀ k ∈ rs, _ := fun k hk => He.ba (a4 k hk).2
  have a6 : ∀ k ∈ rs, _ := fun k hk => He.ba (a5 k hk).2
  have a7 : ∀ k ∈ rs, _ := fun k hk => He.ba (a6 k hk).2
  have a8 : ∀ k ∈ rs, _ := fun k hk => He.ba (a7 k hk).1
  have a9 : ∀ k ∈ rs, _ := fun k hk => He.ba (a8 k hk).2
  exact {
    cls := fun k hk => excFB_ok (a2 k hk).1
    one := fun k hk j hj => of_decide_eq_true (List.all_eq_true.mp (a3 k hk).1 j (List.mem_range.mpr hj))
    ve := fun k hk => (of_decide_eq_true (a4 k hk).1).1
    lat := fun k hk => (of_decide_eq_true (a4 k hk).1).2
    late := fun k hk => of_decide_eq_true (a5 k hk).1
    self := fun k hk => of_decide_eq_true (a6 k hk).1
    exc := fun k hk lt => by
      have z := (a7 k hk).2
      rw [if_pos lt] at z
      exact z
    kp := fun k hk => (a8 k hk).1
    sub := fun k hk => of_decide_eq_true (a9 k hk).1
    ty := fun k hk => of_decide_eq_true (a9 k hk).2
    gl := fun j hj => He.glo_ok X G (List.all_eq_true.mp e2 j (List.mem_range.mpr hj))
    pay := fun k hk ge lt => by
      have z := (a7 k hk).2
      rw [if_neg (by omega)] at z
      exact payB_ok (He.ba z).1
    exm := fun k hk ge lt j hj => by
      have z := (a7 k hk).2
      rw [if_neg (by omega)] at z
      exact of_decide_eq_true (List.all_eq_true.mp (He.ba z).2 j (List.mem_range.mpr hj))
    lateC := fun ⟨k, hk, ge⟩ => by
      rcases Bool.or_eq_true_iff.mp e4 with z | z
      · have := of_decide_eq_true (List.all_eq_true.mp z k hk)
        omega
      · exact lateB_ok z
    glL := He.glo_ok X G e3 }
abbrev AlX : Type := Bool × He.AlD
def obsX (rs : List Nat) (fa : List He.Fa) (fn : List He.DefD) (K : PySem.W.Frag) : AlX := (excB rs K, He.obsD fa fn K)
def obsXG (n : Nat) (rs : List Nat) (fa : List He.Fa) (fn : List He.DefD) (g : Addr → Option Obj) : AlX := obsX rs fa fn (He.frG g (He.asD g n ++ [cStatics]))
def hookX (n : Nat) (rs : List Nat) (fa : List He.Fa) (fn : List He.DefD) : PySem.W.Hook where
  α := AlX
  obs := fun s => obsXG n rs fa fn s.heap.get?
  val := fun _ => (true, He.valD fn)
  says := fun _ h => ∃ K : PySem.W.Frag, K.In h ∧ excB rs K = true ∧ He.SaysD fa fn K
  of := fun _ _ e => ⟨_, He.frG_in, congrArg (fun z : AlX => z.1) e, congrArg (fun z : AlX => z.2) e⟩
  keeps := fun _ _ _ ⟨K, hK, c⟩ k => ⟨K, PySem.W.Frag.In.keeps hK k, c⟩
theorem obsXG_eq {n : Nat} {rs : List Nat} {fa : List He.Fa} {fn : List He.DefD} {g : Addr → Option Obj} {s : Shared} (h : ∀ a, g a = s.heap.get? a) : obsXG n rs fa fn g = (hookX n rs fa fn).obs s := by
  have e : g = s.heap.get? := funext h
  rw [e]
  rfl
/-! ### the first place of a bool -/
end Zl

set_option maxHeartbeats 2000000
/-! Zl: the end of a walk over zip of two lists while an error is handled. -/
namespace Zl
open PySem PySem.Spec PyProof.Rows
section
variable {prog : Program} {w : World} {A : Around} {E : Value → Shared → Prop} {s : Shared}
end
/-! ### a context that knows the error that is handled -/
open L2 in
/-- the handled error is frozen from the entry on, its context None -/
def HotC (X : Cx) : Prop := ∃ (x1 : Addr) (oe : Obj) (u : HO) (vs : Array Value), X.A.handled = some (.ref x1) ∧ X.H_0 x1 = some (.frz oe u) ∧ oe.data = .fields vs ∧ vs[2]? = some .none
open L2 in
theorem HotC.at {X : Cx} {pins : List (Addr × Obj)} {σ : L2.St} {H : Hp} {s : Shared} (q : HotC X) (I : Inv X pins σ H s) : ∃ (x1 : Addr) (oe : Obj) (u : HO), HotX.HotAt X.A x1 s.heap ∧ H x1 = some (.frz oe u) := by
  obtain ⟨x1, oe, u, vs, hd, h0, dv, cv⟩ := q
  have now := I.base.frzs x1 oe u h0
  have there : s.heap.get? x1 = some oe := (I.hok x1 _ now).1
  exact ⟨x1, oe, u, ⟨hd, oe, vs, there, dv, cv⟩, now⟩
end Zl

set_option maxHeartbeats 2000000
/-! Zl: a comprehension's loop in a given context, whatever it knows of a handled error. -/
namespace Zl
open PySem PySem.Spec L2
open PyProof.Rows hiding St
/-- an iterator's turns, in the one context Y -/
structure TurnAt (Y : Cx) (tg : Expr) (J : It) (fp : List Addr) (it : Addr) (tn : Nat → Heap → Prop) : Prop where
  there : ∀ i g, tn i g → ∀ b ∈ fp, ∃ ob, g.get? b = some ob ∧ ∀ v, ob.data ≠ .cell v
  stay : ∀ i g g', tn i g → (∀ b ∈ fp, ∀ ob, g.get? b = some ob → g'.get? b = some ob) → tn i g'
  next : ∀ (i : Nat) (pins : List (Addr × Obj)) (s : Shared) (σ : L2.St) (H : Hp), L2.Inv Y pins σ H s → (∀ b ∈ fp, FpOk Y pins H b) → tn i s.heap → J.go i H →
    wpAny (model Y.prog Y.w) Y.A (pyNext (.ref it)) (fun r s1 => ∃ u, r = some u ∧ wpAny (model Y.prog Y.w) Y.A (letOwnedTupleGo tg (.ref it) u) (fun _ s2 => ∃ x H', L2.Inv Y pins σ H' s2 ∧ RelV x u ∧ J.yld i H x H' ∧ tn (i + 1) s2.heap ∧ ∀ b ∈ fp, H' b = none) (fun _ _ => False) s1) (fun _ _ => False) s
  fini : ∀ (i : Nat) (pins : List (Addr × Obj)) (s : Shared) (σ : L2.St) (H : Hp), L2.Inv Y pins σ H s → (∀ b ∈ fp, FpOk Y pins H b) → tn i s.heap → J.stop i H →
    wpAny (model Y.prog Y.w) Y.A (pyNext (.ref it)) (fun r s1 => r = none ∧ L2.Inv Y pins σ H s1) (fun _ _ => False) s
section
variable {Y : Cx} {c : Code} {tg : Expr} {fs : List Expr} {LA : Sem PySem.Fin} {p : Pos} {g : TG} {tt : TT} {pins : List (Addr × Obj)} {σw : L2.St} {vs : List Nat} {H0 : Hp} {s0 : Shared} {it : Addr} {fp : List Addr} {tn : Nat → Heap → Prop} {J : It} {Leaf : L2.St → Hp → (Hp → Prop) → Prop} {End : Hp → Prop} {Rz : Result → Shared → Prop}
end
/-! ### zip of two lists, the first of which ends first -/
end Zl

set_option maxHeartbeats 2000000
/-! Zl: [elt for x, y in zip(e, e2) if ..] while an error is handled; defs that may be called with the error that is handled (loops in them). -/
namespace Zl
open PySem PySem.Spec L2
open PyProof.Rows hiding St
/-! ### a tuple is unpacked while an error is handled -/
section
variable {prog : Program} {w : World} {A : Around} {E : Value → Shared → Prop} {s : Shared}
end
/-- a target, for tuples alone -/
structure PGt (X : Cx) (target : Expr) (t : TG) : Prop where
  run : ∀ (pins : List (Addr × Obj)) (s : Shared) (σ : L2.St) (H : Hp) (T : Addr) (xs : List V) (u : Value) (Q : L2.St → Hp → Prop), L2.Inv X pins σ H s → RelV (.ref T) u → H T = some (.tup xs) → t (.ref T) σ H Q →
    wpAny (model X.prog X.w) X.A (assign target X.env u) (fun _ s' => ∃ σ' H', L2.Inv X pins σ' H' s' ∧ Q σ' H') X.xe s
section
variable {X : Cx} {es : List Expr} {pos : Pos} {r : MGs}
end
section
variable {X : Cx} {elt e e2 tg : Expr} {elts : List Expr} {kk : Nat} {ifs : List Expr} {scope : Scope} {own : List (Str × Nat)} {zp zpos pos pos' tpos : Pos} {ta : TA} {g : TG} {tt : TT} {te : TE}
end
/-! ### the plain meaning -/
section
variable {X : Cx} {elt e e2 : Expr} {elts : List Expr} {kk : Nat} {ifs : List Expr} {scope : Scope} {own : List (Str × Nat)} {zp zpos pos pos' tpos : Pos} {ma : MA} {g : MG} {t : MT} {te : ME} {n : Nat} {cm : Bool} {vs : List Nat}
end
/-! ### defs that are called while an error is handled, the error known to the caller's heap -/
def HotA (A : Around) (H : Hp) : Prop := ∃ (x1 : Addr) (oe : Obj) (u : HO) (vs : Array Value), A.handled = some (.ref x1) ∧ H x1 = some (.frz oe u) ∧ oe.data = .fields vs ∧ vs[2]? = some .none
theorem HotC.now {X : Cx} {pins : List (Addr × Obj)} {σ : L2.St} {H : Hp} {s : Shared} (q : HotC X) (I : Inv X pins σ H s) : HotA X.A H := by
  obtain ⟨x1, oe, u, vs, hd, h0, dv, cv⟩ := q
  exact ⟨x1, oe, u, vs, hd, I.base.frzs x1 oe u h0, dv, cv⟩
structure FnH (P : Program) (w : World) (K : PySem.W.Frag) (mg : Str → Option Value) (base : Heap) (k : Nat) (f : Addr) (fd : FuncData) (ps : List Str) (m : FL) : Prop where
  run : ∀ (A : Around) (outer : List Env) (s : Shared) (H : Hp) (args : Args) (us : List Value) (ι : Em) (G : Hz) (vs : List V) (v : V) (G' : Hz) (Q : VK),
    RoomQ k A → HotA A H → A.guards = some [] → Env0 P w K mg base A outer s H → BindsTo s fd args (ps.zip us) → Vals (vs.map (mv ι)) us → vs.length = ps.length → Rel K ι G H → vs.all (okV G.length) = true →
    m vs G = some (v, G') → Pz K ι G.length v G' Q → codeAny (model P w) A (.call (.ref f) args) (CR CX0 outer P w H s Q E0) s
section
variable {P : Program} {w : World} {K : PySem.W.Frag} {mg : Str → Option Value} {base : Heap}
end
section
variable {X : Cx} {k : Nat} {f : Addr} {fd : FuncData} {ps : List Str} {dvs : List V} {ds : List Value} {x : Str} {p pos : Pos} {e : Expr} {es : List Expr} {m : FL} {ma : MA}
end
end Zl

set_option maxHeartbeats 2000000
/-! Zl: errors with a field: raised, the field read in the suite. -/
namespace Zl
open PySem PySem.Spec L2
open PyProof.Rows hiding St

section
variable {X : Cx} {e o : Expr} {es : List Expr} {ta : TA} {p1 p2 pos : Pos}
/-- LateError.__init__(self, ..) -/
theorem pe_lateI {pl : Sem Bool} (hg : Gl X "LateError") (hm : X.mg "LateError" = some (.ref (He.ga X.K "LateError"))) (L : LateC X.K) (ha : PA X (e :: es) ta)
    (hc : eval (.Call (.Attribute (.Name "LateError" p1) "__init__" p2) (e :: es) [] pos) X.env = (do
      let ov ← eval (.Name "LateError" p1) X.env
      standAt p2.atName
      let (f, first) ← holding [ov] (getMethod ov "__init__" pl)
      callWith pos f first (backTo pos (starEach (e :: es) X.env)) (backToKw pos (keywordEach [] X.env))) := by rfl)
    (he : starEach (e :: es) X.env = (false, eval e X.env) :: starEach es X.env := by rfl) (hpl : (backTo pos (starEach es X.env)).any (·.1) = false := by rfl) :
    PE X (.Call (.Attribute (.Name "LateError" p1) "__init__" p2) (e :: es) [] pos) (tVeI X.K ta) := by
  refine ⟨fun pins s σ H Q I h => PySem.W.methodCall_KW (ld_glob I hg hm ?_) hc⟩
  obtain ⟨m, fr⟩ := I.fr
  refine PySem.W.method_of_cls fr I.ok.mod.kin L.sp (PySem.W.cls_val fr I.ok.mod.kin L.ty L.rd L.fc rfl ?_)
  refine PyProof.Rows.callWith_method1 (id := "ValueError.__init__") (first := []) (thn (ha.run pos pins _ σ H _ (I.tok _) h) fun us s1 hz => ?_) he hpl
  obtain ⟨vs, H1, I1, r1, b, C, ws, rfl, hl, T, ea, q⟩ := hz
  cases r1 with
  | cons rb rws =>
    cases rb
    have hlen := Paired.length rws
    exact oinit_ok T I1 ea (by rw [← hlen, sizeLine_eq]; omega) fun s' J => ⟨.non, H1, J, rfl, q⟩
/-- the promise of such an __init__ -/
def spI (C : Addr) (f : Str) : Sp := fun vs H Q _ => ∃ (b : Addr) (y : V), vs = [.ref b, y] ∧ H b = some (exo b C none) ∧ ∀ dx, H dx = none → dx ≠ b → Q .non (upd (upd H dx (exd dx [(f, y)])) b (exo b C (some dx)))
end
theorem sp_len {C : Addr} {f : Str} : ∀ vs H Q E, spI C f vs H Q E → vs.length = (["self", f] : List Str).length := fun vs H Q E ⟨b, y, h, _⟩ => by
  subst h
  rfl
theorem init_ok {P : Program} {w : World} {K : PySem.W.Frag} {mg : Str → Option Value} {base : Heap} {C fI : Addr} {fd : FuncData} {f txt qual : Str} {params : Arguments} {body : List Stmt} {scope : Scope} (T : OexC K C) (hno : PySem.W.findIn K (.ref C) f = some none)
    (F : FunD K "__init__" qual params body scope [] [] fI fd) (S : FnScope ["self", f] ["self", f] scope)
    (hb : ∀ (cdv : Value) (A : Around) (outer : List Env) (s : Shared) (H : Hp) (E : XK), PSs (cxOf CX0 P w K mg base ["self", f] qual scope fI cdv A outer s H E) body (tSeq (tDrop (tVeI K (tCons (tVar 0) (tCons (tC (.str txt)) tNil)))) (tOst K f (tVar 0) (tVar 1)))) :
    FnOk P w K mg base CX0 1 fI fd ["self", f] (spI C f) := by
  refine FunD.ok F S sp_len fun cdv A outer s H vs Q E hr ⟨b, y, ev, h1, hq⟩ => ⟨_, hb cdv A outer s H E, ?_⟩
  subst ev
  refine ⟨.ref b, rfl, b, C, [.str txt], rfl, by show 1 ≤ 1000; decide, T, h1, ?_⟩
  exact ⟨y, rfl, .ref b, rfl, b, C, rfl, T, hno, .inl ⟨h1, fun dx n ne => hq dx n ne⟩⟩
section
variable {X : Cx} {e : Expr} {te : TE} {pos p : Pos}
def payQ (C : Addr) (f : Str) (Q : XK) : List V → Hp → Prop
  | [v], H1 => ∀ dd, H1 dd = none → Q (.ref C) (some dd) (upd H1 dd (.xd [(f, v)]))
  | _, _ => False
/-- C(e): an error whose field is e -/
theorem pmk_pay {x f : Str} {C fI : Addr} {k : Nat} {fd : FuncData} (T : OexC X.K C) (iC : PySem.W.findIn X.K (.ref C) "__init__" = some (some (.ref fI))) (tI : PySem.W.typeIn X.K (.ref fI) = some (.type "function"))
    (F1 : FnOk X.prog X.w X.K X.mg X.base CX0 k fI fd ["self", f] (spI C f)) (hr : Room (k + 1) X.A) (hb : Binds X.K fd ["self", f] []) (hg : Gl X x) (hm : X.mg x = some (.ref C)) (ha : PE X e te)
    (hdb : (x == ("__debug__" : Str)) = false := by decide) (he : starEach [e] X.env = (false, eval e X.env) :: starEach [] X.env := by rfl) (hpl : (backTo pos (starEach [] X.env)).any (·.1) = false := by rfl) :
    L2N.PMk X (.Call (.Name x p) [e] [] pos) (fun σ H Q => te σ H fun v H1 => ∀ dd, H1 dd = none → Q (.ref C) (some dd) (upd H1 dd (.xd [(f, v)]))) := by
  intro pins s σ H Q I h
  have hA : PA X [e] (tCons te tNil) := pa_cons ha pa_nil he
  have h' : tCons te tNil σ H (payQ C f Q) := h
  refine wpAny_Call_Name_kw (ld_glob I hg hm ?_ hdb)
  refine PySem.W.callWith_K (h₀ := X.base) I.ok.mod.kin T.kC (thn (hA.run pos pins s σ H _ I h') fun us s1 ⟨vs, H1, I1, r1, q1⟩ => ⟨I1.kIn, ?_⟩) he hpl
  obtain ⟨nm, qn, N, bs, bm, sn, sub, ab, col, dd, k0, k1, k2, k3, k5, hC, hbm⟩ := T.cls
  cases r1 with
  | nil => exact q1.elim
  | @cons v u vs us ru rn =>
   cases rn with
   | cons _ _ => exact q1.elim
   | nil =>
    obtain ⟨hp, g, dr, tk, os⟩ := s1
    -- the tuple of the arguments, then the error
    let h1 := (hp.push (PySem.W.kdv_tup [u])).push (PySem.HandSPX.excO C hp.objs.size)
    have le : hp.objs.size ≤ hp.objs.size + 1 := Nat.le_succ _
    have up : ∀ b o, hp.get? b = some o → h1.get? b = some o := fun b o z => Heap.get?_push_of_some _ (Heap.get?_push_of_some _ z)
    have at1 : h1.get? (hp.objs.size + 1) = some (PySem.HandSPX.excO C hp.objs.size) := by
      show ((hp.push _).push _).get? _ = _
      heap_get
    have fr : H1 (hp.objs.size + 1) = none := I1.hok.fresh le
    have I2 : Inv X pins σ (upd H1 (hp.objs.size + 1) (exo (hp.objs.size + 1) C none)) ⟨h1, g, dr, tk, os⟩ := I1.laid (t' := tk) (a := hp.objs.size + 1) (o := exo (hp.objs.size + 1) C none) (h' := h1) up le (exo_ok at1)
    have bt := hb _ [Value.ref (hp.objs.size + 1), u] I2.kIn rfl
    refine wpAny_call (PySem.HandSPX.call_own F.excBase_ValueError (fun Y => PySem.HandSPX.refsVE_contains Y bm hbm) (I1.kIn _ _ hC) (PySem.W.looks_findIn I1.kIn iC) (fun self => PySem.W.bind_fn I1.kIn self tI) (by show 1 ≤ sizeLine; rw [sizeLine_eq]; omega) (codeAny_mono
      (F1.run _ X.stack _ _ ⟨[Value.ref (hp.objs.size + 1), u], []⟩ [Value.ref (hp.objs.size + 1), u] [.ref (hp.objs.size + 1), v] (fun w H2 => w = .non ∧ ∃ dx, H1 dx = none ∧ dx ≠ hp.objs.size + 1 ∧ H2 = upd (upd (upd H1 (hp.objs.size + 1) (exo (hp.objs.size + 1) C none)) dx (exd dx [(f, v)])) (hp.objs.size + 1) (exo (hp.objs.size + 1) C (some dx)))
        (fun _ _ _ => False) (hr.make C [u] []) (I2.env0.make C [u] []) bt (.cons rfl (.cons ru .nil)) ⟨_, v, rfl, upd_same, fun dx d1 d2 => ⟨rfl, dx, by rw [upd_ne d2] at d1; exact d1, d2, rfl⟩⟩) fun r s2 z => ?_))
    cases r with
    | error er => exact z.elim
    | ok fl =>
      cases fl with
      | ret u2 =>
        obtain ⟨v2, H2, os2, bare2, un2, hok2, rv, rfl, dx, d1, d2, rfl⟩ := z
        obtain ⟨hp2, g2, dr2, tk2, os'⟩ := s2
        obtain ⟨t0, G, J, kG, ge, hoe, na⟩ := mk_end0 (fs := [(f, v)]) (d2 := dr2) (t2 := tk2) I1 le up un2 hok2 os2 bare2 upd_same (by rw [upd_ne d2, upd_same]) d1
        refine ⟨rv, hp.objs.size + 1, _, _, ⟨G, g2, dr2, tk2, os'⟩, _, .ref C, some dx, rfl, J, kG, ge, hoe, ⟨rfl, rfl, fun vs e => by cases e; rfl⟩, rfl, rfl, na, rfl, bare2, raises_own T.exC T.tyC, ?_⟩
        have e : upd (L2.del (upd (upd (upd H1 (hp.objs.size + 1) (exo (hp.objs.size + 1) C none)) dx (exd dx [(f, v)])) (hp.objs.size + 1) (exo (hp.objs.size + 1) C (some dx))) (hp.objs.size + 1)) dx (.xd [(f, v)]) = upd H1 dx (.xd [(f, v)]) := by
          funext b
          by_cases hb : b = dx
          · rw [hb, upd_same, upd_same]
          · rw [upd_ne hb, upd_ne hb]
            by_cases ha : b = hp.objs.size + 1
            · rw [ha, L2.del_same, fr]
            · rw [L2.del_ne ha, upd_ne ha, upd_ne hb, upd_ne ha]
        rw [e]
        exact q1 dx d1
      | next => exact z.elim
      | brk => exact z.elim
      | cont => exact z.elim
end
def clsBody : Stmt → List Stmt
  | .ClassDef (body := b) .. => b
  | _ => []
theorem payC_atom {v : V} {q : Nat} (h : payC v = some q) : atomV v = true := by
  unfold payC at h
  split at h <;> first | rfl | cases h
theorem payF_exC {k q : Nat} (h : 16 ≤ k) (h2 : k < 20) : payF (exC k q) = some (fldL.getD (k - 16) "", zag q) := by
  unfold payF
  rw [exC_mod (by omega), exC_div (by omega), if_pos ⟨h, h2⟩]
theorem errC_exC {k q : Nat} (h : k < 20) : errC (exC k q) = errC k := by
  rw [← errC_mod, exC_mod (by omega)]
section
variable {X : Cx} {W : WX} {e : Expr} {me : ME} {p pos pos' : Pos}
/-- err.f -/
def fRow (rs : List Nat) (n : Str) : F1 := fun x G => match x with
  | .ref b => match G[b]? with
    | some (.xt (.ex c)) => if c % 32 ∈ rs then (match payF c with | some p => if p.1 = n then some (p.2, G) else none | none => none) else none
    | _ => none
  | _ => none
theorem se_row {rs : List Nat} {n : Str} (T : ExcT X.K X.mg rs) (h : SE X e me) (hb : attributeBase e n X.env (eval e X.env) = eval e X.env := by rfl) : SE X (.Attribute e n pos) (eUn (fRow rs n) me) := by
  refine ⟨fun pins s σ H Q I hh => ?_⟩
  obtain ⟨ι, σ0, G, v1, G', rfl, so, R, ee, pz⟩ := hh
  obtain ⟨⟨x, G1⟩, e1, ee⟩ := bnd ee
  refine attr_of hb (thn (h.run pins s _ H (fun u H1 => ∃ ι1, u = mv ι1 x ∧ Agr G.length ι ι1 ∧ Rel X.K ι1 G1 H1 ∧ G.length ≤ G1.length) I (liftE.into so R e1 fun ι1 H1 a1 R1 l1 k1 => ⟨ι1, rfl, a1, R1, l1⟩)) fun u s1 hz => ?_)
  obtain ⟨y, H1, I1, rx, ι1, rfl, a1, R1, l1⟩ := hz
  dsimp only at ee
  unfold fRow at ee
  cases x with
  | ref b =>
    dsimp only at ee
    cases q : G1[b]? with
    | none => rw [q] at ee; cases ee
    | some o => cases o with
      | xt t => cases t with
        | st ns n => rw [q] at ee; cases ee
        | lk => rw [q] at ee; cases ee
        | dt kvs => rw [q] at ee; cases ee
        | ld b kvs => rw [q] at ee; cases ee
        | lK b kvs => rw [q] at ee; cases ee
        | ex c =>
          rw [q] at ee
          dsimp only at ee
          split at ee
          · rename_i hc
            split at ee
            · rename_i pf hpf
              split at ee
              · rename_i hn
                cases ee
                have ge : 16 ≤ c % 32 ∧ c % 32 < 20 := by
                  unfold payF at hpf
                  split at hpf
                  · assumption
                  · cases hpf
                have ep : pf = (fldL.getD (c % 32 - 16) "", zag (c / 32)) := by
                  unfold payF at hpf
                  rw [if_pos ge] at hpf
                  exact (Option.some.inj hpf).symm
                have P := T.pay _ hc ge.1 ge.2
                obtain ⟨oe, w, vs, f1, f2, f3, f4, _⟩ := (show IsEx X.K c H1 (ι1 b) from R1.at_ b _ q)
                unfold PayAt at f3
                rw [hpf] at f3
                obtain ⟨dd, f5, f6⟩ := f3
                obtain rfl : u = Value.ref (ι1 b) := rx
                have ob := (I1.hok _ _ f1).1
                obtain ⟨mA, hns, hr⟩ : ObjOk X.prog X.w H1 s1.heap dd (.xd [pf]) := I1.hok dd _ f6
                obtain ⟨od, ho, hl⟩ := lookIn_ns hns
                have lk : ([pf] : List (Str × V)).lookup n = some pf.2 := by
                  obtain ⟨g1, g2⟩ := pf
                  dsimp only at hn
                  subst hn
                  simp [List.lookup]
                obtain ⟨u1, hu, ru⟩ := RelO.some_of (v := pf.2) (o := mA n) (by rw [← lk]; exact hr n)
                have J : PySem.W.InstAt s1.heap (ι1 b) oe (He.ga X.K (errC (c % 32))) (some od) := ⟨ob, by rw [errC_mod]; exact f2, by unfold PySem.W.notCls; rw [f4] <;> rfl, by rw [f5]; exact ho⟩
                have hno : PySem.W.findIn X.K (.ref (He.ga X.K (errC (c % 32)))) n = some none := by
                  have z := P.noF
                  rw [ep] at hn
                  dsimp only at hn
                  rw [hn] at z
                  exact z
                have T2 := P.xf
                refine HandSPX.exc_get I1.kIn J T2.ga T2.gg T2.exC (PySem.W.findObj_own T2.hdC hno rfl (by rw [hl, hu])) (handed_of ru) ?_
                have hat : mv ι1 pf.2 = pf.2 := by
                  rw [ep]
                  exact atom_mv (by
                    cases hz : zag (c / 32) with
                    | ref a => exact (zag_atom _ a hz).elim
                    | _ => rfl) _
                refine ⟨pf.2, H1, I1.tok _, ru, ?_⟩
                have z := pz ι1 H1 a1 R1 l1 (by
                  rw [ep]
                  exact atom_ok (by
                    cases hz : zag (c / 32) with
                    | ref a => exact (zag_atom _ a hz).elim
                    | _ => rfl) _)
                rw [hat] at z
                exact z
              · cases ee
            · cases ee
          · cases ee
      | _ => rw [q] at ee; cases ee
  | _ => cases ee
end
end Zl

/-! Zl: x *= e, divmod. -/
namespace Zl
open PySem PySem.Spec L2
open PyProof.Rows hiding St

def uMult : F2 := fun x y G => match x, y with
  | .int i, .int j => if smallN i = true ∧ smallN j = true then some (.int (i * j), G) else none
  | _, _ => none
section
variable {X : Cx}
end
end Zl

set_option maxHeartbeats 2000000
/-! Zl: the facts of the error classes where not all twenty stand in the program. -/
namespace Zl
open PySem PySem.Spec L2
open PyProof.Rows hiding St
structure ExcTJ (K : PySem.W.Frag) (mg : Str → Option Value) (rs ks : List Nat) : Prop where
  cls : ∀ k ∈ rs, ExcC K (He.ga K (errC k))
  one : ∀ k ∈ rs, ∀ j ∈ ks, PySem.W.kitOne K (.ref (He.ga K (errC k))) (.ref (He.ga K (errC j))) = some (decide (k = j))
  ve : ∀ k ∈ rs, PySem.W.kitOne K (.ref (He.ga K (errC k))) (.type "ValueError") = some true
  late : ∀ k ∈ rs, PySem.W.exmOne K (.ref (He.ga K (errC k))) (.ref (He.ga K "LateError")) = some true
  self : ∀ k ∈ rs, PySem.W.exmOne K (.ref (He.ga K (errC k))) (.ref (He.ga K (errC k))) = some true
  exc : ∀ k ∈ rs, k < 16 → PySem.W.excIn K (He.ga K (errC k)) He.veBase "ValueError.__new__" = true
  kp : ∀ k ∈ rs, PySem.W.keepIn K (.ref (He.ga K (errC k))) = true
  sub : ∀ k ∈ rs, PySem.W.subIn K (.ref (He.ga K (errC k))) (.type "BaseException") = some true
  ty : ∀ k ∈ rs, PySem.W.typeIn K (.ref (He.ga K (errC k))) = some (.type "type")
  gl : ∀ j ∈ ks, mg (errC j) = some (.ref (He.ga K (errC j)))
  pay : ∀ k ∈ rs, 16 ≤ k → PayC K k
  lateC : (∃ k ∈ rs, 16 ≤ k) → LateC K
  glL : mg "LateError" = some (.ref (He.ga K "LateError"))
section
variable {K : PySem.W.Frag} {mg : Str → Option Value} {rs ks : List Nat}
theorem ExcTJ.isJ1 (T : ExcTJ K mg rs ks) {j : Nat} (hj : j ∈ ks) : ∀ k b, isJ rs [j] k = some b → ExcC K (He.ga K (errC k)) ∧ PySem.W.kitOne K (.ref (He.ga K (errC k))) (.ref (He.ga K (errC j))) = some b := fun k b e => by
  unfold isJ at e
  split at e
  · rename_i h
    cases e
    rw [← errC_mod k]
    refine ⟨T.cls _ h, ?_⟩
    rw [T.one _ h j hj]
    simp
  · cases e
theorem ExcTJ.isV1 (T : ExcTJ K mg rs ks) : ∀ k b, isV rs k = some b → ExcC K (He.ga K (errC k)) ∧ PySem.W.kitOne K (.ref (He.ga K (errC k))) (.type "ValueError") = some b := fun k b e => by
  unfold isV at e
  split at e
  · rename_i h
    cases e
    rw [← errC_mod k]
    exact ⟨T.cls _ h, T.ve _ h⟩
  · cases e
theorem ExcTJ.any (T : ExcTJ K mg rs ks) {k : Nat} (h : k ∈ rs) : ∀ js : List Nat, (∀ j ∈ js, j ∈ ks) → PySem.W.kitAny K (.ref (He.ga K (errC k))) (js.map fun j => .ref (He.ga K (errC j))) = some (decide (k ∈ js))
  | [], _ => by simp [PySem.W.kitAny]
  | j :: js, hj => by
    have ih := T.any h js fun i hi => hj i (List.mem_cons_of_mem _ hi)
    show (match PySem.W.kitOne K (.ref (He.ga K (errC k))) (.ref (He.ga K (errC j))) with | some true => some true | some false => PySem.W.kitAny K _ (js.map _) | none => none) = _
    rw [T.one k h j (hj j (List.mem_cons_self ..))]
    by_cases q : k = j
    · rw [decide_eq_true q]
      simp [q]
    · rw [decide_eq_false q]
      dsimp only
      rw [ih]
      simp [q]
end
section
variable {X : Cx} {W : WX} {e : Expr} {me : ME} {p pos pos' : Pos}
end
end Zl

set_option maxHeartbeats 2000000
/-! Zl: walks over a dict: its keys (ints and texts, or tuples of ints), its items. -/
namespace Zl
open PySem PySem.Spec L2
open PyProof.Rows hiding St
theorem Rel.dtM {K : PySem.W.Frag} {ι : Em} {G : Hz} {H : Hp} {j : Nat} {kvs : List (List Int × Int)} (R : Rel K ι G H) (q : G[j]? = some (.xt (.dt kvs))) : H (ι j) = some (.dT (dtK kvs)) := R.at_ j _ q
def isDt : HO → Bool
  | .dK _ => true
  | .dT _ => true
  | _ => false
section
variable {K : PySem.W.Frag} {ι : Em} {G : Hz} {H : Hp} {a : Nat} {od : Obj}
/-- .. and seen again -/
theorem Rel.unlock {o o' : O} {n0 : Nat} (R : Rel K ι G H) (e1 : G[n0]? = some o') (e0 : isFi o' = false) (e2 : G[a]? = some (.xt .lk)) (ea : ι n0 = ι a) (hd : H (ι a) = some (.frz od (o.ho ι))) (di : IsDictO od) (n : (isFi o || isFz o) = false) (nd : isDt (o.ho ι) = true) (k : okO G.length o = true) :
    Rel K ι ((G.set n0 (.xt .lk)).set a o) (upd H (ι a) (o.ho ι)) := by
  obtain ⟨nn, nf⟩ := Bool.or_eq_false_iff.mp n
  have hi := lt_of_get e2
  have ne : n0 ≠ a := fun z => by
    rw [z, e2] at e1
    cases e1
    cases e0
  have get : ∀ {j : Nat} {u}, ((G.set n0 (.xt .lk)).set a o)[j]? = some u → (j ≠ a ∧ j ≠ n0 ∧ G[j]? = some u) ∨ (j = n0 ∧ u = .xt .lk) ∨ (j = a ∧ u = o) := fun {j u} q => by
    by_cases z : j = a
    · subst z
      rw [List.getElem?_set_self (by rw [List.length_set]; exact hi)] at q
      exact .inr (.inr ⟨rfl, (Option.some.inj q).symm⟩)
    · rw [List.getElem?_set_ne (Ne.symm z)] at q
      by_cases y : j = n0
      · subst y
        rw [List.getElem?_set_self (lt_of_get e1)] at q
        exact .inr (.inl ⟨rfl, (Option.some.inj q).symm⟩)
      · rw [List.getElem?_set_ne (Ne.symm y)] at q
        exact .inl ⟨z, y, q⟩
  have far : ∀ {j : Nat} {u}, j ≠ n0 → G[j]? = some u → isFi u = false → ι j ≠ ι a := fun {j u} z q f y => z (R.inj j n0 u o' q e1 f e0 (y.trans ea.symm))
  refine ⟨fun j u q => ?_, fun j l u v f1 f2 n1 n2 q => ?_, fun j u q => ?_⟩
  · rcases get q with ⟨z, z0, q⟩ | ⟨rfl, rfl⟩ | ⟨rfl, rfl⟩
    · by_cases y : ι j = ι a
      · have h := R.at_ j u q
        cases u with
        | fz xs =>
          rcases h with ⟨ob, h⟩ | h
          · rw [y, hd] at h
            injection h with h
            injection h with h1 h2
            rw [h2] at nd
            cases nd
          · exact .inr h
        | tup xs =>
          have h : H (ι j) = some (.tup (xs.map (mv ι))) := h
          rw [y, hd] at h
          cases h
        | xt t => cases t with
          | ex c =>
            obtain ⟨oe, w, vs, h1, h2, h3, h4, h5⟩ := h
            rw [y, hd] at h1
            injection h1 with h1
            injection h1 with h1 h6
            obtain ⟨es, ep, hh⟩ := di
            rw [h1, h4] at hh
            cases hh
          | lk => trivial
          | _ => exact absurd y (far z0 q rfl)
        | _ => exact absurd y (far z0 q rfl)
      · refine (R.at_ j u q).to (Agr.refl (n := G.length)) (lt_of_get q) (R.ok j u q) (fun f hw => ?_) (fun ob w hw => ?_) fun dd fs hw => ?_
        · rw [upd_ne y]
          exact hw
        · rw [upd_ne y]
          exact hw
        · rw [upd_ne fun z => by rw [z, hd] at hw; cases hw]
          exact hw
    · trivial
    · exact .of_ho nf upd_same
  · rcases get f1 with ⟨z1, y1, g1⟩ | ⟨z1, w1⟩ | ⟨z1, w1⟩
    · rcases get f2 with ⟨z2, y2, g2⟩ | ⟨z2, w2⟩ | ⟨z2, w2⟩
      · exact R.inj j l u v g1 g2 n1 n2 q
      · rw [w2] at n2
        cases n2
      · rw [z2] at q
        exact absurd q (far y1 g1 n1)
    · rw [w1] at n1
      cases n1
    · rcases get f2 with ⟨z2, y2, g2⟩ | ⟨z2, w2⟩ | ⟨z2, w2⟩
      · rw [z1] at q
        exact absurd q.symm (far y2 g2 n2)
      · rw [w2] at n2
        cases n2
      · exact z1.trans z2.symm
  · rw [List.length_set, List.length_set]
    rcases get q with ⟨z, z0, q⟩ | ⟨rfl, rfl⟩ | ⟨rfl, rfl⟩
    · exact R.ok j u q
    · rfl
    · exact k
end
/-! ### the walk -/
/-! ### a dict that stays is seen again behind its walk -/
/-- the place n0 stood for the locked dict of place a -/
def unlH (a n0 : Nat) (G : Hz) : Option Hz := if G[a]? = some (.xt .lk) then (match G[n0]? with
    | some (.xt (.ld b kvs)) => if b = a then some ((G.set n0 (.xt .lk)).set a (.xt (.dt kvs))) else none
    | some (.xt (.lK b kvs)) => if b = a then some ((G.set n0 (.xt .lk)).set a (.dK kvs)) else none
    | _ => none) else none
theorem Rel.unl {K : PySem.W.Frag} {ι : Em} {G G' : Hz} {H : Hp} {a n0 : Nat} (R : Rel K ι G H) (h : unlH a n0 G = some G') : ∃ od w, H (ι a) = some (.frz od w) ∧ Rel K ι G' (upd H (ι a) w) ∧ G'.length = G.length := by
  unfold unlH at h
  split at h
  · rename_i e2
    split at h
    · rename_i b kvs e1
      split at h
      · rename_i hb
        subst hb
        cases h
        obtain ⟨⟨z1, z2⟩, z3⟩ := R.at_ _ _ e1
        rw [z1] at z3
        exact ⟨_, _, z3, R.unlock (o := .xt (.dt kvs)) e1 rfl e2 z1 z3 z2 rfl rfl rfl, by rw [List.length_set, List.length_set]⟩
      · cases h
    · rename_i b kvs e1
      split at h
      · rename_i hb
        subst hb
        cases h
        obtain ⟨⟨z1, z2⟩, z3⟩ := R.at_ _ _ e1
        rw [z1] at z3
        have k : okO G.length (.xt (.lK b kvs)) = true := R.ok _ _ e1
        exact ⟨_, _, z3, R.unlock (o := .dK kvs) e1 rfl e2 z1 z3 z2 rfl rfl (Bool.and_eq_true_iff.mp k).2, by rw [List.length_set, List.length_set]⟩
      · cases h
    · cases h
  · cases h
def isDtO : Option O → Bool
  | some (.xt (.dt _)) => true
  | some (.dK _) => true
  | _ => false
theorem Rel.isDt {K : PySem.W.Frag} {ι : Em} {G : Hz} {H : Hp} {a : Nat} (R : Rel K ι G H) (h : isDtO G[a]? = true) : a < G.length ∧ ∃ u, H (ι a) = some u ∧ Zl.isDt u = true := by
  unfold isDtO at h
  split at h
  · rename_i kvs e
    exact ⟨lt_of_get e, _, R.dtM e, rfl⟩
  · rename_i kvs e
    exact ⟨lt_of_get e, _, R.dkM e, rfl⟩
  · cases h
/-! ### for x, y in d.items() -/
end Zl

set_option maxHeartbeats 2000000
/-! Zl: dicts of ints by tuples of ints. -/
namespace Zl
open PySem PySem.Spec L2
open PyProof.Rows hiding St
def valI (kvs : List (List Int × Int)) (k : List Int) : Option Int := (kvs.find? fun p => decide (p.1 = k)).map Prod.snd
def putI (kvs : List (List Int × Int)) (k : List Int) (v : Int) : List (List Int × Int) := if kvs.any (fun p => decide (p.1 = k)) then kvs.map fun p => if p.1 = k then (p.1, v) else p else kvs ++ [(k, v)]
section
variable {X : Cx} {a b c o i e f : Expr} {pos : Pos} {K : PySem.W.Frag} {ι : Em} {G : Hz} {H : Hp}
end
end Zl

set_option maxHeartbeats 2000000
/-! Zl: min of a list of pairs of ints, no two of them alike. -/
namespace Zl
open PySem PySem.Spec L2
open PyProof.Rows hiding St
def ltPr (p q : Int × Int) : Bool := decide (p.1 < q.1) || (decide (p.1 = q.1) && decide (p.2 < q.2))
def minP (p : Int × Int) (ps : List (Int × Int)) : Int × Int := ps.foldl (fun a y => if ltPr y a = true then y else a) p
section
variable {X : Cx}
end
end Zl
namespace Zl
open PySem PySem.Spec L2
open PyProof.Rows hiding St
end Zl

set_option maxHeartbeats 2000000
/-! Zl: min of a list of pairs (a number, a list of numbers), no two of them alike. -/
namespace Zl
open PySem PySem.Spec L2
open PyProof.Rows hiding St
abbrev IL := Int × List Int
def prD3 (p : IL) : PyData := .tuple [.int p.1, .list (p.2.map .int)]
def ltIL (p q : IL) : Bool := W.dataLt (prD3 p) (prD3 q)
def minIL (p : IL) (ps : List IL) : IL := ps.foldl (fun a y => if ltIL y a = true then y else a) p
section
variable {X : Cx}
end
end Zl

/-! Zl: a walk over zip(a, b, c) of three lists. -/
namespace Zl
open PySem PySem.Spec L2
open PyProof.Rows hiding St
/-- the cells of such a zip, and the lists, lie apart -/
structure Apart3 (z TI TO i1 i2 i3 a b c : Nat) : Prop where
  nd : [z, TI, TO, i1, i2, i3].Nodup
  na : a ∉ [z, TI, TO, i1, i2, i3]
  nb : b ∉ [z, TI, TO, i1, i2, i3]
  nc : c ∉ [z, TI, TO, i1, i2, i3]
/-! ### in the layer -/
end Zl

set_option maxHeartbeats 2000000
/-! Zl: errors made as values; a raise in the body of a try; several clauses with a name. -/
namespace Zl
open PySem PySem.Spec L2
open PyProof.Rows hiding St
section
variable {X : Cx} {e : Expr} {te : TE} {pos p : Pos}
/-- what an expression makes is tracked, as an error that is known -/
theorem pe_made {e : Expr} {t : L2.St → Hp → XK → Prop} (hk : L2N.PMk X e t) : PE X e (fun σ H Q => t σ H fun cls d H1 => ∀ (a : Addr) (oe : Obj) (vs : Array Value), H1 a = none → oe.cls = cls → oe.dict = d → oe.data = .fields vs → vs[2]? = some .none → Q (.ref a) (upd H1 a (.frz oe (.ext (ExcP cls d a))))) := by
  refine ⟨fun pins s σ H Q I h => ?_⟩
  refine wpAny_mono (hk pins s σ H _ I h) (fun u s1 hu => ?_) fun _ _ z => z
  obtain ⟨a, oe, vs, s0, H1, cls, d, rfl, J, kp, hne, ha, hz, hd, _, na, os, ag, _, q⟩ := hu
  have c3 := hz.2.2 vs hd
  have new : ObjOk X.prog X.w (upd H1 a (.frz oe (.ext (ExcP cls d a)))) s1.heap a (.frz oe (.ext (ExcP cls d a))) := ⟨ha, excP_ok ⟨oe, vs, ha, hz.1, hz.2.1, hd, c3⟩⟩
  exact ⟨.ref a, _, J.call' (ch := []) os (Un.laidN kp hne na) (J.hok.laidN kp na new) ag (fun _ z => nomatch z), rfl, q a oe vs na hz.1 hz.2.1 hd c3⟩
/-- C(e), C a class without a field -/
theorem pmk_ownE {C : Addr} {bmB : List Value} {B newId initId : String} {x : Str} (F : ExcBaseFacts B newId initId bmB) (q : PySem.W.excIn X.K C bmB newId = true) (gC : X.mg x = some (.ref C)) (kC : PySem.W.keepIn X.K (.ref C) = true) (r : Raises X (.ref C)) (hg : Gl X x)
    (he : PE X e te) (hs : starEach [e] X.env = (false, eval e X.env) :: starEach [] X.env := by rfl) (hdb : (x == ("__debug__" : Str)) = false := by decide) : L2N.PMk X (.Call (.Name x p) [e] [] pos) (fun σ H Q => te σ H fun _ H1 => Q (.ref C) none H1) := by
  intro pins s σ H Q I h
  refine wpAny_Call_Name_kw (ld_glob I hg gC ?_ hdb)
  refine PySem.W.callWith_K (h₀ := X.base) I.ok.mod.kin kC ?_ hs (by rfl)
  rw [hs]
  show wpAny _ _ (spliced ((false, eval e X.env) :: backTo pos (starEach [] X.env))) _ _ s
  refine Calls.spliced_cons (thn (he.run pins s σ H _ I h) fun u s1 ⟨v, H1, I1, r1, q1⟩ => ?_)
  refine Calls.spliced_nil ⟨I1.kIn, ?_⟩
  show wpAny _ _ (call (.ref C) [u]) _ _ _
  obtain ⟨bm, N, nm, qn, bs, hdct, sn, sub, ab, col, dd, k0, k1, k2, k3, k5, mN, hC, hN, hni, T⟩ := exc_obj I1.kIn q
  refine wpAny_call_exc_subT F T hC hN hni (fun h' a hm => ?_) (by show 1 ≤ sizeLine; rw [sizeLine_eq]; omega)
  exact L2N.mk_of I1 hm r q1 (I1.hok.gone hm.new)
end
/-! ### in the layer -/
def fNewE (k : Nat) : F1 := fun _ G => alloc (.xt (.ex k)) G
def fNewP (k : Nat) : F1 := fun x G => (payC x).bind fun q => alloc (.xt (.ex (exC k q))) G
def gPayB (k : Nat) : F1 := fun x G => (payC x).map fun q => (exV (exC k q), G)
theorem okEx {G : Hz} {c : Nat} : okV (G ++ [O.xt (.ex c)]).length (.ref G.length) = true := by simp [okV]
section
variable {X : Cx} {e : Expr} {me : ME} {pos p : Pos}
theorem payF_no {k : Nat} (h : k < 16 ∨ 20 ≤ k) (h2 : k < 32) : payF k = none := by
  unfold payF
  rw [if_neg (by rw [Nat.mod_eq_of_lt h2]; omega)]
theorem se_newE {x : Str} {k : Nat} (hk : k < 16 ∨ 20 ≤ k) (h32 : k < 32) (q : PySem.W.excIn X.K (He.ga X.K (errC k)) He.veBase "ValueError.__new__" = true) (gC : X.mg x = some (.ref (He.ga X.K (errC k)))) (kC : PySem.W.keepIn X.K (.ref (He.ga X.K (errC k))) = true) (r : Raises X (.ref (He.ga X.K (errC k)))) (hg : Gl X x)
    (he : SE X e me) (hs : starEach [e] X.env = (false, eval e X.env) :: starEach [] X.env := by rfl) (hdb : (x == ("__debug__" : Str)) = false := by decide) : SE X (.Call (.Name x p) [e] [] pos) (eUn (fNewE k) me) := PE.imp (pe_made (pmk_ownE PySem.F.excBase_ValueError q gC kC r hg he hs hdb)) fun σ H Q h => by
  obtain ⟨ι, σ0, G, r1, G', rfl, so, R, ee, pz⟩ := h
  obtain ⟨⟨v, G1⟩, e1, ee⟩ := bnd ee
  cases ee
  refine liftE.into so R e1 fun ι1 H1 a1 R1 l1 k1 => ?_
  intro a oe vs na c1 c2 c3 c4
  have hpay : PayAt k oe.dict (upd H1 a (.frz oe (.ext (ExcP (.ref (He.ga X.K (errC k))) none a)))) := by
    unfold PayAt
    rw [payF_no hk h32]
    exact c2
  have R2 := (R1.addH (o := .frz oe (.ext (ExcP (.ref (He.ga X.K (errC k))) none a))) na).newE (k := k) (p := a) ⟨oe, _, vs, upd_same, c1, hpay, c3, c4⟩
  have z := pz (ext ι1 G1.length a) _ (a1.trans ext_agr l1) R2 (Nat.le_trans l1 (by simp)) okEx
  rw [show mv (ext ι1 G1.length a) (.ref G1.length) = .ref a from congrArg V.ref ext_self] at z
  exact z
theorem se_newP {x : Str} {C fI : Addr} {k j : Nat} {fd : FuncData} (h16 : 16 ≤ k) (h20 : k < 20) (T : PayC X.K k) (hC : He.ga X.K (errC k) = C)
    (F1 : FnOk X.prog X.w X.K X.mg X.base CX0 j fI fd ["self", fldL.getD (k - 16) ""] (spI C (fldL.getD (k - 16) ""))) (hfI : He.ma X.K C "__init__" = fI) (hr : Room (j + 1) X.A) (hb : Binds X.K fd ["self", fldL.getD (k - 16) ""] []) (hg : Gl X x) (hm : X.mg x = some (.ref C)) (ha : SE X e me)
    (hdb : (x == ("__debug__" : Str)) = false := by decide) (he : starEach [e] X.env = (false, eval e X.env) :: starEach [] X.env := by rfl) (hpl : (backTo pos (starEach [] X.env)).any (·.1) = false := by rfl) :
    SE X (.Call (.Name x p) [e] [] pos) (eUn (fNewP k) me) := by
  subst hC hfI
  refine PE.imp (pe_made (pmk_pay T.oex T.ini T.tI F1 hr hb hg hm ha hdb he hpl)) fun σ H Q h => ?_
  obtain ⟨ι, σ0, G, r1, G', rfl, so, R, ee, pz⟩ := h
  obtain ⟨⟨v, G1⟩, e1, ee⟩ := bnd ee
  obtain ⟨q, e2, ee⟩ := bnd ee
  cases ee
  refine liftE.into so R e1 fun ι1 H1 a1 R1 l1 k1 => ?_
  intro dd hd a oe vs na c1 c2 c3 c4
  rw [atom_mv (payC_atom e2)] at na ⊢
  have pf : payF (exC k q) = some (fldL.getD (k - 16) "", v) := by rw [payF_exC h16 h20, zag_payC e2]
  have R1' : Rel X.K ι1 G1 (upd H1 dd (.xd [(fldL.getD (k - 16) "", v)])) := R1.addH hd
  have hpay : PayAt (exC k q) oe.dict (upd (upd H1 dd (.xd [(fldL.getD (k - 16) "", v)])) a (.frz oe (.ext (ExcP (.ref (He.ga X.K (errC k))) (some dd) a)))) := by
    unfold PayAt
    rw [pf]
    refine ⟨dd, c2, ?_⟩
    rw [upd_ne (fun y => by rw [← y, upd_same] at na; cases na)]
    exact upd_same
  have R2 := (R1'.addH (o := .frz oe (.ext (ExcP (.ref (He.ga X.K (errC k))) (some dd) a))) na).newE (k := exC k q) (p := a) ⟨oe, _, vs, upd_same, by rw [errC_exC h20]; exact c1, hpay, c3, c4⟩
  have z := pz (ext ι1 G1.length a) _ (a1.trans ext_agr l1) R2 (Nat.le_trans l1 (by simp)) okEx
  rw [show mv (ext ι1 G1.length a) (.ref G1.length) = .ref a from congrArg V.ref ext_self] at z
  exact z
end
/-! ### raise in the body of a try -/
def sRaiseB (k i : Nat) (a : ME) : MS := sRetB i (eUn (gPayB k) a)
section
variable {X : Cx} {W : WX} {i : Nat} {e : Expr} {me : ME} {p pos pos' : Pos}
theorem sb_raiseP {x : Str} {C fI : Addr} {k j : Nat} {fd : FuncData} (h16 : 16 ≤ k) (h20 : k < 20) (tk : L2N.Takes X W) (hW : ∀ cls d σ H, W cls d (σ.set i none) H → W cls d σ H) (T : PayC X.K k) (hC : He.ga X.K (errC k) = C)
    (F1 : FnOk X.prog X.w X.K X.mg X.base CX0 j fI fd ["self", fldL.getD (k - 16) ""] (spI C (fldL.getD (k - 16) ""))) (hfI : He.ma X.K C "__init__" = fI) (hr : Room (j + 1) X.A) (hb : Binds X.K fd ["self", fldL.getD (k - 16) ""] []) (hg : Gl X x) (hm : X.mg x = some (.ref C)) (ha : SE X e me)
    (hdb : (x == ("__debug__" : Str)) = false := by decide) (hc : X.calm = true := by rfl) (he : starEach [e] X.env = (false, eval e X.env) :: starEach [] X.env := by rfl) (hpl : (backTo pos (starEach [] X.env)).any (·.1) = false := by rfl) :
    SB X W i (.Raise (some (.Call (.Name x p) [e] [] pos)) none pos') (sRaiseB k i me) := by
  subst hC hfI
  refine PS.imp (L2N.ps_raise hc tk (pmk_pay T.oex T.ini T.tI F1 hr hb hg hm ha hdb he hpl)) fun D σ H h => ?_
  obtain ⟨ι, σ0, G, r1, rfl, so, R, ee, pp⟩ := h
  obtain ⟨⟨v', G1⟩, e0, ee⟩ := bnd ee
  obtain ⟨⟨v, G2⟩, e1, e0⟩ := bnd e0
  obtain ⟨q, e2, e0⟩ := Option.map_eq_some_iff.mp e0
  cases e0
  dsimp only at ee
  rw [if_neg (by rw [exN_exV]; intro z; cases z)] at ee
  split at ee
  · rename_i hi
    cases ee
    refine liftE.into so R e1 fun ι1 H1 a1 R1 l1 k1 => ?_
    have z := exB_at hW hi (exN_exV (exC k q)) so a1 (pp ι1 H1 a1 R1 l1 (okS_set (okS_mono l1 so) (atom_ok rfl _)))
    unfold wE eE at z
    rw [payF_exC h16 h20] at z
    dsimp only at z
    rw [errC_exC h20, zag_payC e2] at z
    rw [atom_mv (payC_atom e2)]
    exact z
  · cases ee
end
/-! ### several clauses, all with the one name -/
def wQs (K : PySem.W.Frag) (i : Nat) (D : Ends) : List (Value × (Addr → TS)) → WX
  | [] => fun _ _ _ _ => False
  | (c, ts) :: l => fun cls d σ H => ∃ b, PySem.W.exmOne K cls c = some b ∧ (b = true → ∀ (a : Addr) (oe : Obj) (vs : Array Value), H a = none → oe.cls = cls → oe.dict = d → oe.data = .fields vs → vs[2]? = some .none →
      ts a ⟨fun σ' H' => D.nx (σ'.set i none) H', D.rt, fun σ' H' => D.bk (σ'.set i none) H', fun σ' H' => D.ct (σ'.set i none) H'⟩ (σ.set i (some (.ref a))) (upd H a (.frz oe (.ext (ExcP cls d a))))) ∧ (b = false → wQs K i D l cls d σ H)
theorem wQs_set {K : PySem.W.Frag} {i : Nat} {D : Ends} : ∀ (l : List (Value × (Addr → TS))) (cls : Value) (d : Option Addr) (σ : L2.St) (H : Hp), wQs K i D l cls d (σ.set i none) H → wQs K i D l cls d σ H
  | [], _, _, _, _, h => h
  | (c, ts) :: l, cls, d, σ, H, ⟨b, h1, h2, h3⟩ => ⟨b, h1, fun hb a oe vs na c1 c2 c3 c4 => by
      have z := h2 hb a oe vs na c1 c2 c3 c4
      rw [List.set_set] at z
      exact z, fun hb => wQs_set l cls d σ H (h3 hb)⟩
inductive HdsQ (X : Cx) (n : Str) : List ExceptHandler → List (Value × (Addr → TS)) → Prop
  | nil : HdsQ X n [] []
  | cons {x : Str} {c : Value} {ts : Addr → TS} {b₀ : Stmt} {suite : List Stmt} {np pos' : Pos} {hds : List ExceptHandler} {l : List (Value × (Addr → TS))} (hg : Gl X x) (hdb : (x == ("__debug__" : Str)) = false) (hm : X.mg x = some c)
      (hsu : ∀ a, PSs (cxQ X a) (b₀ :: suite) (ts a)) (r : HdsQ X n hds l) : HdsQ X n (.ExceptHandler (some (.Name x np)) (some n) (b₀ :: suite) pos' :: hds) ((c, ts) :: l)
section
variable {X : Cx} {pins : List (Addr × Obj)} {σ : L2.St} {H : Hp} {s : Shared}
variable {x n : Str} {i : Nat} {body : List Stmt} {h₀ : ExceptHandler} {hds : List ExceptHandler} {l : List (Value × (Addr → TS))} {pos : Pos} {tb : WX → TS} {D : Ends}
theorem catchQs {xe' : Value → Shared → Prop} {u : Value} {s' : Shared} (ok : X.Ok) (hs : X.stack = X.env :: X.outer) (hf : X.env.frame = some X.env.locals) (hex : X.ex = []) (hN : X.N.Nodup) (hi : X.N[i]? = some n) (hln : X.env.kindOf n = some .local)
    (hh : HdsQ X n hds l) (xx : L2N.XE (X.tr (X.pn ++ pins) xe') (wQs X.K i D l) u s') :
    wpAny (model X.prog X.w) X.A (noteFrame u X.env) (fun _ s2 => wpAny (model X.prog X.w) X.A (setFlight u none) (fun _ s3 => wpAny (model X.prog X.w) X.A (handleBy u X.env hds) (L2.SP X pins D) X.xe s3) X.xe s2) X.xe s' := by
  have hfr : X.A.frames = some (X.env :: X.outer) := ok.frames.trans (congrArg some hs)
  obtain ⟨a, B, s0, pins0, τ, H0, cls, d, rfl, J1, nb, up, sky, na, os, ag, w⟩ := xx
  have J := J1.ofTry ok
  have nb : ∀ b o, s0.heap.get? b = some o → b ∉ frs X.stack → B.get? b = some o := nb
  have sky : Sky B (X.env :: X.outer) a (L2N.Zn cls d) X.env.locals s'.heap := hs ▸ sky
  refine L2N.Sky.land L2N.Zn.steady hfr hf sky fun g gl gu => ?_
  have up2 := up.trans gu
  have Jg : Inv X pins τ H0 { s' with heap := g } := J.landed nb gl.1 up2 os ag
  obtain ⟨o, vs, go, gz, gd⟩ := gl.there
  have nf := exc_no_frame gl.2.2.1 go gd
  have nL : a ≠ X.env.locals := fun z => nf (List.mem_filterMap.mpr ⟨X.env, List.mem_cons_self, hf.trans (congrArg some z.symm)⟩)
  have nF : a ∉ X.fs := fun q => by
    obtain ⟨v, q1, q2⟩ := List.mem_filterMap.mp q
    exact nf (List.mem_filterMap.mpr ⟨v, List.mem_cons_of_mem _ q1, q2⟩)
  have out : ∀ q, s0.heap.get? a = some q → False := fun q e => by
    have z := nb a q e (by rw [hs]; exact nf)
    rw [gl.2.1] at z
    cases z
  have n0 : X.s_0.heap.get? a = none := by
    cases q : X.s_0.heap.get? a with
    | none => rfl
    | some y =>
      obtain ⟨y', q2⟩ := J.base.there a y q (by rw [hex]; exact List.not_mem_nil)
      exact (out y' q2).elim
  have nC : ∀ y k, X.env.cells.lookup y = some k → k ≠ a := fun y k e z => by
    obtain ⟨v, q, e1, _⟩ := J.cell y k e
    rw [z] at e1
    exact out q e1
  have nP : ∀ p ∈ X.pn ++ pins, p.1 ≠ a := fun p hp z => by
    have e1 := (J.pin p hp).1
    rw [z] at e1
    exact out _ e1
  have ty : PySem.W.Looks (model X.prog X.w) g (typeOf (.ref a)) cls := fun _ _ _ _ k q => wpAny_typeOf_ref (k _ _ go) (by rw [gz.1]; exact q)
  have Sg := Jg.suite go gd na nL nF
  have walk : ∀ {hds' : List ExceptHandler} {l' : List (Value × (Addr → TS))}, HdsQ X n hds' l' → wQs X.K i D l' cls d τ H0 →
      wpAny (model X.prog X.w) X.A (handleBy (.ref a) X.env hds') (L2.SP X pins D) X.xe { s' with heap := g } := by
    intro hds' l' hk
    induction hk with
    | nil => exact fun w => w.elim
    | @cons x c ts b₀ suite np pos' hds2 l2 hg hdb hm hsu r ih =>
      intro w
      obtain ⟨b, em, hyes, hno⟩ := w
      refine wpAny_handleBy_cons (codeAny_handlers_test ?_) fun z => nomatch z
      have look := PySem.W.exm_one (M := model X.prog X.w) Jg.kIn ty em
      refine ld_glob Sg hg hm (look.here ?_) hdb
      cases b with
      | false =>
        show wpAny _ X.A (handleBy (.ref a) X.env hds2) _ _ _
        exact ih (hno rfl)
      | true =>
        refine codeAny_handlers_suite_as (HandSPX.lands_againZ gl fun g2 fl2 gu2 => ?_)
        have J2 : Inv X pins τ H0 { s' with heap := g2 } := J.landed nb fl2.1 (up2.trans gu2) os ag
        obtain ⟨o2, vs2, go2, gz2, gd2⟩ := fl2.there
        have tr := inv_track J2 na n0 (Ne.symm nL) nC nP (φ := .frz o2 (.ext (ExcP cls d a))) ⟨go2, excP_ok (cls := cls) ⟨o2, vs2, go2, gz2.1, gz2.2.1, gd2, gz2.2.2 vs2 gd2⟩⟩
        refine store_ok (X := cxQ X a) (inv_toQ tr a) hN hi (.inl hln) (v := .ref a) rfl (fun s5 J5 => ?_) (.inr hln)
        refine wpAny_mono ((hsu a).run pins s5 _ _ _ J5 (hyes rfl a o2 vs2 na gz2.1 gz2.2.1 gd2 (gz2.2.2 vs2 gd2))) (fun fl s6 sp => ?_) fun _ _ z => nomatch z
        cases fl with
        | next =>
          obtain ⟨τ6, H6, J6, q⟩ := sp
          exact gone_ok (inv_unQ J6 ok) hN hi hln fun s7 J7 => ⟨_, _, J7, q⟩
        | ret w =>
          obtain ⟨v6, τ6, H6, J6, r6, q⟩ := sp
          exact gone_ok (inv_unQ J6 ok) hN hi hln fun s7 J7 => ⟨_, _, _, J7, r6, q⟩
        | brk =>
          obtain ⟨τ6, H6, J6, q⟩ := sp
          exact gone_ok (inv_unQ J6 ok) hN hi hln fun s7 J7 => ⟨_, _, J7, q⟩
        | cont =>
          obtain ⟨τ6, H6, J6, q⟩ := sp
          exact gone_ok (inv_unQ J6 ok) hN hi hln fun s7 J7 => ⟨_, _, J7, q⟩
  exact walk hh w
theorem ps_tryQs (hs : X.stack = X.env :: X.outer) (hf : X.env.frame = some X.env.locals) (hex : X.ex = []) (hN : X.N.Nodup) (hi : X.N[i]? = some n) (hln : X.env.kindOf n = some .local)
    (hb : ∀ (W : WX) (pn : List (Addr × Obj)) (xe : Value → Shared → Prop), (∀ cls d σ H, W cls d (σ.set i none) H → W cls d σ H) → L2N.Takes (X.tr pn xe) W → PassesOwn (model X.prog X.w) X.A X.env xe → PSs (X.tr pn xe) body (tb W)) (ls : Ends → List (Value × (Addr → TS))) (hh : ∀ D, HdsQ X n (h₀ :: hds) (ls D)) :
    PS X (.Try body (h₀ :: hds) [] [] pos) (fun D σ H => tb (wQs X.K i D (ls D)) D σ H) := by
  refine ⟨fun pins s σ H D I h => wpAny_Try_except ?_⟩
  have go := (hb (wQs X.K i D (ls D)) (X.pn ++ pins) _ (wQs_set (ls D)) (fun u s' xx => catchQs I.ok hs hf hex hN hi hln (hh D) xx) PassesOwn.looking).run [] s σ H D (I.toTry _) h
  refine wpAny_mono go (fun f s1 sp => ?_) fun _ _ z => z
  cases f with
  | next =>
    obtain ⟨τ, H1, J, q⟩ := sp
    exact wpAny_execs_nil ⟨τ, H1, J.ofTry I.ok, q⟩
  | ret w =>
    obtain ⟨v, τ, H1, J, r, q⟩ := sp
    exact ⟨v, τ, H1, J.ofTry I.ok, r, q⟩
  | brk =>
    obtain ⟨τ, H1, J, q⟩ := sp
    exact ⟨τ, H1, J.ofTry I.ok, q⟩
  | cont =>
    obtain ⟨τ, H1, J, q⟩ := sp
    exact ⟨τ, H1, J.ofTry I.ok, q⟩
end
/-- the suite of the first clause whose class the error has -/
def pickL : List (Nat × MS) → Nat → MS
  | [], _ => fun _ _ => none
  | (j, m) :: l, c => if c = j then m else pickL l c
def sPick (i : Nat) (l : List (Nat × MS)) : MS := fun σ G => match σ[i]? with
  | some (some (.ref b)) => match G[b]? with
    | some (.xt (.ex c)) => pickL l (c % 32) σ G
    | _ => none
  | _ => none
inductive HdsZ (X : Cx) (n : Str) (i : Nat) : List ExceptHandler → List (Nat × MS) → Prop
  | nil : HdsZ X n i [] []
  | cons {x : Str} {j : Nat} {m : MS} {b₀ : Stmt} {suite : List Stmt} {np pos' : Pos} {hds : List ExceptHandler} {l : List (Nat × MS)} (hg : Gl X x) (hdb : (x == ("__debug__" : Str)) = false) (hm : X.mg x = some (.ref (He.ga X.K (errC j))))
      (hsu : ∀ a, SSsA (cxQ X a) a i (b₀ :: suite) m) (r : HdsZ X n i hds l) : HdsZ X n i (.ExceptHandler (some (.Name x np)) (some n) (b₀ :: suite) pos' :: hds) ((j, m) :: l)
def tsZ (K : PySem.W.Frag) (i : Nat) (l : List (Nat × MS)) : List (Value × (Addr → TS)) := l.map fun p => (.ref (He.ga K (errC p.1)), fun a D σ H => σ[i]? = some (some (V.ref a)) ∧ liftS K p.2 D σ H)
theorem HdsZ.toQ {X : Cx} {n : Str} {i : Nat} {hds : List ExceptHandler} {l : List (Nat × MS)} (h : HdsZ X n i hds l) : HdsQ X n hds (tsZ X.K i l) := by
  induction h with
  | nil => exact .nil
  | cons hg hdb hm hsu r ih => exact .cons hg hdb hm hsu ih
theorem s_tryM {X : Cx} {n : Str} {i : Nat} {body : List Stmt} {h₀ : ExceptHandler} {hds : List ExceptHandler} {l : List (Nat × MS)} {pos : Pos} {ok : Nat → Bool} {mb : MS} (hs : X.stack = X.env :: X.outer) (hf : X.env.frame = some X.env.locals) (hex : X.ex = []) (hN : X.N.Nodup) (hi : X.N[i]? = some n) (hln : X.env.kindOf n = some .local)
    (hok : ∀ k, ok k = true → ∀ p ∈ l, PySem.W.exmOne X.K (.ref (He.ga X.K (errC k))) (.ref (He.ga X.K (errC p.1))) = some (decide (k % 32 = p.1)))
    (hb : ∀ (W : WX) (pn : List (Addr × Obj)) (xe : Value → Shared → Prop), (∀ cls d σ H, W cls d (σ.set i none) H → W cls d σ H) → L2N.Takes (X.tr pn xe) W → PassesOwn (model X.prog X.w) X.A X.env xe → SBs (X.tr pn xe) W i body mb) (hh : HdsZ X n i (h₀ :: hds) l) :
    SS X (.Try body (h₀ :: hds) [] [] pos) (sTry i ok mb (sPick i l)) := PS.imp (ps_tryQs (tb := fun W D σ H => liftS X.K mb (exB X.K W i D) σ H) hs hf hex hN hi hln hb (fun _ => tsZ X.K i l) (fun _ => hh.toQ)) fun D σ H h => by
  obtain ⟨ι, σ0, G, r, rfl, so, R, ee, p⟩ := h
  obtain ⟨r1, e1, ee⟩ := bnd ee
  refine ⟨ι, σ0, G, r1, rfl, so, R, e1, ?_⟩
  cases r1 with
  | nx σ1 G1 => cases ee; exact p
  | rt v G1 => cases ee; exact p
  | ct σ1 G1 => cases ee
  | bk σ1 G1 =>
    dsimp only at ee
    cases q1 : σ1[i]? with
    | none => rw [q1] at ee; cases ee
    | some o => cases o with
      | none => rw [q1] at ee; cases ee
      | some v =>
        rw [q1] at ee
        dsimp only at ee
        cases q2 : exN v with
        | none => rw [q2] at ee; cases ee
        | some k =>
          rw [q2] at ee
          dsimp only at ee
          split at ee
          · rename_i hk
            obtain ⟨r2, e2, ee⟩ := bnd ee
            have e2 : sPick i l (σ1.set i (some (.ref G1.length))) (G1 ++ [.xt (.ex k)]) = some r2 := e2
            have lti := lt_of_get q1
            have e2 : pickL l (k % 32) (σ1.set i (some (.ref G1.length))) (G1 ++ [.xt (.ex k)]) = some r2 := by
              unfold sPick at e2
              rw [List.getElem?_set_self lti] at e2
              dsimp only at e2
              rw [List.getElem?_append_right (Nat.le_refl _), Nat.sub_self] at e2
              exact e2
            intro ι1 H1 a1 R1 l1 k1 j u hu hj
            rw [ms_get q1] at hu
            have hu : mv ι1 v = u := Option.some.inj (Option.some.inj hu)
            rw [← hu, exN_mv, q2] at hj
            cases hj
            refine wE_of fun d H2 hn hsm hpay hcase => ?_
            have one : ∀ (m : MS), m (σ1.set i (some (.ref G1.length))) (G1 ++ [.xt (.ex k)]) = some r2 → ∀ (a : Addr) (oe : Obj) (vs : Array Value), H2 a = none → oe.cls = .ref (He.ga X.K (errC k)) → oe.dict = d → oe.data = .fields vs → vs[2]? = some .none →
                (fun (a : Addr) (D : Ends) (σ : L2.St) (H : Hp) => σ[i]? = some (some (V.ref a)) ∧ liftS X.K m D σ H) a ⟨fun σ' H' => D.nx (σ'.set i none) H', D.rt, fun σ' H' => D.bk (σ'.set i none) H', fun σ' H' => D.ct (σ'.set i none) H'⟩ (((ms ι1 σ1).set i none).set i (some (.ref a))) (upd H2 a (.frz oe (.ext (ExcP (.ref (He.ga X.K (errC k))) d a)))) := fun m e2 a oe vs na c1 c2 c3 c4 => by
              have ag : Agr G1.length ι1 (ext ι1 G1.length a) := ext_agr
              have R1' : Rel X.K ι1 G1 H2 := by
                rcases hcase with rfl | ⟨dd, o, hd, rfl⟩
                · exact R1
                · exact R1.addH hd
              have hpay2 : PayAt k oe.dict (upd H2 a (.frz oe (.ext (ExcP (.ref (He.ga X.K (errC k))) d a)))) := by
                rw [c2]
                exact hpay.to fun dd fs hw => by
                  rw [upd_ne (ne_of_none hw na)]
                  exact hw
              have R2 := (R1'.addH (o := .frz oe (.ext (ExcP (.ref (He.ga X.K (errC k))) d a))) na).newE (k := k) (p := a) ⟨oe, _, vs, upd_same, c1, hpay2, c3, c4⟩
              have so2 : okS (G1 ++ [O.xt (.ex k)]).length (σ1.set i (some (.ref G1.length))) = true := okS_set (okS_mono (by simp) k1) (by simp [okV])
              have es : ((ms ι1 σ1).set i none).set i (some (V.ref a)) = ms (ext ι1 G1.length a) (σ1.set i (some (.ref G1.length))) := by
                rw [List.set_set, ms_set, ms_agr ag k1]
                show _ = (ms (ext ι1 G1.length a) σ1).set i (some (V.ref (ext ι1 G1.length a G1.length)))
                rw [ext_self]
              have ag2 : Agr G.length ι (ext ι1 G1.length a) := a1.trans ag l1
              have ll : G.length ≤ (G1 ++ [O.xt (.ex k)]).length := Nat.le_trans l1 (by simp)
              refine ⟨?_, ?_⟩
              · rw [List.set_set]
                refine List.getElem?_set_self ?_
                rw [ms_length]
                exact lti
              rw [es]
              refine liftS.into so2 R2 e2 ?_
              cases r2 with
              | nx σ2 G2 =>
                cases ee
                intro ι3 H3 a3 R3 l3 k3
                have z := p ι3 H3 (ag2.trans a3 ll) R3 (Nat.le_trans ll l3) (okS_none k3)
                rw [ms_none] at z
                exact z
              | rt v2 G2 =>
                cases ee
                exact fun ι3 H3 a3 R3 l3 k3 => p ι3 H3 (ag2.trans a3 ll) R3 (Nat.le_trans ll l3) k3
              | bk σ2 G2 =>
                cases ee
                intro ι3 H3 a3 R3 l3 k3
                have z := p ι3 H3 (ag2.trans a3 ll) R3 (Nat.le_trans ll l3) (okS_none k3)
                rw [ms_none] at z
                exact z
              | ct σ2 G2 =>
                cases ee
                intro ι3 H3 a3 R3 l3 k3
                have z := p ι3 H3 (ag2.trans a3 ll) R3 (Nat.le_trans ll l3) (okS_none k3)
                rw [ms_none] at z
                exact z
            have key : ∀ l' : List (Nat × MS), (∀ p ∈ l', PySem.W.exmOne X.K (.ref (He.ga X.K (errC k))) (.ref (He.ga X.K (errC p.1))) = some (decide (k % 32 = p.1))) → pickL l' (k % 32) (σ1.set i (some (.ref G1.length))) (G1 ++ [.xt (.ex k)]) = some r2 → wQs X.K i D (tsZ X.K i l') (.ref (He.ga X.K (errC k))) d ((ms ι1 σ1).set i none) H2 := by
              intro l'
              induction l' with
              | nil => intro _ e2; cases e2
              | cons q l' ih =>
                obtain ⟨j, m⟩ := q
                intro hokk e2
                have e2 : (if k % 32 = j then m else pickL l' (k % 32)) (σ1.set i (some (.ref G1.length))) (G1 ++ [.xt (.ex k)]) = some r2 := e2
                refine ⟨decide (k % 32 = j), hokk (j, m) (List.mem_cons_self ..), fun hb => ?_, fun hb => ?_⟩
                · rw [if_pos (of_decide_eq_true hb)] at e2
                  exact one m e2
                · rw [if_neg (of_decide_eq_false hb)] at e2
                  exact ih (fun p hp => hokk p (List.mem_cons_of_mem _ hp)) e2
            exact key l (hok k hk) e2
          · cases ee
theorem ExcT.many {K : PySem.W.Frag} {mg : Str → Option Value} {rs : List Nat} (T : ExcT K mg rs) {k j : Nat} (h : k % 32 ∈ rs) (g1 : 16 ≤ k % 32) (g2 : k % 32 < 20) (h1 : 16 ≤ j) (h2 : j < 20) : PySem.W.exmOne K (.ref (He.ga K (errC k))) (.ref (He.ga K (errC j))) = some (decide (k % 32 = j)) := by
  have z := T.exm _ h g1 g2 (j - 16) (by omega)
  rw [show 16 + (j - 16) = j by omega, errC_mod] at z
  exact z
theorem ExcT.manyOk {K : PySem.W.Frag} {mg : Str → Option Value} {rs : List Nat} (T : ExcT K mg rs) (js : List Nat) (hj : ∀ j ∈ js, j ∈ rs ∧ 16 ≤ j ∧ j < 20) {l : List (Nat × MS)} (hl : l.map Prod.fst = js) : ∀ k, decide (k % 32 ∈ js) = true → ∀ p ∈ l, PySem.W.exmOne K (.ref (He.ga K (errC k))) (.ref (He.ga K (errC p.1))) = some (decide (k % 32 = p.1)) := fun k hk p hp => by
  obtain ⟨h1, h2, h3⟩ := hj _ (of_decide_eq_true hk)
  have hp' : p.1 ∈ js := by rw [← hl]; exact List.mem_map.mpr ⟨p, hp, rfl⟩
  obtain ⟨_, g2, g3⟩ := hj _ hp'
  exact T.many h1 h2 h3 g2 g3
/-! ### a text so many times -/
instance mulOkD (x : Str) (n : Int) : Decidable (MulOk x n) := by unfold MulOk; infer_instance
def bMulS : F2 := fun x y G => match x, y with
  | .str s, .int n => if MulOk s n then some (.str (Txt.mul s n), G) else none
  | _, _ => none
theorem op_mulS {X : Cx} : OpR X (binaryOp .Mult) (fun x y H Q => ∃ s n, x = V.str s ∧ y = V.int n ∧ MulOk s n ∧ Q (.str (Txt.mul s n)) H) := by
  intro pins s σ H x y v u Q I rx ry h
  obtain ⟨z, n, rfl, rfl, ok, q⟩ := h
  obtain ⟨t, rfl⟩ := rx
  obtain ⟨t2, rfl⟩ := ry
  exact PySem.SB.mul ok fun t' k => ⟨.str (Txt.mul z n), H, I.tok k, ⟨t', rfl⟩, q⟩
theorem z_mulS {X : Cx} : OpZ X (binaryOp .Mult) bMulS := by
  refine ⟨_, op_mulS, fun ι G H x y v G' Q R kx ky e p => ?_⟩
  unfold bMulS at e
  split at e
  · split at e
    · rename_i ok
      cases e
      exact ⟨_, _, rfl, rfl, ok, p.same R rfl⟩
    · cases e
  · cases e
end Zl

/-! Zl, part 9: lemmas for plain reckoning with the meanings. -/
namespace Zl
open PySem L2

/-- not by rfl: the kernel is to be told it -/
theorem nr {α : Sort u} {a b : α} (h : a = b) : a = b := h
@[simp] theorem bsome {α β : Type} (a : α) (f : α → Option β) : (some a).bind f = f a := nr rfl
@[simp] theorem bnone {α β : Type} (f : α → Option β) : (none : Option α).bind f = none := nr rfl
section
variable {σ : St} {G : Hz} {α β : Type}
def getS : Option (Option V) → Option V
  | some (some v) => some v
  | _ => none
@[simp] theorem getS_some (v : V) : getS (some (some v)) = some v := nr rfl
def asBl : V → Hz → Option (Bool × Hz)
  | .bl k, G => some (k, G)
  | _, _ => none
@[simp] theorem asBl_bl (k : Bool) : asBl (.bl k) G = some (k, G) := nr rfl
def asInt : V → Hz → Option (Option Int × Hz)
  | .int i, G => some (some i, G)
  | _, _ => none
@[simp] theorem asInt_int (i : Int) : asInt (.int i) G = some (some i, G) := nr rfl
def varK (H : Hz) : V → Option (V × Hz) := fun v => some (v, H)
@[simp] theorem varK_ev (H : Hz) (v : V) : varK H v = some (v, H) := nr rfl
@[simp] theorem eVar_ev (i : Nat) : eVar i σ G = (getS σ[i]?).bind (varK G) := by
  show (match σ[i]? with | some (some v) => some (v, G) | _ => none) = _
  cases σ[i]? with
  | none => rfl
  | some o => cases o <;> rfl
@[simp] theorem eC_ev (v : V) : eC v σ G = some (v, G) := nr rfl
def binB (f : F2) (x : V) : V × Hz → Option (V × Hz) := fun p => f x p.1 p.2
@[simp] theorem binB_ev (f : F2) (x : V) (y : V) (H : Hz) : binB f x (y, H) = f x y H := nr rfl
def binA (f : F2) (b : ME) (σ : St) : V × Hz → Option (V × Hz) := fun p => (b σ p.2).bind (binB f p.1)
@[simp] theorem binA_ev (f : F2) (b : ME) (σ : St) (x : V) (H : Hz) : binA f b σ (x, H) = (b σ H).bind (binB f x) := nr rfl
@[simp] theorem eBin_ev (f : F2) (a b : ME) : eBin f a b σ G = (a σ G).bind (binA f b σ) := nr rfl
def unA (f : F1) : V × Hz → Option (V × Hz) := fun p => f p.1 p.2
@[simp] theorem unA_ev (f : F1) (x : V) (H : Hz) : unA f (x, H) = f x H := nr rfl
@[simp] theorem eUn_ev (f : F1) (a : ME) : eUn f a σ G = (a σ G).bind (unA f) := nr rfl
def tstA  : V × Hz → Option (Bool × Hz) := fun p => asBl p.1 p.2
@[simp] theorem tstA_ev  (x : V) (H : Hz) : tstA  (x, H) = asBl x H := nr rfl
@[simp] theorem tE_ev (a : ME) : tE a σ G = (a σ G).bind tstA := by
  unfold tE
  congr 1
  funext p
  rcases p with ⟨v, H⟩
  cases v <;> first | rfl | (rename_i k; cases k <;> rfl)
def andB (b : ME) (σ : St) : Bool × Hz → Option (V × Hz) := fun p => if p.1 = true then b σ p.2 else some (.bl false, p.2)
@[simp] theorem andB_ev (b : ME) (σ : St) (k : Bool) (H : Hz) : andB b σ (k, H) = if k = true then b σ H else some (.bl false, H) := nr rfl
def andA (b : ME) (σ : St) : V × Hz → Option (V × Hz) := fun p => (asBl p.1 p.2).bind (andB b σ)
@[simp] theorem andA_ev (b : ME) (σ : St) (x : V) (H : Hz) : andA b σ (x, H) = (asBl x H).bind (andB b σ) := nr rfl
@[simp] theorem eAnd_ev (a b : ME) : eAnd a b σ G = (a σ G).bind (andA b σ) := by
  unfold eAnd
  congr 1
  funext p
  rcases p with ⟨v, H⟩
  cases v <;> first | rfl | (rename_i k; cases k <;> rfl)
def orB (b : ME) (σ : St) : Bool × Hz → Option (V × Hz) := fun p => if p.1 = true then some (.bl true, p.2) else b σ p.2
@[simp] theorem orB_ev (b : ME) (σ : St) (k : Bool) (H : Hz) : orB b σ (k, H) = if k = true then some (.bl true, H) else b σ H := nr rfl
def orA (b : ME) (σ : St) : V × Hz → Option (V × Hz) := fun p => (asBl p.1 p.2).bind (orB b σ)
@[simp] theorem orA_ev (b : ME) (σ : St) (x : V) (H : Hz) : orA b σ (x, H) = (asBl x H).bind (orB b σ) := nr rfl
@[simp] theorem eOr_ev (a b : ME) : eOr a b σ G = (a σ G).bind (orA b σ) := by
  unfold eOr
  congr 1
  funext p
  rcases p with ⟨v, H⟩
  cases v <;> first | rfl | (rename_i k; cases k <;> rfl)
def notB  : Bool × Hz → Option (V × Hz) := fun p => some (V.bl (!p.1), p.2)
@[simp] theorem notB_ev  (k : Bool) (H : Hz) : notB  (k, H) = some (V.bl (!k), H) := nr rfl
def notA  : V × Hz → Option (V × Hz) := fun p => (asBl p.1 p.2).bind notB
@[simp] theorem notA_ev  (x : V) (H : Hz) : notA  (x, H) = (asBl x H).bind notB := nr rfl
@[simp] theorem eNot_ev (a : ME) : eNot a σ G = (a σ G).bind notA := by
  unfold eNot
  congr 1
  funext p
  rcases p with ⟨v, H⟩
  cases v <;> first | rfl | (rename_i k; cases k <;> rfl)
def ifA (a b : ME) (σ : St) : Bool × Hz → Option (V × Hz) := fun p => if p.1 = true then a σ p.2 else b σ p.2
@[simp] theorem ifA_ev (a b : ME) (σ : St) (k : Bool) (H : Hz) : ifA a b σ (k, H) = if k = true then a σ H else b σ H := nr rfl
@[simp] theorem eIf_ev (t : MT) (a b : ME) : eIf t a b σ G = (t σ G).bind (ifA a b σ) := nr rfl
def chD (g : F2) (y : V) : V × Hz → Option (V × Hz) := fun p => g y p.1 p.2
@[simp] theorem chD_ev (g : F2) (y : V) (z : V) (H : Hz) : chD g y (z, H) = g y z H := nr rfl
def chC (g : F2) (c : ME) (σ : St) (y : V) : Bool × Hz → Option (V × Hz) := fun p => if p.1 = true then (c σ p.2).bind (chD g y) else some (.bl false, p.2)
@[simp] theorem chC_ev (g : F2) (c : ME) (σ : St) (y : V) (k : Bool) (H : Hz) : chC g c σ y (k, H) = if k = true then (c σ H).bind (chD g y) else some (.bl false, H) := nr rfl
def chR (g : F2) (c : ME) (σ : St) (y : V) : V × Hz → Option (V × Hz) := fun p => (asBl p.1 p.2).bind (chC g c σ y)
@[simp] theorem chR_ev (g : F2) (c : ME) (σ : St) (y : V) (r : V) (H : Hz) : chR g c σ y (r, H) = (asBl r H).bind (chC g c σ y) := nr rfl
def chB (f g : F2) (c : ME) (σ : St) (x : V) : V × Hz → Option (V × Hz) := fun p => (f x p.1 p.2).bind (chR g c σ p.1)
@[simp] theorem chB_ev (f g : F2) (c : ME) (σ : St) (x : V) (y : V) (H : Hz) : chB f g c σ x (y, H) = (f x y H).bind (chR g c σ y) := nr rfl
def chA (f g : F2) (b c : ME) (σ : St) : V × Hz → Option (V × Hz) := fun p => (b σ p.2).bind (chB f g c σ p.1)
@[simp] theorem chA_ev (f g : F2) (b c : ME) (σ : St) (x : V) (H : Hz) : chA f g b c σ (x, H) = (b σ H).bind (chB f g c σ x) := nr rfl
@[simp] theorem eChain_ev (f g : F2) (a b c : ME) : eChain f g a b c σ G = (a σ G).bind (chA f g b c σ) := by
  unfold eChain
  congr 1
  funext p
  show _ = (b σ p.2).bind (chB f g c σ p.1)
  congr 1
  funext q
  show _ = (f p.1 q.1 q.2).bind (chR g c σ q.1)
  congr 1
  funext r
  rcases r with ⟨v, G'⟩
  cases v <;> try rfl
  rename_i k
  cases k <;> rfl
@[simp] theorem aNil_ev : aNil σ G = some ([], G) := nr rfl
def consB (x : V) : List V × Hz → Option (List V × Hz) := fun p => some (x :: p.1, p.2)
@[simp] theorem consB_ev (x : V) (xs : List V) (H : Hz) : consB x (xs, H) = some (x :: xs, H) := nr rfl
def consA (r : MA) (σ : St) : V × Hz → Option (List V × Hz) := fun p => (r σ p.2).bind (consB p.1)
@[simp] theorem consA_ev (r : MA) (σ : St) (x : V) (H : Hz) : consA r σ (x, H) = (r σ H).bind (consB x) := nr rfl
@[simp] theorem aCons_ev (a : ME) (r : MA) : aCons a r σ G = (a σ G).bind (consA r σ) := nr rfl
def lstA  : List V × Hz → Option (V × Hz) := fun p => if p.1.length ≤ sizeLine then some (.ref p.2.length, p.2 ++ [.lst p.1]) else none
@[simp] theorem lstA_ev  (xs : List V) (H : Hz) : lstA  (xs, H) = if xs.length ≤ sizeLine then some (.ref H.length, H ++ [.lst xs]) else none := nr rfl
def tupA  : List V × Hz → Option (V × Hz) := fun p => if p.1.length ≤ sizeLine then some (.ref p.2.length, p.2 ++ [.tup p.1]) else none
@[simp] theorem tupA_ev  (xs : List V) (H : Hz) : tupA  (xs, H) = if xs.length ≤ sizeLine then some (.ref H.length, H ++ [.tup xs]) else none := nr rfl
@[simp] theorem eLst_ev (r : MA) : eLst r σ G = (r σ G).bind lstA := nr rfl
@[simp] theorem eTup_ev (r : MA) : eTup r σ G = (r σ G).bind tupA := nr rfl
def callA (f : FL) : List V × Hz → Option (V × Hz) := fun p => f p.1 p.2
@[simp] theorem callA_ev (f : FL) (xs : List V) (H : Hz) : callA f (xs, H) = f xs H := nr rfl
@[simp] theorem eCall_ev (f : FL) (r : MA) : eCall f r σ G = (r σ G).bind (callA f) := nr rfl
def fnA (f : FL) (d : List V) : List V × Hz → Option (V × Hz) := fun p => f (p.1 ++ d) p.2
@[simp] theorem fnA_ev (f : FL) (d : List V) (xs : List V) (H : Hz) : fnA f d (xs, H) = f (xs ++ d) H := nr rfl
@[simp] theorem eFn_ev (m : FL) (d : List V) (r : MA) : eFn m d r σ G = (r σ G).bind (fnA m d) := nr rfl
def methB (f : FM) (x : V) : List V × Hz → Option (V × Hz) := fun p => f x p.1 p.2
@[simp] theorem methB_ev (f : FM) (x : V) (xs : List V) (H : Hz) : methB f x (xs, H) = f x xs H := nr rfl
def methA (T : V → Hz → Bool) (f : FM) (r : MA) (σ : St) : V × Hz → Option (V × Hz) := fun p => if T p.1 p.2 = true then (r σ p.2).bind (methB f p.1) else none
@[simp] theorem methA_ev (T : V → Hz → Bool) (f : FM) (r : MA) (σ : St) (x : V) (H : Hz) : methA T f r σ (x, H) = if T x H = true then (r σ H).bind (methB f x) else none := nr rfl
@[simp] theorem eMeth_ev (T : V → Hz → Bool) (f : FM) (o : ME) (r : MA) : eMeth T f o r σ G = (o σ G).bind (methA T f r σ) := nr rfl
@[simp] theorem oNone_ev : oNone σ G = some (none, G) := nr rfl
def someA  : V × Hz → Option (Option Int × Hz) := fun p => asInt p.1 p.2
@[simp] theorem someA_ev  (x : V) (H : Hz) : someA  (x, H) = asInt x H := nr rfl
@[simp] theorem oSome_ev (a : ME) : oSome a σ G = (a σ G).bind someA := by
  unfold oSome
  congr 1
  funext p
  rcases p with ⟨v, H⟩
  cases v <;> first | rfl | (rename_i k; cases k <;> rfl)
abbrev SlF := V → Option Int → Option Int → Hz → Option (V × Hz)
def slC (f : SlF) (x : V) (l : Option Int) : Option Int × Hz → Option (V × Hz) := fun p => f x l p.1 p.2
@[simp] theorem slC_ev (f : SlF) (x : V) (l : Option Int) (h : Option Int) (H : Hz) : slC f x l (h, H) = f x l h H := nr rfl
def slB (f : SlF) (m : MO) (σ : St) (x : V) : Option Int × Hz → Option (V × Hz) := fun p => (m σ p.2).bind (slC f x p.1)
@[simp] theorem slB_ev (f : SlF) (m : MO) (σ : St) (x : V) (l : Option Int) (H : Hz) : slB f m σ x (l, H) = (m σ H).bind (slC f x l) := nr rfl
def slA (f : SlF) (n m : MO) (σ : St) : V × Hz → Option (V × Hz) := fun p => (n σ p.2).bind (slB f m σ p.1)
@[simp] theorem slA_ev (f : SlF) (n m : MO) (σ : St) (x : V) (H : Hz) : slA f n m σ (x, H) = (n σ H).bind (slB f m σ x) := nr rfl
@[simp] theorem eSlice_ev (f : SlF) (a : ME) (l h : MO) : eSlice f a l h σ G = (a σ G).bind (slA f l h σ) := nr rfl
def tAndA (b : MT) (σ : St) : Bool × Hz → Option (Bool × Hz) := fun p => if p.1 = true then b σ p.2 else some (false, p.2)
@[simp] theorem tAndA_ev (b : MT) (σ : St) (k : Bool) (H : Hz) : tAndA b σ (k, H) = if k = true then b σ H else some (false, H) := nr rfl
def tOrA (b : MT) (σ : St) : Bool × Hz → Option (Bool × Hz) := fun p => if p.1 = true then some (true, p.2) else b σ p.2
@[simp] theorem tOrA_ev (b : MT) (σ : St) (k : Bool) (H : Hz) : tOrA b σ (k, H) = if k = true then some (true, H) else b σ H := nr rfl
def tNotA  : Bool × Hz → Option (Bool × Hz) := fun p => some (!p.1, p.2)
@[simp] theorem tNotA_ev  (k : Bool) (H : Hz) : tNotA  (k, H) = some (!k, H) := nr rfl
@[simp] theorem tAndZ_ev (a b : MT) : tAndZ a b σ G = (a σ G).bind (tAndA b σ) := nr rfl
@[simp] theorem tOrZ_ev (a b : MT) : tOrZ a b σ G = (a σ G).bind (tOrA b σ) := nr rfl
@[simp] theorem tNotZ_ev (a : MT) : tNotZ a σ G = (a σ G).bind tNotA := nr rfl
@[simp] theorem tYesZ_ev : tYesZ σ G = some (true, G) := nr rfl
def cutA (G : Hz) : V × Hz → Option (V × Hz) := fun p => cut G p.1 p.2
@[simp] theorem cutA_ev (G : Hz) (x : V) (H : Hz) : cutA G (x, H) = cut G x H := nr rfl
def dropA (G : Hz) : V × Hz → Option (V × Hz) := fun p => if keptB G.length G p.2 = true then some (V.non, p.2.take G.length) else none
@[simp] theorem dropA_ev (G : Hz) (x : V) (H : Hz) : dropA G (x, H) = if keptB G.length G H = true then some (V.non, H.take G.length) else none := nr rfl
def tCutA (G : Hz) : Bool × Hz → Option (Bool × Hz) := fun p => if keptB G.length G p.2 = true then some (p.1, p.2.take G.length) else none
@[simp] theorem tCutA_ev (G : Hz) (k : Bool) (H : Hz) : tCutA G (k, H) = if keptB G.length G H = true then some (k, H.take G.length) else none := nr rfl
@[simp] theorem eCut_ev (m : ME) : eCut m σ G = (m σ G).bind (cutA G) := nr rfl
@[simp] theorem eDrop_ev (m : ME) : eDrop m σ G = (m σ G).bind (dropA G) := nr rfl
@[simp] theorem tCut_ev (m : MT) : tCut m σ G = (m σ G).bind (tCutA G) := nr rfl
@[simp] theorem cut_int (i : Int) (H : Hz) : cut G (.int i) H = if keptB G.length G H = true then some (.int i, H.take G.length) else none := nr rfl
@[simp] theorem cut_bl (i : Bool) (H : Hz) : cut G (.bl i) H = if keptB G.length G H = true then some (.bl i, H.take G.length) else none := nr rfl
@[simp] theorem cut_str (i : Str) (H : Hz) : cut G (.str i) H = if keptB G.length G H = true then some (.str i, H.take G.length) else none := nr rfl
@[simp] theorem cut_ty (i : String) (H : Hz) : cut G (.ty i) H = if keptB G.length G H = true then some (.ty i, H.take G.length) else none := nr rfl
@[simp] theorem cut_non (H : Hz) : cut G .non H = if keptB G.length G H = true then some (.non, H.take G.length) else none := nr rfl
def cutO (G H : Hz) : O → Option (V × Hz) := fun o => if okO G.length o = true ∧ isFz o = false then some (.ref G.length, H.take G.length ++ [o]) else none
@[simp] theorem cutO_ev (G H : Hz) (o : O) : cutO G H o = if okO G.length o = true ∧ isFz o = false then some (.ref G.length, H.take G.length ++ [o]) else none := nr rfl
@[simp] theorem cut_ref (a : Nat) (H : Hz) : cut G (.ref a) H = if keptB G.length G H = true then (if a < G.length then some (.ref a, H.take G.length) else (H[a]?).bind (cutO G H)) else none := by
  unfold cut
  split
  · dsimp only
    split
    · rfl
    · cases H[a]? <;> rfl
  · rfl
/-! statements -/
@[simp] theorem then_nx (H : Hz) (k : St → Hz → Option R) : R.then (.nx σ H) k = k σ H := nr rfl
@[simp] theorem then_rt (v : V) (H : Hz) (k : St → Hz → Option R) : R.then (.rt v H) k = some (.rt v H) := nr rfl
@[simp] theorem then_bk (H : Hz) (k : St → Hz → Option R) : R.then (.bk σ H) k = some (.bk σ H) := nr rfl
@[simp] theorem then_ct (H : Hz) (k : St → Hz → Option R) : R.then (.ct σ H) k = some (.ct σ H) := nr rfl
def seqA (b : MS) : R → Option (R) := fun r => r.then b
@[simp] theorem seqA_ev (b : MS) (r : R) : seqA b r = r.then b := nr rfl
@[simp] theorem sSeq_ev (a b : MS) : sSeq a b σ G = (a σ G).bind (seqA b) := nr rfl
@[simp] theorem sPass_ev : sPass σ G = some (.nx σ G) := nr rfl
@[simp] theorem sNever_ev : sNever σ G = none := nr rfl
@[simp] theorem sBreak_ev : sBreak σ G = some (.bk σ G) := nr rfl
@[simp] theorem sCont_ev : sCont σ G = some (.ct σ G) := nr rfl
def exprA (σ : St) : V × Hz → Option (R) := fun p => some (R.nx σ p.2)
@[simp] theorem exprA_ev (σ : St) (x : V) (H : Hz) : exprA σ (x, H) = some (R.nx σ H) := nr rfl
def retA  : V × Hz → Option (R) := fun p => some (R.rt p.1 p.2)
@[simp] theorem retA_ev  (x : V) (H : Hz) : retA  (x, H) = some (R.rt x H) := nr rfl
@[simp] theorem sExpr_ev (a : ME) : sExpr a σ G = (a σ G).bind (exprA σ) := nr rfl
@[simp] theorem sRet_ev (a : ME) : sRet a σ G = (a σ G).bind retA := nr rfl
@[simp] theorem sRetN_ev : sRetN σ G = some (.rt .non G) := nr rfl
def sifA (a b : MS) (σ : St) : Bool × Hz → Option (R) := fun p => if p.1 = true then a σ p.2 else b σ p.2
@[simp] theorem sifA_ev (a b : MS) (σ : St) (k : Bool) (H : Hz) : sifA a b σ (k, H) = if k = true then a σ H else b σ H := nr rfl
@[simp] theorem sIf_ev (t : MT) (a b : MS) : sIf t a b σ G = (t σ G).bind (sifA a b σ) := nr rfl
@[simp] theorem gSet_ev (i : Nat) (v : V) : gSet i v σ G = some (σ.set i (some v), G) := nr rfl
@[simp] theorem gsNil_ev : gsNil [] σ G = some (σ, G) := nr rfl
def gsA (r : MGs) (vs : List V) : St × Hz → Option (St × Hz) := fun p => r vs p.1 p.2
@[simp] theorem gsA_ev (r : MGs) (vs : List V) (t : St) (H : Hz) : gsA r vs (t, H) = r vs t H := nr rfl
@[simp] theorem gsCons_ev (g : MG) (r : MGs) (v : V) (vs : List V) : gsCons g r (v :: vs) σ G = (g v σ G).bind (gsA r vs) := nr rfl
def unpk : Option O → Option (List V)
  | some (.tup xs) => some xs
  | some (.lst xs) => some xs
  | _ => none
@[simp] theorem unpk_tup (xs : List V) : unpk (some (.tup xs)) = some xs := nr rfl
@[simp] theorem unpk_lst (xs : List V) : unpk (some (.lst xs)) = some xs := nr rfl
def gunA (n : Nat) (r : MGs) (σ : St) (H : Hz) : List V → Option (St × Hz) := fun xs => if xs.length = n then r xs σ H else none
@[simp] theorem gunA_ev (n : Nat) (r : MGs) (σ : St) (H : Hz) (xs : List V) : gunA n r σ H xs = if xs.length = n then r xs σ H else none := nr rfl
@[simp] theorem gUn_ev (n : Nat) (r : MGs) (a : Nat) : gUn n r (.ref a) σ G = (unpk G[a]?).bind (gunA n r σ G) := by
  unfold gUn unpk
  dsimp only
  cases G[a]? with
  | none => rfl
  | some o => cases o <;> rfl
def putC (σ : St) : Hz → Option (St × Hz) := fun H => some (σ, H)
@[simp] theorem putC_ev (σ : St) (H : Hz) : putC σ H = some (σ, H) := nr rfl
def putB (f : V → V → V → Hz → Option Hz) (σ : St) (v x : V) : V × Hz → Option (St × Hz) := fun p => (f x p.1 v p.2).bind (putC σ)
@[simp] theorem putB_ev (f : V → V → V → Hz → Option Hz) (σ : St) (v x : V) (y : V) (H : Hz) : putB f σ v x (y, H) = (f x y v H).bind (putC σ) := nr rfl
def putA (f : V → V → V → Hz → Option Hz) (i : ME) (σ : St) (v : V) : V × Hz → Option (St × Hz) := fun p => (i σ p.2).bind (putB f σ v p.1)
@[simp] theorem putA_ev (f : V → V → V → Hz → Option Hz) (i : ME) (σ : St) (v : V) (x : V) (H : Hz) : putA f i σ v (x, H) = (i σ H).bind (putB f σ v x) := nr rfl
@[simp] theorem gPut_ev (f : V → V → V → Hz → Option Hz) (o i : ME) (v : V) : gPut f o i v σ G = (o σ G).bind (putA f i σ v) := nr rfl
def asgB  : St × Hz → Option (R) := fun p => some (R.nx p.1 p.2)
@[simp] theorem asgB_ev  (t : St) (H : Hz) : asgB  (t, H) = some (R.nx t H) := nr rfl
def asgA (g : MG) (σ : St) : V × Hz → Option (R) := fun p => (g p.1 σ p.2).bind asgB
@[simp] theorem asgA_ev (g : MG) (σ : St) (x : V) (H : Hz) : asgA g σ (x, H) = (g x σ H).bind asgB := nr rfl
@[simp] theorem sAsg_ev (e : ME) (g : MG) : sAsg e g σ G = (e σ G).bind (asgA g σ) := nr rfl
def parA (i : List Nat) (σ : St) : List V × Hz → Option (R) := fun p => if p.1.length = i.length then some (R.nx ((i.zip p.1).foldl (fun σ q => σ.set q.1 (some q.2)) σ) p.2) else none
@[simp] theorem parA_ev (i : List Nat) (σ : St) (xs : List V) (H : Hz) : parA i σ (xs, H) = if xs.length = i.length then some (R.nx ((i.zip xs).foldl (fun σ q => σ.set q.1 (some q.2)) σ) H) else none := nr rfl
@[simp] theorem sPar_ev (i : List Nat) (r : MA) : sPar i r σ G = (r σ G).bind (parA i σ) := nr rfl
def augC (σ : St) (i : Nat) : V × Hz → Option (R) := fun p => some (R.nx (σ.set i (some p.1)) p.2)
@[simp] theorem augC_ev (σ : St) (i : Nat) (y : V) (H : Hz) : augC σ i (y, H) = some (R.nx (σ.set i (some y)) H) := nr rfl
def augB (f : F2) (σ : St) (i : Nat) (x : V) : V × Hz → Option (R) := fun p => (f x p.1 p.2).bind (augC σ i)
@[simp] theorem augB_ev (f : F2) (σ : St) (i : Nat) (x : V) (y : V) (H : Hz) : augB f σ i x (y, H) = (f x y H).bind (augC σ i) := nr rfl
def augA (f : F2) (e : ME) (σ : St) (H : Hz) (i : Nat) : V → Option (R) := fun x => (e σ H).bind (augB f σ i x)
@[simp] theorem augA_ev (f : F2) (e : ME) (σ : St) (H : Hz) (i : Nat) (x : V) : augA f e σ H i x = (e σ H).bind (augB f σ i x) := nr rfl
@[simp] theorem sAug_ev (i : Nat) (f : F2) (e : ME) : sAug i f e σ G = (getS σ[i]?).bind (augA f e σ G i) := by
  show (match σ[i]? with | some (some x) => (e σ G).bind fun p => (f x p.1 p.2).bind fun q => some (R.nx (σ.set i (some q.1)) q.2) | _ => none) = _
  cases σ[i]? with
  | none => rfl
  | some o => cases o <;> rfl
def gcR (ds : List Nat) (G : Hz) : R → Option R
  | .nx σ' G' => if okS G.length (wipe σ' ds) = true ∧ keptB G.length G G' = true then some (.nx (wipe σ' ds) (G'.take G.length)) else none
  | .ct σ' G' => if okS G.length (wipe σ' ds) = true ∧ keptB G.length G G' = true then some (.ct (wipe σ' ds) (G'.take G.length)) else none
  | r => some r
@[simp] theorem sGc_ev (ds : List Nat) (b : MS) : sGc ds b σ G = (b σ G).bind (gcR ds G) := by
  show (b σ G).bind _ = _
  refine congrArg _ (funext fun r => ?_)
  cases r <;> rfl
@[simp] theorem gcR_nx (ds : List Nat) (H : Hz) : gcR ds G (.nx σ H) = if okS G.length (wipe σ ds) = true ∧ keptB G.length G H = true then some (.nx (wipe σ ds) (H.take G.length)) else none := nr rfl
@[simp] theorem gcR_ct (ds : List Nat) (H : Hz) : gcR ds G (.ct σ H) = if okS G.length (wipe σ ds) = true ∧ keptB G.length G H = true then some (.ct (wipe σ ds) (H.take G.length)) else none := nr rfl
@[simp] theorem gcR_bk (ds : List Nat) (H : Hz) : gcR ds G (.bk σ H) = some (.bk σ H) := nr rfl
@[simp] theorem gcR_rt (ds : List Nat) (v : V) (H : Hz) : gcR ds G (.rt v H) = some (.rt v H) := nr rfl
def wipeR (ds : List Nat) : R → Option R
  | .nx σ' G' => some (.nx (wipe σ' ds) G')
  | .ct σ' G' => some (.ct (wipe σ' ds) G')
  | r => some r
@[simp] theorem sWipe_ev (ds : List Nat) (b : MS) : sWipe ds b σ G = (b σ G).bind (wipeR ds) := by
  show (b σ G).bind _ = _
  refine congrArg _ (funext fun r => ?_)
  cases r <;> rfl
@[simp] theorem wipeR_nx (ds : List Nat) (H : Hz) : wipeR ds (.nx σ H) = some (.nx (wipe σ ds) H) := nr rfl
@[simp] theorem wipeR_ct (ds : List Nat) (H : Hz) : wipeR ds (.ct σ H) = some (.ct (wipe σ ds) H) := nr rfl
@[simp] theorem wipeR_bk (ds : List Nat) (H : Hz) : wipeR ds (.bk σ H) = some (.bk σ H) := nr rfl
@[simp] theorem wipeR_rt (ds : List Nat) (v : V) (H : Hz) : wipeR ds (.rt v H) = some (.rt v H) := nr rfl
@[simp] theorem wipe_nil : wipe σ [] = σ := nr rfl
@[simp] theorem wipe_cons (d : Nat) (ds : List Nat) : wipe σ (d :: ds) = (wipe σ ds).set d none := nr rfl
def endR : R → Option (V × Hz)
  | .nx _ G' => some (.non, G')
  | .rt v G' => some (v, G')
  | _ => none
@[simp] theorem endR_nx (H : Hz) : endR (.nx σ H) = some (.non, H) := nr rfl
@[simp] theorem endR_rt (v : V) (H : Hz) : endR (.rt v H) = some (v, H) := nr rfl
@[simp] theorem runD_ev (n : Nat) (b : MS) (vs : List V) : runD n b vs G = (b (startZ n vs) G).bind endR := by
  show (b (startZ n vs) G).bind _ = _
  refine congrArg _ (funext fun r => ?_)
  cases r <;> rfl
@[simp] theorem startZ_ev (n : Nat) (vs : List V) : startZ n vs = vs.map some ++ List.replicate (n - vs.length) none := nr rfl
@[simp] theorem cutF_ev (f : FL) (vs : List V) : cutF f vs G = (f vs G).bind (cutA G) := nr rfl
/-! operators -/
@[simp] theorem bAdd_ii (i j : Int) : bAdd (.int i) (.int j) G = some (.int (i + j), G) := nr rfl
@[simp] theorem bSub_ii (i j : Int) : bSub (.int i) (.int j) G = some (.int (i - j), G) := nr rfl
@[simp] theorem bMul_ii (i j : Int) : bMul (.int i) (.int j) G = if smallN i = true ∧ smallN j = true then some (.int (i * j), G) else none := nr rfl
@[simp] theorem bMod_ii (i j : Int) : bMod (.int i) (.int j) G = if j ≠ 0 then some (.int (i.fmod j), G) else none := nr rfl
@[simp] theorem bDiv_ii (i j : Int) : bDiv (.int i) (.int j) G = if j ≠ 0 ∧ smallN j = true then some (.int (i.fdiv j), G) else none := nr rfl
@[simp] theorem bPow_ii (i j : Int) : bPow (.int i) (.int j) G = if smallN i = true ∧ 0 ≤ j ∧ j ≤ 1000 then some (.int (i ^ j.toNat), G) else none := nr rfl
@[simp] theorem cLt_ii (i j : Int) : cLt (.int i) (.int j) G = some (.bl (decide (i < j)), G) := nr rfl
@[simp] theorem cLe_ii (i j : Int) : cLe (.int i) (.int j) G = some (.bl (decide (i ≤ j)), G) := nr rfl
@[simp] theorem cGt_ii (i j : Int) : cGt (.int i) (.int j) G = some (.bl (decide (j < i)), G) := nr rfl
@[simp] theorem cGe_ii (i j : Int) : cGe (.int i) (.int j) G = some (.bl (decide (j ≤ i)), G) := nr rfl
@[simp] theorem uAdd_ii (i j : Int) : uAdd (.int i) (.int j) G = some (.int (i + j), G) := nr rfl
@[simp] theorem uSub_ii (i j : Int) : uSub (.int i) (.int j) G = some (.int (i - j), G) := nr rfl
@[simp] theorem fNeg_i (i : Int) : fNeg (.int i) G = some (.int (-i), G) := nr rfl
@[simp] theorem cIsN_ev (v : V) : cIsN v G = some (.bl (decide (v = .non)), G) := nr rfl
@[simp] theorem cNotN_ev (v : V) : cNotN v G = some (.bl (!decide (v = .non)), G) := nr rfl
@[simp] theorem fAbs_i (i : Int) : fAbs [.int i] G = some (.int (if i < 0 then -i else i), G) := nr rfl
@[simp] theorem fInt_i (i : Int) : fInt [.int i] G = some (.int i, G) := nr rfl
@[simp] theorem fInt_b (k : Bool) : fInt [.bl k] G = some (.int (if k then 1 else 0), G) := nr rfl
@[simp] theorem alloc_ev (x : O) : alloc x G = some (.ref G.length, G ++ [x]) := nr rfl
def lstO : Option O → Option (List V)
  | some (.lst xs) => some xs
  | _ => none
@[simp] theorem lstO_lst (xs : List V) : lstO (some (.lst xs)) = some xs := nr rfl
def seqO : Option O → Option (List V)
  | some (.lst xs) => some xs
  | some (.fz xs) => some xs
  | some (.tup xs) => some xs
  | _ => none
@[simp] theorem seqO_lst (xs : List V) : seqO (some (.lst xs)) = some xs := nr rfl
@[simp] theorem seqO_fz (xs : List V) : seqO (some (.fz xs)) = some xs := nr rfl
@[simp] theorem seqO_tup (xs : List V) : seqO (some (.tup xs)) = some xs := nr rfl
def lenO : Option O → Option Nat
  | some (.lst xs) => some xs.length
  | some (.fz xs) => some xs.length
  | some (.tup xs) => some xs.length
  | some (.dK xs) => some xs.length
  | _ => none
@[simp] theorem lenO_lst (xs : List V) : lenO (some (.lst xs)) = some xs.length := nr rfl
@[simp] theorem lenO_fz (xs : List V) : lenO (some (.fz xs)) = some xs.length := nr rfl
@[simp] theorem lenO_tup (xs : List V) : lenO (some (.tup xs)) = some xs.length := nr rfl
@[simp] theorem lenO_dK (xs : List (Key × V)) : lenO (some (.dK xs)) = some xs.length := nr rfl
def cpyO : Option O → Option (List V)
  | some (.lst xs) => some xs
  | some (.tup xs) => some xs
  | _ => none
@[simp] theorem cpyO_lst (xs : List V) : cpyO (some (.lst xs)) = some xs := nr rfl
@[simp] theorem cpyO_tup (xs : List V) : cpyO (some (.tup xs)) = some xs := nr rfl
def ixB (H : Hz) : V → Option (V × Hz) := fun v => some (v, H)
@[simp] theorem ixB_ev (H : Hz) (v : V) : ixB H v = some (v, H) := nr rfl
def ixA (i : Int) (H : Hz) : List V → Option (V × Hz) := fun xs => (atI xs i).bind (ixB H)
@[simp] theorem ixA_ev (i : Int) (H : Hz) (xs : List V) : ixA i H xs = (atI xs i).bind (ixB H) := nr rfl
@[simp] theorem xIx_ri (a : Nat) (i : Int) : xIx (.ref a) (.int i) G = (seqO G[a]?).bind (ixA i G) := by
  show (match G[a]? with | some (.lst xs) => (atI xs i).bind fun v => some (v, G) | some (.fz xs) => (atI xs i).bind fun v => some (v, G) | some (.tup xs) => (atI xs i).bind fun v => some (v, G) | _ => none) = _
  cases G[a]? with
  | none => rfl
  | some o => cases o <;> rfl
def xcA (lo hi : Option Int) (H : Hz) : List V → Option (V × Hz) := fun xs => some (.ref H.length, H ++ [.lst (cutV xs lo hi)])
@[simp] theorem xcA_ev (lo hi : Option Int) (H : Hz) (xs : List V) : xcA lo hi H xs = some (.ref H.length, H ++ [.lst (cutV xs lo hi)]) := nr rfl
@[simp] theorem xCut_r (a : Nat) (lo hi : Option Int) : xCut (.ref a) lo hi G = (lstO G[a]?).bind (xcA lo hi G) := by
  show (match G[a]? with | some (.lst xs) => alloc (.lst (cutV xs lo hi)) G | _ => none) = _
  cases G[a]? with
  | none => rfl
  | some o => cases o <;> rfl
def plB (a : Nat) (xs : List V) (v : V) (H : Hz) : Nat → Option (Hz) := fun j => some (H.set a (.lst (xs.set j v)))
@[simp] theorem plB_ev (a : Nat) (xs : List V) (v : V) (H : Hz) (j : Nat) : plB a xs v H j = some (H.set a (.lst (xs.set j v))) := nr rfl
def plA (a : Nat) (k : Int) (v : V) (H : Hz) : List V → Option (Hz) := fun xs => (ixN xs.length k).bind (plB a xs v H)
@[simp] theorem plA_ev (a : Nat) (k : Int) (v : V) (H : Hz) (xs : List V) : plA a k v H xs = (ixN xs.length k).bind (plB a xs v H) := nr rfl
@[simp] theorem pLst_ri (a : Nat) (k : Int) (v : V) : pLst (.ref a) (.int k) v G = (lstO G[a]?).bind (plA a k v G) := by
  show (match G[a]? with | some (.lst xs) => (ixN xs.length k).bind fun j => some (G.set a (.lst (xs.set j v))) | _ => none) = _
  cases G[a]? with
  | none => rfl
  | some o => cases o <;> rfl
def lenA (H : Hz) : Nat → Option (V × Hz) := fun n => some (.int n, H)
@[simp] theorem lenA_ev (H : Hz) (n : Nat) : lenA H n = some (.int n, H) := nr rfl
@[simp] theorem fLen_r (a : Nat) : fLen [.ref a] G = (lenO G[a]?).bind (lenA G) := by
  show (match G[a]? with | some (.lst xs) => some (V.int xs.length, G) | some (.fz xs) => some (V.int xs.length, G) | some (.tup xs) => some (V.int xs.length, G) | some (.dK xs) => some (V.int xs.length, G) | _ => none) = _
  cases G[a]? with
  | none => rfl
  | some o => cases o <;> rfl
def allB (H : Hz) : List Bool → Option (V × Hz) := fun bs => some (.bl (bs.all id), H)
@[simp] theorem allB_ev (H : Hz) (bs : List Bool) : allB H bs = some (.bl (bs.all id), H) := nr rfl
def allA (H : Hz) : List V → Option (V × Hz) := fun xs => (bls? xs).bind (allB H)
@[simp] theorem allA_ev (H : Hz) (xs : List V) : allA H xs = (bls? xs).bind (allB H) := nr rfl
@[simp] theorem fAll_r (a : Nat) : fAll [.ref a] G = (lstO G[a]?).bind (allA G) := by
  show (match G[a]? with | some (.lst xs) => (bls? xs).bind fun bs => some (V.bl (bs.all id), G) | _ => none) = _
  cases G[a]? with
  | none => rfl
  | some o => cases o <;> rfl
def anyB (H : Hz) : List Bool → Option (V × Hz) := fun bs => some (.bl (bs.any id), H)
@[simp] theorem anyB_ev (H : Hz) (bs : List Bool) : anyB H bs = some (.bl (bs.any id), H) := nr rfl
def anyA (H : Hz) : List V → Option (V × Hz) := fun xs => (bls? xs).bind (anyB H)
@[simp] theorem anyA_ev (H : Hz) (xs : List V) : anyA H xs = (bls? xs).bind (anyB H) := nr rfl
@[simp] theorem fAny_r (a : Nat) : fAny [.ref a] G = (lstO G[a]?).bind (anyA G) := by
  show (match G[a]? with | some (.lst xs) => (bls? xs).bind fun bs => some (V.bl (bs.any id), G) | _ => none) = _
  cases G[a]? with
  | none => rfl
  | some o => cases o <;> rfl
def sumB (H : Hz) : List Int → Option (V × Hz) := fun ns => some (.int ns.sum, H)
@[simp] theorem sumB_ev (H : Hz) (ns : List Int) : sumB H ns = some (.int ns.sum, H) := nr rfl
def sumA (H : Hz) : List V → Option (V × Hz) := fun xs => (ints? xs).bind (sumB H)
@[simp] theorem sumA_ev (H : Hz) (xs : List V) : sumA H xs = (ints? xs).bind (sumB H) := nr rfl
@[simp] theorem fSum_r (a : Nat) : fSum [.ref a] G = (lstO G[a]?).bind (sumA G) := by
  show (match G[a]? with | some (.lst xs) => (ints? xs).bind fun ns => some (V.int ns.sum, G) | _ => none) = _
  cases G[a]? with
  | none => rfl
  | some o => cases o <;> rfl
def srtB (H : Hz) : List Int → Option (V × Hz) := fun ns => some (.ref H.length, H ++ [.lst ((isort ns).map V.int)])
@[simp] theorem srtB_ev (H : Hz) (ns : List Int) : srtB H ns = some (.ref H.length, H ++ [.lst ((isort ns).map V.int)]) := nr rfl
def srtA (H : Hz) : List V → Option (V × Hz) := fun xs => (ints? xs).bind (srtB H)
@[simp] theorem srtA_ev (H : Hz) (xs : List V) : srtA H xs = (ints? xs).bind (srtB H) := nr rfl
@[simp] theorem fSorted_r (a : Nat) : fSorted [.ref a] G = (lstO G[a]?).bind (srtA G) := by
  show (match G[a]? with | some (.lst xs) => (ints? xs).bind fun ns => alloc (.lst ((isort ns).map V.int)) G | _ => none) = _
  cases G[a]? with
  | none => rfl
  | some o => cases o <;> rfl
def cpyA (H : Hz) : List V → Option (V × Hz) := fun xs => some (.ref H.length, H ++ [.lst xs])
@[simp] theorem cpyA_ev (H : Hz) (xs : List V) : cpyA H xs = some (.ref H.length, H ++ [.lst xs]) := nr rfl
@[simp] theorem fList_r (a : Nat) : fList [.ref a] G = (cpyO G[a]?).bind (cpyA G) := by
  show (match G[a]? with | some (.lst xs) => alloc (.lst xs) G | some (.tup xs) => alloc (.lst xs) G | _ => none) = _
  cases G[a]? with
  | none => rfl
  | some o => cases o <;> rfl
def maxL : List Int → Option Int
  | [] => none
  | m :: ns => some (maxI m ns)
def minL : List Int → Option Int
  | [] => none
  | m :: ns => some (minI m ns)
def intB (H : Hz) : Int → Option (V × Hz) := fun m => some (.int m, H)
@[simp] theorem intB_ev (H : Hz) (m : Int) : intB H m = some (.int m, H) := nr rfl
def maxB (H : Hz) : List Int → Option (V × Hz) := fun ns => (maxL ns).bind (intB H)
@[simp] theorem maxB_ev (H : Hz) (ns : List Int) : maxB H ns = (maxL ns).bind (intB H) := nr rfl
def maxA (H : Hz) : List V → Option (V × Hz) := fun xs => (ints? xs).bind (maxB H)
@[simp] theorem maxA_ev (H : Hz) (xs : List V) : maxA H xs = (ints? xs).bind (maxB H) := nr rfl
@[simp] theorem fMax_r (a : Nat) : fMax [.ref a] G = (lstO G[a]?).bind (maxA G) := by
  show (match G[a]? with | some (.lst xs) => (match ints? xs with | some (m :: ns) => some (V.int (maxI m ns), G) | _ => none) | _ => none) = _
  cases G[a]? with
  | none => rfl
  | some o =>
    cases o <;> try rfl
    rename_i xs
    show (match ints? xs with | some (m :: ns) => some (V.int (maxI m ns), G) | _ => none) = (ints? xs).bind (maxB G)
    cases ints? xs with
    | none => rfl
    | some ns => cases ns <;> rfl
def minB (H : Hz) : List Int → Option (V × Hz) := fun ns => (minL ns).bind (intB H)
@[simp] theorem minB_ev (H : Hz) (ns : List Int) : minB H ns = (minL ns).bind (intB H) := nr rfl
def minA (H : Hz) : List V → Option (V × Hz) := fun xs => (ints? xs).bind (minB H)
@[simp] theorem minA_ev (H : Hz) (xs : List V) : minA H xs = (ints? xs).bind (minB H) := nr rfl
@[simp] theorem fMin_r (a : Nat) : fMin [.ref a] G = (lstO G[a]?).bind (minA G) := by
  show (match G[a]? with | some (.lst xs) => (match ints? xs with | some (m :: ns) => some (V.int (minI m ns), G) | _ => none) | _ => none) = _
  cases G[a]? with
  | none => rfl
  | some o =>
    cases o <;> try rfl
    rename_i xs
    show (match ints? xs with | some (m :: ns) => some (V.int (minI m ns), G) | _ => none) = (ints? xs).bind (minB G)
    cases ints? xs with
    | none => rfl
    | some ns => cases ns <;> rfl
def lsB (H : Hz) : List Int → Option (V × Hz) := fun ns => if ns.length ≤ 4000 then some (.int (nDist ns), H) else none
@[simp] theorem lsB_ev (H : Hz) (ns : List Int) : lsB H ns = if ns.length ≤ 4000 then some (.int (nDist ns), H) else none := nr rfl
def lsA (H : Hz) : List V → Option (V × Hz) := fun xs => (ints? xs).bind (lsB H)
@[simp] theorem lsA_ev (H : Hz) (xs : List V) : lsA H xs = (ints? xs).bind (lsB H) := nr rfl
@[simp] theorem fLenSet_r (a : Nat) : fLenSet (.ref a) G = (lstO G[a]?).bind (lsA G) := by
  show (match G[a]? with | some (.lst xs) => (match ints? xs with | some ns => if ns.length ≤ 4000 then some (V.int (nDist ns), G) else none | none => none) | _ => none) = _
  cases G[a]? with
  | none => rfl
  | some o =>
    cases o <;> try rfl
    rename_i xs
    show (match ints? xs with | some ns => if ns.length ≤ 4000 then some (V.int (nDist ns), G) else none | none => none) = (ints? xs).bind (lsB G)
    cases ints? xs <;> rfl
@[simp] theorem isLst_r (a : Nat) : isLst (.ref a) G = (lstO G[a]?).isSome := by
  show (match G[a]? with | some (.lst _) => true | _ => false) = _
  cases G[a]? with
  | none => rfl
  | some o => cases o <;> rfl
def appA (a : Nat) (y : V) (H : Hz) : List V → Option (V × Hz) := fun xs => if xs.length < sizeLine then some (.non, H.set a (.lst (xs ++ [y]))) else none
@[simp] theorem appA_ev (a : Nat) (y : V) (H : Hz) (xs : List V) : appA a y H xs = if xs.length < sizeLine then some (.non, H.set a (.lst (xs ++ [y]))) else none := nr rfl
@[simp] theorem mAppend_ev (a : Nat) (y : V) : mAppend (.ref a) [y] G = (lstO G[a]?).bind (appA a y G) := by
  show (match G[a]? with | some (.lst xs) => if xs.length < sizeLine then some (V.non, G.set a (.lst (xs ++ [y]))) else none | _ => none) = _
  cases G[a]? with
  | none => rfl
  | some o => cases o <;> rfl
def popB (a : Nat) (xs : List V) (H : Hz) : V → Option (V × Hz) := fun y => some (y, H.set a (.lst xs.dropLast))
@[simp] theorem popB_ev (a : Nat) (xs : List V) (H : Hz) (y : V) : popB a xs H y = some (y, H.set a (.lst xs.dropLast)) := nr rfl
def popA (a : Nat) (H : Hz) : List V → Option (V × Hz) := fun xs => xs.getLast?.bind (popB a xs H)
@[simp] theorem popA_ev (a : Nat) (H : Hz) (xs : List V) : popA a H xs = xs.getLast?.bind (popB a xs H) := nr rfl
@[simp] theorem mPop_ev (a : Nat) : mPop (.ref a) [] G = (lstO G[a]?).bind (popA a G) := by
  show (match G[a]? with | some (.lst xs) => (match xs[xs.length - 1]? with | some y => some (y, G.set a (.lst xs.dropLast)) | none => none) | _ => none) = _
  cases G[a]? with
  | none => rfl
  | some o =>
    cases o <;> try rfl
    rename_i xs
    show (match xs[xs.length - 1]? with | some y => some (y, G.set a (.lst xs.dropLast)) | none => none) = xs.getLast?.bind (popB a xs G)
    rw [List.getLast?_eq_getElem?]
    cases xs[xs.length - 1]? <;> rfl
/-- the place that an index means -/
def popI (xs : List V) (i : Int) : Option Nat := if -(2 ^ 63) ≤ i ∧ i < 2 ^ 63 then seqIndex? i xs.length else none
def pop1C (a : Nat) (xs : List V) (k : Nat) (H : Hz) : V → Option (V × Hz) := fun y => some (y, H.set a (.lst (xs.eraseIdx k)))
@[simp] theorem pop1C_ev (a : Nat) (xs : List V) (k : Nat) (H : Hz) (y : V) : pop1C a xs k H y = some (y, H.set a (.lst (xs.eraseIdx k))) := nr rfl
def pop1B (a : Nat) (xs : List V) (H : Hz) : Nat → Option (V × Hz) := fun k => (xs[k]?).bind (pop1C a xs k H)
@[simp] theorem pop1B_ev (a : Nat) (xs : List V) (H : Hz) (k : Nat) : pop1B a xs H k = (xs[k]?).bind (pop1C a xs k H) := nr rfl
def pop1A (a : Nat) (i : Int) (H : Hz) : List V → Option (V × Hz) := fun xs => (popI xs i).bind (pop1B a xs H)
@[simp] theorem pop1A_ev (a : Nat) (i : Int) (H : Hz) (xs : List V) : pop1A a i H xs = (popI xs i).bind (pop1B a xs H) := nr rfl
@[simp] theorem mPop_ev1 (a : Nat) (i : Int) : mPop (.ref a) [.int i] G = (lstO G[a]?).bind (pop1A a i G) := by
  show (match G[a]? with | some (.lst xs) => (if -(2 ^ 63) ≤ i ∧ i < 2 ^ 63 then (match seqIndex? i xs.length with | some k => (match xs[k]? with | some y => some (y, G.set a (.lst (xs.eraseIdx k))) | none => none) | none => none) else none) | _ => none) = _
  cases G[a]? with
  | none => rfl
  | some o =>
    cases o <;> try rfl
    rename_i xs
    show (if -(2 ^ 63) ≤ i ∧ i < 2 ^ 63 then (match seqIndex? i xs.length with | some k => (match xs[k]? with | some y => some (y, G.set a (.lst (xs.eraseIdx k))) | none => none) | none => none) else none) = (popI xs i).bind (pop1B a xs G)
    unfold popI
    split
    · cases seqIndex? i xs.length with
      | none => rfl
      | some k =>
        show (match xs[k]? with | some y => some (y, G.set a (.lst (xs.eraseIdx k))) | none => none) = (xs[k]?).bind (pop1C a xs k G)
        cases xs[k]? <;> rfl
    · rfl
def clrA (a : Nat) (H : Hz) : List V → Option (V × Hz) := fun xs => some (.non, H.set a (.lst []))
@[simp] theorem clrA_ev (a : Nat) (H : Hz) (xs : List V) : clrA a H xs = some (.non, H.set a (.lst [])) := nr rfl
@[simp] theorem mClear_ev (a : Nat) : mClear (.ref a) [] G = (lstO G[a]?).bind (clrA a G) := by
  show (match G[a]? with | some (.lst _) => some (V.non, G.set a (.lst [])) | _ => none) = _
  cases G[a]? with
  | none => rfl
  | some o => cases o <;> rfl
def revA (a : Nat) (H : Hz) : List V → Option (V × Hz) := fun xs => some (.non, H.set a (.lst xs.reverse))
@[simp] theorem revA_ev (a : Nat) (H : Hz) (xs : List V) : revA a H xs = some (.non, H.set a (.lst xs.reverse)) := nr rfl
@[simp] theorem mReverse_ev (a : Nat) : mReverse (.ref a) [] G = (lstO G[a]?).bind (revA a G) := by
  show (match G[a]? with | some (.lst xs) => some (V.non, G.set a (.lst xs.reverse)) | _ => none) = _
  cases G[a]? with
  | none => rfl
  | some o => cases o <;> rfl
def insA (a : Nat) (i : Int) (y : V) (H : Hz) : List V → Option (V × Hz) := fun xs => if xs.length < sizeLine ∧ 0 ≤ i ∧ i < 2 ^ 63 then some (.non, H.set a (.lst (xs.take i.toNat ++ [y] ++ xs.drop i.toNat))) else none
@[simp] theorem insA_ev (a : Nat) (i : Int) (y : V) (H : Hz) (xs : List V) : insA a i y H xs = if xs.length < sizeLine ∧ 0 ≤ i ∧ i < 2 ^ 63 then some (.non, H.set a (.lst (xs.take i.toNat ++ [y] ++ xs.drop i.toNat))) else none := nr rfl
@[simp] theorem mInsert_ev (a : Nat) (i : Int) (y : V) : mInsert (.ref a) [.int i, y] G = (lstO G[a]?).bind (insA a i y G) := by
  show (match G[a]? with | some (.lst xs) => if xs.length < sizeLine ∧ 0 ≤ i ∧ i < 2 ^ 63 then some (V.non, G.set a (.lst (xs.take i.toNat ++ [y] ++ xs.drop i.toNat))) else none | _ => none) = _
  cases G[a]? with
  | none => rfl
  | some o => cases o <;> rfl
def extB (a : Nat) (xs : List V) (H : Hz) : List V → Option (V × Hz) := fun ys => if xs.length + ys.length ≤ sizeLine then some (.non, H.set a (.lst (xs ++ ys))) else none
@[simp] theorem extB_ev (a : Nat) (xs : List V) (H : Hz) (ys : List V) : extB a xs H ys = if xs.length + ys.length ≤ sizeLine then some (.non, H.set a (.lst (xs ++ ys))) else none := nr rfl
def extA (a b : Nat) (H : Hz) : List V → Option (V × Hz) := fun xs => (lstO H[b]?).bind (extB a xs H)
@[simp] theorem extA_ev (a b : Nat) (H : Hz) (xs : List V) : extA a b H xs = (lstO H[b]?).bind (extB a xs H) := nr rfl
@[simp] theorem mExtend_ev (a b : Nat) : mExtend (.ref a) [.ref b] G = (lstO G[a]?).bind (extA a b G) := by
  show (match G[a]?, G[b]? with | some (.lst xs), some (.lst ys) => if xs.length + ys.length ≤ sizeLine then some (V.non, G.set a (.lst (xs ++ ys))) else none | _, _ => none) = _
  cases G[a]? with
  | none => rfl
  | some o =>
    cases o <;> try rfl
    rename_i xs
    show _ = (lstO G[b]?).bind (extB a xs G)
    cases G[b]? with
    | none => rfl
    | some u => cases u <;> rfl
def idxB (k : Int) (H : Hz) : List Int → Option (V × Hz) := fun ns => if k ∈ ns then some (.int ((ns.idxOf k : Nat) : Int), H) else none
@[simp] theorem idxB_ev (k : Int) (H : Hz) (ns : List Int) : idxB k H ns = if k ∈ ns then some (.int ((ns.idxOf k : Nat) : Int), H) else none := nr rfl
def idxA (k : Int) (H : Hz) : List V → Option (V × Hz) := fun xs => (ints? xs).bind (idxB k H)
@[simp] theorem idxA_ev (k : Int) (H : Hz) (xs : List V) : idxA k H xs = (ints? xs).bind (idxB k H) := nr rfl
@[simp] theorem mIndex_ev (a : Nat) (k : Int) : mIndex (.ref a) [.int k] G = (lstO G[a]?).bind (idxA k G) := by
  show (match G[a]? with | some (.lst xs) => (match ints? xs with | some ns => if k ∈ ns then some (V.int ((ns.idxOf k : Nat) : Int), G) else none | none => none) | _ => none) = _
  cases G[a]? with
  | none => rfl
  | some o =>
    cases o <;> try rfl
    rename_i xs
    show (match ints? xs with | some ns => if k ∈ ns then some (V.int ((ns.idxOf k : Nat) : Int), G) else none | none => none) = (ints? xs).bind (idxB k G)
    cases ints? xs <;> rfl
/-! iterators -/
def itrO (a : Nat) : Option O → Option MIt
  | some (.lst _) => some (itL a)
  | some (.fz _) => some (itL a)
  | _ => none
@[simp] theorem itrO_lst (a : Nat) (xs : List V) : itrO a (some (.lst xs)) = some (itL a) := nr rfl
@[simp] theorem itrO_fz (a : Nat) (xs : List V) : itrO a (some (.fz xs)) = some (itL a) := nr rfl
def itK (H : Hz) : MIt → Option (MIt × Hz) := fun it => some (it, H)
@[simp] theorem itK_ev (H : Hz) (it : MIt) : itK H it = some (it, H) := nr rfl
def itrV : V → Hz → Option (MIt × Hz)
  | .ref a, G => (itrO a G[a]?).bind (itK G)
  | _, _ => none
@[simp] theorem itrV_r (a : Nat) : itrV (.ref a) G = (itrO a G[a]?).bind (itK G) := nr rfl
def itrA  : V × Hz → Option (MIt × Hz) := fun p => itrV p.1 p.2
@[simp] theorem itrA_ev  (x : V) (H : Hz) : itrA  (x, H) = itrV x H := nr rfl
@[simp] theorem iListZ_ev (m : ME) : iListZ m σ G = (m σ G).bind itrA := by
  unfold iListZ
  congr 1
  funext p
  rcases p with ⟨v, H⟩
  cases v <;> try rfl
  rename_i a
  show (match H[a]? with | some (.lst _) => some (itL a, H) | some (.fz _) => some (itL a, H) | _ => none) = (itrO a H[a]?).bind (itK H)
  cases H[a]? with
  | none => rfl
  | some o => cases o <;> rfl
def rng1 : List V → Hz → Option (MIt × Hz)
  | [.int j], G => if small62 j = true then some (itR 0 j.toNat, G) else none
  | _, _ => none
def rng2 : List V → Hz → Option (MIt × Hz)
  | [.int i, .int j], G => if small62 i = true ∧ small62 j = true then some (itR i (j - i).toNat, G) else none
  | _, _ => none
def rng1A  : List V × Hz → Option (MIt × Hz) := fun p => rng1 p.1 p.2
@[simp] theorem rng1A_ev  (xs : List V) (H : Hz) : rng1A  (xs, H) = rng1 xs H := nr rfl
def rng2A  : List V × Hz → Option (MIt × Hz) := fun p => rng2 p.1 p.2
@[simp] theorem rng2A_ev  (xs : List V) (H : Hz) : rng2A  (xs, H) = rng2 xs H := nr rfl
@[simp] theorem iRange1_ev (m : MA) : iRange1 m σ G = (m σ G).bind rng1A := by
  unfold iRange1 rng1A rng1
  congr 1
  funext p
  rcases p with ⟨vs, H⟩
  dsimp only
  split <;> split <;> simp_all [-Option.bind_some]
@[simp] theorem iRange2_ev (m : MA) : iRange2 m σ G = (m σ G).bind rng2A := by
  unfold iRange2 rng2A rng2
  congr 1
  funext p
  rcases p with ⟨vs, H⟩
  dsimp only
  split <;> split <;> simp_all [-Option.bind_some]
def enmB (a : Nat) (H : Hz) : List V → Option (MIt × Hz) := fun xs => some (itE a, H)
@[simp] theorem enmB_ev (a : Nat) (H : Hz) (xs : List V) : enmB a H xs = some (itE a, H) := nr rfl
def enmV : List V → Hz → Option (MIt × Hz)
  | [.ref a], G => (lstO G[a]?).bind (enmB a G)
  | _, _ => none
@[simp] theorem enmV_r (a : Nat) : enmV [.ref a] G = (lstO G[a]?).bind (enmB a G) := nr rfl
def enmA  : List V × Hz → Option (MIt × Hz) := fun p => enmV p.1 p.2
@[simp] theorem enmA_ev  (xs : List V) (H : Hz) : enmA  (xs, H) = enmV xs H := nr rfl
@[simp] theorem iEnumZ_ev (m : MA) : iEnumZ m σ G = (m σ G).bind enmA := by
  unfold iEnumZ
  congr 1
  funext p
  rcases p with ⟨vs, H⟩
  match vs with
  | [] => rfl
  | [.ref a] =>
    show (match H[a]? with | some (.lst _) => some (itE a, H) | _ => none) = (lstO H[a]?).bind (enmB a H)
    cases H[a]? with
    | none => rfl
    | some o => cases o <;> rfl
  | .ref _ :: _ :: _ => rfl
  | .non :: _ => rfl
  | .bl _ :: _ => rfl
  | .int _ :: _ => rfl
  | .str _ :: _ => rfl
  | .byt _ :: _ => rfl
  | .flt _ :: _ => rfl
  | .ty _ :: _ => rfl
def zipC (a b : Nat) (H : Hz) : List V → Option (MIt × Hz) := fun ys => some (itZ a b, H)
@[simp] theorem zipC_ev (a b : Nat) (H : Hz) (ys : List V) : zipC a b H ys = some (itZ a b, H) := nr rfl
def zipB (a b : Nat) (H : Hz) : List V → Option (MIt × Hz) := fun xs => (lstO H[b]?).bind (zipC a b H)
@[simp] theorem zipB_ev (a b : Nat) (H : Hz) (xs : List V) : zipB a b H xs = (lstO H[b]?).bind (zipC a b H) := nr rfl
def zipV : List V → Hz → Option (MIt × Hz)
  | [.ref a, .ref b], G => (lstO G[a]?).bind (zipB a b G)
  | _, _ => none
@[simp] theorem zipV_r (a b : Nat) : zipV [.ref a, .ref b] G = (lstO G[a]?).bind (zipB a b G) := nr rfl
def zipA  : List V × Hz → Option (MIt × Hz) := fun p => zipV p.1 p.2
@[simp] theorem zipA_ev  (xs : List V) (H : Hz) : zipA  (xs, H) = zipV xs H := nr rfl
@[simp] theorem iZipZ_ev (m : MA) : iZipZ m σ G = (m σ G).bind zipA := by
  unfold iZipZ zipA zipV
  congr 1
  funext p
  rcases p with ⟨vs, H⟩
  dsimp only
  split
  · rename_i a b
    show (match H[a]?, H[b]? with | some (.lst _), some (.lst _) => some (itZ a b, H) | _, _ => none) = (lstO H[a]?).bind (zipB a b H)
    cases H[a]? with
    | none => rfl
    | some o =>
      cases o with
      | lst xs =>
        show (match some (O.lst xs), H[b]? with | some (.lst _), some (.lst _) => some (itZ a b, H) | _, _ => none) = (lstO H[b]?).bind (zipC a b H)
        cases H[b]? with
        | none => rfl
        | some u => cases u <;> rfl
      | _ => rfl
  · split <;> simp_all [-Option.bind_some]
end
section
variable {n : Nat}
@[simp] theorem okV_ref (a : Nat) : okV n (.ref a) = decide (a < n) := nr rfl
@[simp] theorem okV_int (i : Int) : okV n (.int i) = true := nr rfl
@[simp] theorem okV_bl (i : Bool) : okV n (.bl i) = true := nr rfl
@[simp] theorem okV_str (i : Str) : okV n (.str i) = true := nr rfl
@[simp] theorem okV_non : okV n .non = true := nr rfl
@[simp] theorem okO_lst (xs : List V) : okO n (.lst xs) = xs.all (okV n) := nr rfl
@[simp] theorem okO_tup (xs : List V) : okO n (.tup xs) = xs.all (okV n) := nr rfl
@[simp] theorem okO_fz (xs : List V) : okO n (.fz xs) = xs.all (okV n) := nr rfl
@[simp] theorem okO_dK (kvs : List (Key × V)) : okO n (.dK kvs) = kvs.all (fun p => okV n p.2) := nr rfl
@[simp] theorem isFz_lst (xs : List V) : isFz (.lst xs) = false := nr rfl
@[simp] theorem isFz_tup (xs : List V) : isFz (.tup xs) = false := nr rfl
@[simp] theorem isFz_dK (xs : List (Key × V)) : isFz (.dK xs) = false := nr rfl
@[simp] theorem isFz_fz (xs : List V) : isFz (.fz xs) = true := nr rfl
@[simp] theorem okS_nil : okS n [] = true := nr rfl
@[simp] theorem okS_none' (σ : St) : okS n (none :: σ) = okS n σ := nr rfl
@[simp] theorem okS_some (v : V) (σ : St) : okS n (some v :: σ) = (okV n v && okS n σ) := nr rfl
@[simp] theorem kept_nil (H : Hz) : keptB n [] H = true := by cases H <;> rfl
@[simp] theorem kept_cons (o u : O) (G H : Hz) : keptB n (o :: G) (u :: H) = ((decide (o = u) || okO n u) && keptB n G H) := nr rfl
end
@[simp] theorem tyZ_non (G : Hz) : tyZ .non G = some "NoneType" := nr rfl
@[simp] theorem tyZ_bl (k : Bool) (G : Hz) : tyZ (.bl k) G = some "bool" := nr rfl
@[simp] theorem tyZ_int (k : Int) (G : Hz) : tyZ (.int k) G = some "int" := nr rfl
@[simp] theorem tyZ_str (k : Str) (G : Hz) : tyZ (.str k) G = some "str" := nr rfl
def tyO : Option O → Option String
  | some (.lst _) => some "list"
  | some (.fz _) => some "list"
  | some (.tup _) => some "tuple"
  | some (.dK _) => some "dict"
  | _ => none
@[simp] theorem tyO_lst (xs : List V) : tyO (some (.lst xs)) = some "list" := nr rfl
@[simp] theorem tyO_fz (xs : List V) : tyO (some (.fz xs)) = some "list" := nr rfl
@[simp] theorem tyO_tup (xs : List V) : tyO (some (.tup xs)) = some "tuple" := nr rfl
@[simp] theorem tyO_dK (xs : List (Key × V)) : tyO (some (.dK xs)) = some "dict" := nr rfl
@[simp] theorem tyZ_ref (a : Nat) (G : Hz) : tyZ (.ref a) G = tyO G[a]? := by
  show (match G[a]? with | some (.lst _) => some "list" | some (.fz _) => some "list" | some (.tup _) => some "tuple" | some (.dK _) => some "dict" | _ => none) = tyO G[a]?
  cases G[a]? with
  | none => rfl
  | some o => cases o <;> rfl
def isiB (H : Hz) : Bool → Option (V × Hz) := fun b => some (.bl b, H)
@[simp] theorem isiB_ev (H : Hz) (b : Bool) : isiB H b = some (.bl b, H) := nr rfl
def isiA (T : String) (H : Hz) : String → Option (V × Hz) := fun t => (isiT t T).bind (isiB H)
@[simp] theorem isiA_ev (T : String) (H : Hz) (t : String) : isiA T H t = (isiT t T).bind (isiB H) := nr rfl
@[simp] theorem fIsi_ev (x : V) (T : String) (G : Hz) : fIsi [x, .ty T] G = (tyZ x G).bind (isiA T G) := nr rfl

/-! ### what is thrown away -/
@[simp] theorem kept_refl (n : Nat) (G : Hz) : keptB n G G = true := by
  induction G with
  | nil => rfl
  | cons o G ih => simp [-Option.bind_some, keptB, ih]
@[simp] theorem kept_app (n : Nat) : ∀ (G H S : Hz), keptB n G H = true → keptB n G (H ++ S) = true
  | [], _, _, _ => rfl
  | _ :: _, [], _, h => by cases h
  | o :: G, o' :: H, S, h => by
    obtain ⟨h1, h2⟩ := Bool.and_eq_true_iff.mp h
    exact Bool.and_eq_true_iff.mpr ⟨h1, kept_app n G H S h2⟩
@[simp] theorem kept_set (n : Nat) : ∀ (G H : Hz) (a : Nat) (o : O), okO n o = true → keptB n G H = true → keptB n G (H.set a o) = true
  | [], _, _, _, _, _ => rfl
  | _ :: _, [], _, _, _, h => by cases h
  | u :: G, u' :: H, 0, o, k, h => by
    obtain ⟨h1, h2⟩ := Bool.and_eq_true_iff.mp h
    exact Bool.and_eq_true_iff.mpr ⟨by rw [k, Bool.or_true], h2⟩
  | u :: G, u' :: H, a + 1, o, k, h => by
    obtain ⟨h1, h2⟩ := Bool.and_eq_true_iff.mp h
    exact Bool.and_eq_true_iff.mpr ⟨h1, kept_set n G H a o k h2⟩
@[simp] theorem take_len (H S : Hz) (n : Nat) (h : H.length = n) : (H ++ S).take n = H := by
  subst h
  simp [-Option.bind_some]
@[simp] theorem take_len0 (H : Hz) (n : Nat) (h : H.length = n) : H.take n = H := by
  subst h
  simp [-Option.bind_some]
theorem lt_get {G : Hz} {a : Nat} {o : O} (h : G[a]? = some o) : a < G.length := lt_of_get h

/-! ### lists of atoms -/
@[simp] theorem okL_int (n : Nat) (ns : List Int) : (ns.map V.int).all (okV n) = true := ints_ok ns
@[simp] theorem okL_f {α : Type} (n : Nat) (xs : List α) (f : α → Int) : (xs.map fun x => V.int (f x)).all (okV n) = true := by simp [-Option.bind_some]
@[simp] theorem okL_b {α : Type} (n : Nat) (xs : List α) (f : α → Bool) : (xs.map fun x => V.bl (f x)).all (okV n) = true := by simp [-Option.bind_some]
@[simp] theorem ints_map (ns : List Int) : ints? (ns.map V.int) = some ns := by
  unfold ints?
  induction ns with
  | nil => rfl
  | cons n ns ih => simp [-Option.bind_some, mapO, ih]
@[simp] theorem ints_mapf {α : Type} (f : α → Int) (xs : List α) : ints? (xs.map fun x => V.int (f x)) = some (xs.map f) := by
  unfold ints?
  induction xs with
  | nil => rfl
  | cons n ns ih => simp [-Option.bind_some, mapO, ih]
@[simp] theorem bls_mapf {α : Type} (f : α → Bool) (xs : List α) : bls? (xs.map fun x => V.bl (f x)) = some (xs.map f) := by
  unfold bls?
  induction xs with
  | nil => rfl
  | cons n ns ih => simp [-Option.bind_some, mapO, ih]
@[simp] theorem ints_cons (i : Int) (xs : List V) : ints? (.int i :: xs) = (ints? xs).map (i :: ·) := by
  unfold ints?
  simp only [mapO, Option.bind_some]
  cases mapO _ xs <;> rfl
@[simp] theorem ints_nil : ints? [] = some [] := nr rfl
@[simp] theorem ints_append (xs ys : List V) : ints? (xs ++ ys) = (ints? xs).bind fun a => (ints? ys).map (a ++ ·) := by
  induction xs with
  | nil => simp [-Option.bind_some]
  | cons x xs ih =>
    cases x with
    | int i =>
      rw [List.cons_append, ints_cons, ih, ints_cons]
      cases ints? xs <;> simp [-Option.bind_some]
      cases ints? ys <;> simp [-Option.bind_some]
    | _ => simp [-Option.bind_some, ints?, mapO]
theorem smallN_of {i : Int} (h : -(10 ^ 500) < i) (h2 : i < 10 ^ 500) : smallN i = true := by
  have e : (10 : Nat) ^ 500 < bigN := by decide +kernel
  refine decide_eq_true (Nat.lt_trans ?_ e)
  have : ((10 : Nat) ^ 500 : Int) = (10 : Int) ^ 500 := by norm_cast
  generalize hb : (10 : Nat) ^ 500 = B at *
  omega

/-! ### loops -/
def After (N B : St → Hz → Prop) (Rt : V → Hz → Prop) : R → Prop
  | .nx σ G => N σ G
  | .ct σ G => N σ G
  | .bk σ G => B σ G
  | .rt v G => Rt v G
/-! ### comprehensions -/
theorem loopC_gen {it : MIt} {turn : V → Hz → Hz → Option Hz} {k : Nat} (Inv : Nat → Hz → Prop)
    (step : ∀ i G, i < k → Inv i G → ∃ x G1 G2, it i G = some (some (x, G1)) ∧ turn x G G1 = some G2 ∧ Inv (i + 1) G2)
    (last : ∀ G, Inv k G → it k G = some none) : ∀ (n i : Nat) G, i ≤ k → Inv i G → k - i < n → ∃ G', loopC it turn n i G = some G' ∧ Inv k G'
  | 0, _, _, _, _, h => by omega
  | n + 1, i, G, hi, hI, hn => by
    unfold loopC
    by_cases q : i = k
    · subst q
      rw [last G hI]
      exact ⟨_, rfl, hI⟩
    · obtain ⟨x, G1, G2, e, e2, z⟩ := step i G (by omega) hI
      rw [e]
      simp only [e2, Option.bind_some]
      exact loopC_gen Inv step last n (i + 1) G2 (by omega) z (by omega)
/-- an iterator that walks xs and changes nothing -/
def Yl (it : MIt) (G : Hz) (xs : List V) : Prop := ∀ (i : Nat) (S : Hz), it i (G ++ S) = some (xs[i]?.map fun x => (x, G ++ S))
theorem yl_list {G : Hz} {a : Nat} {xs : List V} (h : G[a]? = some (.lst xs)) : Yl (itL a) G xs := fun i S => by
  unfold itL
  rw [List.getElem?_append_left (lt_get h), h]
/-- a comprehension whose items are atoms or old: each turn leaves the heap as it is -/
theorem comp_pure {n : Nat} {cm : Bool} {w : MI} {vs : List Nat} {g : MG} {t : MT} {e : ME} {σ : St} {G G0 : Hz} {it : MIt} (xs : List V) (p : V → Bool) (F : V → V) (hw : w σ G = some (it, G0)) (hy : Yl it G0 xs) (hn : xs.length < n) (hs : xs.length ≤ sizeLine)
    (ht : ∀ x ∈ xs, ∀ acc : List V, ∃ σx, g x (wipe σ vs) (G0 ++ [.lst acc]) = some (σx, G0 ++ [.lst acc]) ∧ t σx (G0 ++ [.lst acc]) = some (p x, G0 ++ [.lst acc]) ∧ (p x = true → e σx (G0 ++ [.lst acc]) = some (F x, G0 ++ [.lst acc]) ∧ okV G0.length (F x) = true)) :
    eComp n cm w vs g t e σ G = some (.ref G0.length, G0 ++ [.lst ((xs.filter p).map F)]) := by
  unfold eComp
  rw [hw]
  simp only [Option.bind_some]
  have key := loopC_gen (it := it) (turn := turnC cm g t e G0.length (wipe σ vs)) (k := xs.length) (fun i G => G = G0 ++ [.lst (((xs.take i).filter p).map F)]) (fun i G hi hI => by
    subst hI
    have hx : xs[i] ∈ xs := List.getElem_mem hi
    refine ⟨xs[i], _, _, by rw [hy i, List.getElem?_eq_getElem hi]; rfl, ?_, rfl⟩
    obtain ⟨σx, h1, h2, h3⟩ := ht _ hx (((xs.take i).filter p).map F)
    unfold turnC
    rw [h1]
    simp only [Option.bind_some, h2]
    have et : xs.take (i + 1) = xs.take i ++ [xs[i]] := by rw [List.take_succ, List.getElem?_eq_getElem hi]; rfl
    cases q : p xs[i] with
    | false =>
      have : ((xs.take (i + 1)).filter p).map F = ((xs.take i).filter p).map F := by
        rw [et, List.filter_append, List.filter_cons, q]
        simp [-Option.bind_some]
      rw [this]
      cases cm <;> simp [-Option.bind_some]
    | true =>
      obtain ⟨h3, h4⟩ := h3 q
      have : ((xs.take (i + 1)).filter p).map F = ((xs.take i).filter p).map F ++ [F xs[i]] := by
        rw [et, List.filter_append, List.filter_cons, q]
        simp [-Option.bind_some]
      rw [this, if_pos rfl, h3]
      have hl : (((xs.take i).filter p).map F).length < sizeLine := by
        rw [List.length_map]
        have := List.length_filter_le p (xs.take i)
        rw [List.length_take] at this
        omega
      generalize ((xs.take i).filter p).map F = A at hl h3 ⊢
      have cu : cut (G0 ++ [O.lst A]) (F xs[i]) (G0 ++ [O.lst A]) = some (F xs[i], G0 ++ [O.lst A]) := by
        unfold cut
        rw [if_pos (kept_refl _ _)]
        cases hv : F xs[i] with
        | ref b =>
          rw [hv] at h4
          have h5 : b < G0.length := of_decide_eq_true h4
          have h6 : b < (G0 ++ [O.lst A]).length := by
            rw [List.length_append]
            exact Nat.lt_add_right _ h5
          simp only [if_pos h6]
          rw [List.take_length]
        | _ => simp [-Option.bind_some]
      have fin : (match (G0 ++ [O.lst A])[G0.length]? with
          | some (.lst acc) => if acc.length < sizeLine then some ((G0 ++ [O.lst A]).set G0.length (.lst (acc ++ [F xs[i]]))) else none
          | _ => none) = some (G0 ++ [.lst (A ++ [F xs[i]])]) := by
        rw [List.getElem?_append_right (Nat.le_refl _), Nat.sub_self]
        simp only [List.getElem?_cons_zero, if_pos hl]
        rw [List.set_append_right _ _ (Nat.le_refl _), Nat.sub_self]
        rfl
      cases cm with
      | false => exact fin
      | true =>
        simp only [Option.bind_some, if_true, cu]
        exact fin) (fun G hI => by
    subst hI
    rw [hy xs.length, List.getElem?_eq_none (Nat.le_refl _)]
    rfl) n 0 (G0 ++ [.lst []]) (Nat.zero_le _) rfl (by omega)
  obtain ⟨G', e1, e2⟩ := key
  rw [e1, e2, List.take_length]
  rfl
/-- .. over ints, with a test -/
theorem comp_intsP {n : Nat} {cm : Bool} {w : MI} {vs : List Nat} {g : MG} {t : MT} {e : ME} {σ : St} {G G0 : Hz} {it : MIt} (ns : List Int) (p : Int → Bool) (F : Int → V) (hw : w σ G = some (it, G0)) (hy : Yl it G0 (ns.map V.int)) (hn : ns.length < n) (hs : ns.length ≤ sizeLine)
    (ht : ∀ i ∈ ns, ∀ acc : List V, ∃ σx, g (.int i) (wipe σ vs) (G0 ++ [.lst acc]) = some (σx, G0 ++ [.lst acc]) ∧ t σx (G0 ++ [.lst acc]) = some (p i, G0 ++ [.lst acc]) ∧ (p i = true → e σx (G0 ++ [.lst acc]) = some (F i, G0 ++ [.lst acc]) ∧ okV G0.length (F i) = true)) :
    eComp n cm w vs g t e σ G = some (.ref G0.length, G0 ++ [.lst ((ns.filter p).map F)]) := by
  rw [comp_pure (it := it) (G0 := G0) (ns.map V.int) (fun v => match v with | .int i => p i | _ => false) (fun v => match v with | .int i => F i | v => v) hw hy (by rw [List.length_map]; exact hn) (by rw [List.length_map]; exact hs) (fun x hx acc => by
    obtain ⟨i, hi, rfl⟩ := List.mem_map.mp hx
    exact ht i hi acc)]
  rw [List.filter_map, List.map_map]
  rfl
theorem comp_ints {n : Nat} {cm : Bool} {w : MI} {vs : List Nat} {g : MG} {e : ME} {σ : St} {G G0 : Hz} {it : MIt} (ns : List Int) (F : Int → V) (hw : w σ G = some (it, G0)) (hy : Yl it G0 (ns.map V.int)) (hn : ns.length < n) (hs : ns.length ≤ sizeLine)
    (ht : ∀ i ∈ ns, ∀ acc : List V, ∃ σx, g (.int i) (wipe σ vs) (G0 ++ [.lst acc]) = some (σx, G0 ++ [.lst acc]) ∧ e σx (G0 ++ [.lst acc]) = some (F i, G0 ++ [.lst acc]) ∧ okV G0.length (F i) = true) :
    eComp n cm w vs g tYesZ e σ G = some (.ref G0.length, G0 ++ [.lst (ns.map F)]) := by
  rw [comp_intsP (it := it) (G0 := G0) ns (fun _ => true) F hw hy hn hs (fun i hi acc => by
    obtain ⟨σx, h1, h2, h3⟩ := ht i hi acc
    exact ⟨σx, h1, rfl, fun _ => ⟨h2, h3⟩⟩)]
  rw [List.filter_eq_self.mpr fun _ _ => rfl]
end Zl

/-! Pl, part 0: pure trees in place of the heap; a pure meaning of the language's pieces. -/
namespace Pl
open PySem L2 Zl
/-- who may change a node: this def alone; nobody here, for it is lent; nobody at all -/
inductive Fl where
  | own | bor | frz
  deriving DecidableEq
inductive Kd where
  | lst | tup | fz | dct (ks : List Key) | st (ns : List Int) (n : Nat) | ex (k : Nat) | dt (kvs : List (List Int × Int)) | ld (a : Nat) (kvs : List (List Int × Int)) | lK (a : Nat) (kvs : List (Key × V))
  deriving DecidableEq
inductive Tr where
  | av (v : V) | nd (f : Fl) (k : Kd) (xs : List Tr)
def I (i : Int) : Tr := .av (.int i)
def B (b : Bool) : Tr := .av (.bl b)
def S (s : Str) : Tr := .av (.str s)
def NN : Tr := .av .non
def L (f : Fl) (xs : List Tr) : Tr := .nd f .lst xs
def U (f : Fl) (xs : List Tr) : Tr := .nd f .tup xs
mutual
def Tr.toB : Tr → Tr
  | .av v => .av v
  | .nd _ k xs => .nd .bor k (toBs xs)
def toBs : List Tr → List Tr
  | [] => []
  | x :: xs => x.toB :: toBs xs
end
mutual
/-- lent, frozen parts stay frozen -/
def Tr.toK : Tr → Tr
  | .av v => .av v
  | .nd .own k xs => .nd .bor k (toKs xs)
  | .nd f k xs => .nd f k xs
def toKs : List Tr → List Tr
  | [] => []
  | x :: xs => x.toK :: toKs xs
end
mutual
def Tr.toF : Tr → Tr
  | .av v => .av v
  | .nd _ k xs => .nd .frz k (toFs xs)
def toFs : List Tr → List Tr
  | [] => []
  | x :: xs => x.toF :: toFs xs
end
mutual
def Tr.nob : Tr → Bool
  | .av _ => true
  | .nd .bor _ _ => false
  | .nd .own _ xs => nobs xs
  | .nd .frz _ xs => nobs xs
def nobs : List Tr → Bool
  | [] => true
  | x :: xs => x.nob && nobs xs
end
/-- given away for good -/
def Tr.dem (t : Tr) : Tr := if t.nob = true then t.toF else t.toB
def Tr.sh : Tr → Bool
  | .nd .own _ _ => false
  | _ => true
/-- a value on its way: a tree, or the thing that a slot has -/
inductive E where
  | t (x : Tr) | al (i : Nat)
abbrev PSt := List (Option Tr)
def getT : Option (Option Tr) → Option Tr
  | some (some x) => some x
  | _ => none
def dr (ρ : PSt) : E → Option Tr
  | .t x => some x
  | .al i => getT ρ[i]?
abbrev PE := PSt → Option (E × PSt)
abbrev PA := PSt → Option (List E × PSt)
abbrev PT := PSt → Option (Bool × PSt)
/-! ### expressions -/
def varK (i : Nat) (ρ : PSt) : Tr → Option (E × PSt)
  | .nd .own _ _ => some (.al i, ρ)
  | t => some (.t t, ρ)
def pVar (i : Nat) : PE := fun ρ => (getT ρ[i]?).bind (varK i ρ)
def mvK (i : Nat) (ρ : PSt) : Tr → Option (E × PSt) := fun t => some (.t t, ρ.set i none)
/-- the slot gives what it has -/
def pMv (i : Nat) : PE := fun ρ => (getT ρ[i]?).bind (mvK i ρ)
def fzK (i : Nat) (ρ : PSt) : Tr → Option (E × PSt) := fun t => some (.t t.dem, ρ.set i (some t.dem))
/-- from now on nobody changes what the slot has -/
def pFz (i : Nat) : PE := fun ρ => (getT ρ[i]?).bind (fzK i ρ)
def pC (v : V) : PE := fun ρ => some (.t (.av v), ρ)
def retT (ρ : PSt) : Tr → Option (E × PSt) := fun t => some (.t t, ρ)
abbrev P1 := Tr → Option Tr
abbrev P2 := Tr → Tr → Option Tr
abbrev PL := List Tr → Option Tr
def pBin4 (g : P2) (t1 : Tr) (ρ : PSt) : Tr → Option (E × PSt) := fun t2 => (g t1 t2).bind (retT ρ)
def pBin3 (g : P2) (e2 : E) (ρ : PSt) : Tr → Option (E × PSt) := fun t1 => (dr ρ e2).bind (pBin4 g t1 ρ)
def pBin2 (g : P2) (e1 : E) : E × PSt → Option (E × PSt) := fun p => (dr p.2 e1).bind (pBin3 g p.1 p.2)
def pBin1 (g : P2) (b : PE) : E × PSt → Option (E × PSt) := fun p => (b p.2).bind (pBin2 g p.1)
def pBin (g : P2) (a b : PE) : PE := fun ρ => (a ρ).bind (pBin1 g b)
def pUn2 (g : P1) (ρ : PSt) : Tr → Option (E × PSt) := fun t => (g t).bind (retT ρ)
def pUn1 (g : P1) : E × PSt → Option (E × PSt) := fun p => (dr p.2 p.1).bind (pUn2 g p.2)
def pUn (g : P1) (a : PE) : PE := fun ρ => (a ρ).bind (pUn1 g)
def asB : Tr → Option Bool
  | .av (.bl b) => some b
  | _ => none
def asI : Tr → Option Int
  | .av (.int i) => some i
  | _ => none
/-- tests -/
def tB2 (ρ : PSt) : Bool → Option (Bool × PSt) := fun b => some (b, ρ)
def tB1 (ρ : PSt) : Tr → Option (Bool × PSt) := fun t => (asB t).bind (tB2 ρ)
def tB0 : E × PSt → Option (Bool × PSt) := fun p => (dr p.2 p.1).bind (tB1 p.2)
def qE (a : PE) : PT := fun ρ => (a ρ).bind tB0
def qAnd1 (b : PT) : Bool × PSt → Option (Bool × PSt) := fun p => if p.1 = true then b p.2 else some (false, p.2)
def qAnd (a b : PT) : PT := fun ρ => (a ρ).bind (qAnd1 b)
def qOr1 (b : PT) : Bool × PSt → Option (Bool × PSt) := fun p => if p.1 = true then some (true, p.2) else b p.2
def qOr (a b : PT) : PT := fun ρ => (a ρ).bind (qOr1 b)
def qNot1 : Bool × PSt → Option (Bool × PSt) := fun p => some (!p.1, p.2)
def qNot (a : PT) : PT := fun ρ => (a ρ).bind qNot1
def qYes : PT := fun ρ => some (true, ρ)
def pAnd1 (b : PE) : Bool × PSt → Option (E × PSt) := fun p => if p.1 = true then b p.2 else some (.t (B false), p.2)
def pAnd (a b : PE) : PE := fun ρ => ((a ρ).bind tB0).bind (pAnd1 b)
def pOr1 (b : PE) : Bool × PSt → Option (E × PSt) := fun p => if p.1 = true then some (.t (B true), p.2) else b p.2
def pOr (a b : PE) : PE := fun ρ => ((a ρ).bind tB0).bind (pOr1 b)
def pNot1 : Bool × PSt → Option (E × PSt) := fun p => some (.t (B (!p.1)), p.2)
def pNot (a : PE) : PE := fun ρ => ((a ρ).bind tB0).bind pNot1
def pIf1 (a b : PE) : Bool × PSt → Option (E × PSt) := fun p => if p.1 = true then a p.2 else b p.2
def pIf (t : PT) (a b : PE) : PE := fun ρ => (t ρ).bind (pIf1 a b)
/-- a < b < c -/
def atT : Tr → Option V
  | .av v => some v
  | _ => none
def pCh5 (g : P2) (w : V) (ρ : PSt) : Tr → Option (E × PSt) := fun t3 => (g (.av w) t3).bind (retT ρ)
def pCh4 (g : P2) (w : V) : E × PSt → Option (E × PSt) := fun p => (dr p.2 p.1).bind (pCh5 g w p.2)
def pCh3 (g : P2) (c : PE) (w : V) (ρ : PSt) : Bool → Option (E × PSt) := fun b => if b = true then (c ρ).bind (pCh4 g w) else some (.t (B false), ρ)
def pCh2b (f g : P2) (c : PE) (t1 : Tr) (ρ : PSt) : V → Option (E × PSt) := fun w => ((f t1 (.av w)).bind asB).bind (pCh3 g c w ρ)
def pCh2 (f g : P2) (c : PE) (t1 : Tr) (ρ : PSt) : Tr → Option (E × PSt) := fun t2 => (atT t2).bind (pCh2b f g c t1 ρ)
def pCh1 (f g : P2) (c : PE) (e2 : E) (ρ : PSt) : Tr → Option (E × PSt) := fun t1 => (dr ρ e2).bind (pCh2 f g c t1 ρ)
def pCh0 (f g : P2) (c : PE) (e1 : E) : E × PSt → Option (E × PSt) := fun p => (dr p.2 e1).bind (pCh1 f g c p.1 p.2)
def pChA (f g : P2) (b c : PE) : E × PSt → Option (E × PSt) := fun p => (b p.2).bind (pCh0 f g c p.1)
def pChain (f g : P2) (a b c : PE) : PE := fun ρ => (a ρ).bind (pChA f g b c)
/-- arguments -/
def aNilP : PA := fun ρ => some ([], ρ)
def aC2 (e : E) : List E × PSt → Option (List E × PSt) := fun p => some (e :: p.1, p.2)
def aC1 (r : PA) : E × PSt → Option (List E × PSt) := fun p => (r p.2).bind (aC2 p.1)
def aConsP (a : PE) (r : PA) : PA := fun ρ => (a ρ).bind (aC1 r)
/-- seen, given away -/
def drs (ρ : PSt) : List E → Option (List Tr)
  | [] => some []
  | e :: es => (dr ρ e).bind fun t => (drs ρ es).map (t :: ·)
def tk : E → Option Tr
  | .t x => some x.dem
  | .al _ => none
def kp : E → Option Tr
  | .t x => some x
  | .al _ => none
def tks2 (x : Tr) : List Tr × PSt → Option (List Tr × PSt) := fun q => some (x :: q.1, q.2)
def tks : List E → Option (List Tr)
  | [] => some []
  | e :: es => (tk e).bind fun t => (tks es).map (t :: ·)
def kps : List E → Option (List Tr)
  | [] => some []
  | e :: es => (kp e).bind fun t => (kps es).map (t :: ·)
def mkL2 (k : Kd) (ρ : PSt) : List Tr → Option (E × PSt) := fun ts => if ts.length ≤ sizeLine then some (.t (.nd .own k ts), ρ) else none
def pDis1 (k : Kd) : List E × PSt → Option (E × PSt) := fun p => (tks p.1).bind (mkL2 k p.2)
/-- [a, b], (a, b) -/
def pDis (k : Kd) (r : PA) : PE := fun ρ => (r ρ).bind (pDis1 k)
def pKeep1 (k : Kd) : List E × PSt → Option (E × PSt) := fun p => (kps p.1).bind (mkL2 k p.2)
def pKeep (k : Kd) (r : PA) : PE := fun ρ => (r ρ).bind (pKeep1 k)
def pCall2 (g : PL) (ρ : PSt) : List Tr → Option (E × PSt) := fun ts => (g ts).bind (retT ρ)
def pCall1 (g : PL) : List E × PSt → Option (E × PSt) := fun p => (drs p.2 p.1).bind (pCall2 g p.2)
def pCall (g : PL) (r : PA) : PE := fun ρ => (r ρ).bind (pCall1 g)
/-! ### calls of defs: how each argument goes in: read only, given away, changed -/
inductive Md where
  | r | s | m (i : Nat) | f
abbrev PF := List Tr → Option (Tr × PSt)
def cvM (i : Nat) (ρ : PSt) : E → Option (Tr × PSt)
  | .t x => some (x, ρ)
  | .al j => if j = i then (getT ρ[i]?).map fun t => (t, ρ.set i none) else none
def cvR (e : E) : List Tr × PSt → Option (List Tr × PSt) := fun q => (dr q.2 e).map fun t => (t.toB :: q.1, q.2)
def cvF (e : E) : List Tr × PSt → Option (List Tr × PSt) := fun q => (dr q.2 e).map fun t => (t.toK :: q.1, q.2)
/-- what is read only is looked at last -/
def cv (ρ : PSt) : List Md → List E → Option (List Tr × PSt)
  | .r :: ms, e :: es => (cv ρ ms es).bind (cvR e)
  | .f :: ms, e :: es => (cv ρ ms es).bind (cvF e)
  | .s :: ms, e :: es => (tk e).bind fun t => (cv ρ ms es).bind (tks2 t)
  | .m i :: ms, e :: es => (cvM i ρ e).bind fun p => (cv p.2 ms es).bind (tks2 p.1)
  | [], [] => some ([], ρ)
  | _, _ => none
/-- what was changed goes back -/
def back (ρ : PSt) : List Md → List E → PSt → Option PSt
  | .m i :: ms, .al j :: es, f :: fs => if j = i then (getT (some f)).bind fun t => if t.nob = true then back (ρ.set i (some t)) ms es fs else none else none
  | _ :: ms, _ :: es, _ :: fs => back ρ ms es fs
  | [], [], _ => some ρ
  | _, _, _ => none
def mdS : List Md → List Nat
  | [] => []
  | .m i :: ms => i :: mdS ms
  | _ :: ms => mdS ms
def pFn4 (t : Tr) : PSt → Option (E × PSt) := fun ρ => some (.t t, ρ)
def pFn3 (ms : List Md) (es : List E) (ρ : PSt) : Tr × PSt → Option (E × PSt) := fun p => (back ρ ms es p.2).bind (pFn4 p.1)
def pFn2 (g : PF) (ms : List Md) (dvs : List V) (es : List E) : List Tr × PSt → Option (E × PSt) := fun p => (g (p.1 ++ dvs.map .av)).bind (pFn3 ms es p.2)
def pFn1 (g : PF) (ms : List Md) (dvs : List V) : List E × PSt → Option (E × PSt) := fun p => (cv p.2 ms p.1).bind (pFn2 g ms dvs p.1)
def pFn (g : PF) (ms : List Md) (dvs : List V) (r : PA) : PE := fun ρ => (r ρ).bind (pFn1 g ms dvs)
/-! ### methods that change what a slot has -/
abbrev PM := Tr → List Tr → Option (Tr × Tr)
def pMut4 (i : Nat) (ρ : PSt) : Tr × Tr → Option (E × PSt) := fun p => some (.t p.1, ρ.set i (some p.2))
def pMut3 (g : PM) (i : Nat) (ts : List Tr) (ρ : PSt) : Tr → Option (E × PSt) := fun t => (g t ts).bind (pMut4 i ρ)
def pMut2 (g : PM) (i : Nat) (ρ : PSt) : List Tr → Option (E × PSt) := fun ts => (getT ρ[i]?).bind (pMut3 g i ts ρ)
/-- the arguments: 0 seen, 1 given away, 2 kept whole -/
def argsT (tc : Nat) (ρ : PSt) (es : List E) : Option (List Tr) := match tc with
  | 0 => drs ρ es
  | 1 => tks es
  | _ => kps es
def pMut1 (tc : Nat) (g : PM) (i : Nat) : List E × PSt → Option (E × PSt) := fun p => (argsT tc p.2 p.1).bind (pMut2 g i p.2)
def isLT : Tr → Bool
  | .nd _ .lst _ => true
  | _ => false
def isDT : Tr → Bool
  | .nd _ (.dct _) _ => true
  | _ => false
def pMut0 (ck : Tr → Bool) (tc : Nat) (g : PM) (i : Nat) (r : PA) (ρ : PSt) : Tr → Option (E × PSt) := fun t => if ck t = true then (r ρ).bind (pMut1 tc g i) else none
def pMut (ck : Tr → Bool) (tc : Nat) (g : PM) (i : Nat) (r : PA) : PE := fun ρ => (getT ρ[i]?).bind (pMut0 ck tc g i r ρ)
/-! ### statements -/
inductive PR where
  | nx (ρ : PSt) | rt (t : Tr) (ρ : PSt) | bk (ρ : PSt) | ct (ρ : PSt)
abbrev PS := PSt → Option PR
def PR.then (r : PR) (k : PS) : Option PR := match r with
  | .nx ρ => k ρ
  | r => some r
def zSeq1 (b : PS) : PR → Option PR := fun r => r.then b
def zSeq (a b : PS) : PS := fun ρ => (a ρ).bind (zSeq1 b)
def zPass : PS := fun ρ => some (.nx ρ)
def zNever : PS := fun _ => none
def zBreak : PS := fun ρ => some (.bk ρ)
def zCont : PS := fun ρ => some (.ct ρ)
def kills (ρ : PSt) : List Nat → PSt
  | [] => ρ
  | i :: is => kills (ρ.set i none) is
def zKill1 (ds : List Nat) : PR → Option PR := fun r => match r with
  | .nx ρ => some (.nx (kills ρ ds))
  | .ct ρ => some (.ct (kills ρ ds))
  | r => some r
/-- behind b the slots ds are not used -/
def zKill (ds : List Nat) (b : PS) : PS := fun ρ => (b ρ).bind (zKill1 ds)
def zExpr1 : E × PSt → Option PR := fun p => some (.nx p.2)
def zExpr (a : PE) : PS := fun ρ => (a ρ).bind zExpr1
def zRet2 (ρ : PSt) : Tr → Option PR := fun t => some (.rt t ρ)
def zRet1 : E × PSt → Option PR := fun p => (kp p.1).bind (zRet2 p.2)
def zRet (a : PE) : PS := fun ρ => (a ρ).bind zRet1
def zRetN : PS := fun ρ => some (.rt NN ρ)
def zIf1 (a b : PS) : Bool × PSt → Option PR := fun p => if p.1 = true then a p.2 else b p.2
def zIf (t : PT) (a b : PS) : PS := fun ρ => (t ρ).bind (zIf1 a b)
/-- targets -/
abbrev PG := Tr → PSt → Option PSt
def gS (i : Nat) : PG := fun t ρ => some (ρ.set i (some t))
def gLs : List PG → List Tr → PSt → Option PSt
  | [], [], ρ => some ρ
  | g :: gs, t :: ts, ρ => (g t ρ).bind (gLs gs ts)
  | _, _, _ => none
def gU (gs : List PG) : PG := fun t ρ => match t with
  | .nd _ .tup xs => gLs gs xs ρ
  | .nd _ .lst xs => gLs gs xs ρ
  | _ => none
def zAsg2 : PSt → Option PR := fun ρ => some (.nx ρ)
def zAsg1 (g : PG) (ρ : PSt) : Tr → Option PR := fun t => (g t ρ).bind zAsg2
def zAsg0 (g : PG) : E × PSt → Option PR := fun p => (kp p.1).bind (zAsg1 g p.2)
def zAsg (e : PE) (g : PG) : PS := fun ρ => (e ρ).bind (zAsg0 g)
/-- x[i] = e, x the thing of a slot -/
abbrev PP := Tr → Tr → Tr → Option Tr
def zPut5 (x : Nat) (ρ : PSt) : Tr → Option PR := fun t => some (.nx (ρ.set x (some t)))
def zPut4 (f : PP) (x : Nat) (v : Tr) (ρ : PSt) (o : Tr) : Tr → Option PR := fun i => (f o i v).bind (zPut5 x ρ)
def zPut3 (f : PP) (x : Nat) (v : Tr) (i : E) (ρ : PSt) : Tr → Option PR := fun o => (dr ρ i).bind (zPut4 f x v ρ o)
def zPut2 (f : PP) (x : Nat) (v : Tr) : E × PSt → Option PR := fun p => (getT p.2[x]?).bind (zPut3 f x v p.1 p.2)
def zPut1 (f : PP) (x : Nat) (i : PE) (ρ : PSt) : Tr → Option PR := fun v => (i ρ).bind (zPut2 f x v)
def zPut0 (f : PP) (x : Nat) (i : PE) : E × PSt → Option PR := fun p => (tk p.1).bind (zPut1 f x i p.2)
def zPut (f : PP) (e : PE) (x : Nat) (i : PE) : PS := fun ρ => (e ρ).bind (zPut0 f x i)
/-- a, b = e1, e2 -/
def setP : List Nat → List Tr → PSt → Option PSt
  | [], [], ρ => some ρ
  | i :: is, t :: ts, ρ => setP is ts (ρ.set i (some t))
  | _, _, _ => none
def zPar1 (is : List Nat) (ρ : PSt) : List Tr → Option PR := fun ts => (setP is ts ρ).bind zAsg2
def zPar0 (is : List Nat) : List E × PSt → Option PR := fun p => (kps p.1).bind (zPar1 is p.2)
def zPar (is : List Nat) (r : PA) : PS := fun ρ => (r ρ).bind (zPar0 is)
/-- x += e, of atoms -/
def zAug4 (i : Nat) (ρ : PSt) : Tr → Option PR := fun t => some (.nx (ρ.set i (some t)))
def zAug3 (g : P2) (i : Nat) (ρ : PSt) (w : V) : Tr → Option PR := fun t2 => (g (.av w) t2).bind (zAug4 i ρ)
def zAug2 (g : P2) (i : Nat) (w : V) : E × PSt → Option PR := fun p => (dr p.2 p.1).bind (zAug3 g i p.2 w)
def zAug1 (g : P2) (i : Nat) (e : PE) (ρ : PSt) : V → Option PR := fun w => (e ρ).bind (zAug2 g i w)
def zAug (i : Nat) (g : P2) (e : PE) : PS := fun ρ => ((getT ρ[i]?).bind atT).bind (zAug1 g i e ρ)
/-! ### loops -/
abbrev PI := PSt → Option (List Tr × PSt)
def lp3 (k : PSt → Option PR) : PR → Option PR := fun r => match r with
  | .nx ρ => k ρ
  | .ct ρ => k ρ
  | .bk ρ => some (.nx ρ)
  | .rt v ρ => some (.rt v ρ)
def lp2 (b : PS) (k : PSt → Option PR) : PSt → Option PR := fun ρ => (b ρ).bind (lp3 k)
def lpF (g : PG) (b : PS) : List Tr → PSt → Option PR
  | [], ρ => some (.nx ρ)
  | x :: xs, ρ => (g x ρ).bind (lp2 b (lpF g b xs))
def zFor1 (n : Nat) (g : PG) (b : PS) : List Tr × PSt → Option PR := fun p => if p.1.length < n then lpF g b p.1 p.2 else none
def zFor (n : Nat) (w : PI) (g : PG) (b : PS) : PS := fun ρ => (w ρ).bind (zFor1 n g b)
def lpW1 (b : PS) (k : PSt → Option PR) : Bool × PSt → Option PR := fun p => if p.1 = true then (b p.2).bind (lp3 k) else some (.nx p.2)
/-- iterables -/
def pT1 : E × PSt → Option (E × PSt) := fun p => (kp p.1).bind (retT p.2)
/-- a fresh thing, no slot's -/
def pT (a : PE) : PE := fun ρ => (a ρ).bind pT1
def small62T : Tr → Option Int
  | .av (.int j) => if small62 j = true then some j else none
  | _ => none
def rgT (i j : Int) : List Tr := (List.range (j - i).toNat).map fun (k : Nat) => I (i + (k : Int))
def wR1b (ρ : PSt) : Int → Option (List Tr × PSt) := fun j => some (rgT 0 j, ρ)
def wR1a : E × PSt → Option (List Tr × PSt) := fun p => ((dr p.2 p.1).bind small62T).bind (wR1b p.2)
def wR1 (a : PE) : PI := fun ρ => (a ρ).bind wR1a
def wR2c (i : Int) (ρ : PSt) : Int → Option (List Tr × PSt) := fun j => some (rgT i j, ρ)
def wR2b (e2 : E) (ρ : PSt) : Int → Option (List Tr × PSt) := fun i => ((dr ρ e2).bind small62T).bind (wR2c i ρ)
def wR2a (e1 : E) : E × PSt → Option (List Tr × PSt) := fun p => ((dr p.2 e1).bind small62T).bind (wR2b p.1 p.2)
def wR20 (b : PE) : E × PSt → Option (List Tr × PSt) := fun p => (b p.2).bind (wR2a p.1)
def wR2 (a b : PE) : PI := fun ρ => (a ρ).bind (wR20 b)
def dgT (i j : Int) : List Tr := (List.range (i - j).toNat).map fun (k : Nat) => I (i - (k : Int))
def wRDc (i : Int) (ρ : PSt) : Int → Option (List Tr × PSt) := fun j => some (dgT i j, ρ)
def wRDb (e2 : E) (ρ : PSt) : Int → Option (List Tr × PSt) := fun i => ((dr ρ e2).bind small62T).bind (wRDc i ρ)
def wRDa (e1 : E) : E × PSt → Option (List Tr × PSt) := fun p => ((dr p.2 e1).bind small62T).bind (wRDb p.1 p.2)
def wRD0 (b : PE) : E × PSt → Option (List Tr × PSt) := fun p => (b p.2).bind (wRDa p.1)
def wRD (a b : PE) : PI := fun ρ => (a ρ).bind (wRD0 b)
def shs (xs : List Tr) : Option (List Tr) := if xs.all Tr.sh = true then some xs else none
/-- a list that a loop may walk -/
def seqT : Tr → Option (List Tr)
  | .nd _ .lst xs => shs xs
  | .nd _ .fz xs => shs xs
  | _ => none
def lsT : Tr → Option (List Tr)
  | .nd _ .lst xs => shs xs
  | _ => none
def pairI (ρ : PSt) : List Tr → Option (List Tr × PSt) := fun xs => some (xs, ρ)
def wL1 : E × PSt → Option (List Tr × PSt) := fun p => ((dr p.2 p.1).bind seqT).bind (pairI p.2)
def wL (a : PE) : PI := fun ρ => (a ρ).bind wL1
def enT (k : Int) (xs : List Tr) : List Tr := xs.zipIdx.map fun p => U .own [I (k + (p.2 : Int)), p.1]
def enI (k : Int) (ρ : PSt) : List Tr → Option (List Tr × PSt) := fun xs => some (enT k xs, ρ)
def wEn1 (k : Int) : E × PSt → Option (List Tr × PSt) := fun p => ((dr p.2 p.1).bind lsT).bind (enI k p.2)
def wEn (k : Int) (a : PE) : PI := fun ρ => (a ρ).bind (wEn1 k)
def zpT (xs ys : List Tr) : List Tr := (xs.zip ys).map fun p => U .own [p.1, p.2]
def wZp3 (ρ : PSt) (xs : List Tr) : List Tr → Option (List Tr × PSt) := fun ys => some (zpT xs ys, ρ)
def wZp2 (e2 : E) (ρ : PSt) : List Tr → Option (List Tr × PSt) := fun xs => ((dr ρ e2).bind lsT).bind (wZp3 ρ xs)
def wZp1 (e1 : E) : E × PSt → Option (List Tr × PSt) := fun p => ((dr p.2 e1).bind lsT).bind (wZp2 p.1 p.2)
def wZp0 (b : PE) : E × PSt → Option (List Tr × PSt) := fun p => (b p.2).bind (wZp1 p.1)
def wZp (a b : PE) : PI := fun ρ => (a ρ).bind (wZp0 b)
/-! ### comprehensions -/
def cAcc (vs : List Nat) (acc : List Tr) (ρ : PSt) : Tr → Option (List Tr × PSt) := fun t => if acc.length < sizeLine then some (acc ++ [t], kills ρ vs) else none
/-- kk: the items stay whole -/
def cEl (kk : Bool) (vs : List Nat) (acc : List Tr) : E × PSt → Option (List Tr × PSt) := fun p => (if kk = true then kp p.1 else tk p.1).bind (cAcc vs acc p.2)
def cIt (kk : Bool) (vs : List Nat) (e : PE) (acc : List Tr) : Bool × PSt → Option (List Tr × PSt) := fun p => if p.1 = true then (e p.2).bind (cEl kk vs acc) else some (acc, kills p.2 vs)
def cTu (kk : Bool) (vs : List Nat) (t : PT) (e : PE) (acc : List Tr) : PSt → Option (List Tr × PSt) := fun ρ => (t ρ).bind (cIt kk vs e acc)
def cLp1 (k : List Tr → PSt → Option (List Tr × PSt)) : List Tr × PSt → Option (List Tr × PSt) := fun p => k p.1 p.2
def cLp (kk : Bool) (vs : List Nat) (g : PG) (t : PT) (e : PE) : List Tr → List Tr → PSt → Option (List Tr × PSt)
  | [], acc, ρ => some (acc, ρ)
  | x :: xs, acc, ρ => ((g x ρ).bind (cTu kk vs t e acc)).bind (cLp1 (cLp kk vs g t e xs))
def mkLO : List Tr × PSt → Option (E × PSt) := fun p => some (.t (.nd .own .lst p.1), p.2)
def pComp1 (n : Nat) (kk : Bool) (vs : List Nat) (g : PG) (t : PT) (e : PE) : List Tr × PSt → Option (E × PSt) := fun p => if p.1.length < n then (cLp kk vs g t e p.1 [] (kills p.2 vs)).bind mkLO else none
def pComp (n : Nat) (kk : Bool) (w : PI) (vs : List Nat) (g : PG) (t : PT) (e : PE) : PE := fun ρ => (w ρ).bind (pComp1 n kk vs g t e)
def c2In (kk : Bool) (n : Nat) (vs1 : List Nat) (g1 : PG) (t1 : PT) (e : PE) (acc : List Tr) : List Tr × PSt → Option (List Tr × PSt) := fun p => if p.1.length < n then cLp kk vs1 g1 t1 e p.1 acc (kills p.2 vs1) else none
def c2Ki (vs : List Nat) : List Tr × PSt → Option (List Tr × PSt) := fun p => some (p.1, kills p.2 vs)
def c2It (kk : Bool) (n : Nat) (vs : List Nat) (w1 : PI) (vs1 : List Nat) (g1 : PG) (t1 : PT) (e : PE) (acc : List Tr) : Bool × PSt → Option (List Tr × PSt) := fun p => if p.1 = true then ((w1 p.2).bind (c2In kk n vs1 g1 t1 e acc)).bind (c2Ki vs) else some (acc, kills p.2 vs)
def c2Tu (kk : Bool) (n : Nat) (vs : List Nat) (t : PT) (w1 : PI) (vs1 : List Nat) (g1 : PG) (t1 : PT) (e : PE) (acc : List Tr) : PSt → Option (List Tr × PSt) := fun ρ => (t ρ).bind (c2It kk n vs w1 vs1 g1 t1 e acc)
/-! ### defs -/
def startP (n : Nat) (ts : List Tr) : PSt := ts.map some ++ List.replicate (n - ts.length) none
/-- of the arguments' slots those of mp -/
def mask (mp : List Nat) : Nat → List Tr → PSt → PSt
  | _, [], _ => []
  | k, _ :: ts, ρ => (if k ∈ mp then getT ρ[k]? else none) :: mask mp (k + 1) ts ρ
def runK (mp : List Nat) (ts : List Tr) (t : Tr) (ρ : PSt) : Option (Tr × PSt) := if t.nob = true then some (t, mask mp 0 ts ρ) else none
def runP1 (mp : List Nat) (ts : List Tr) : PR → Option (Tr × PSt) := fun r => match r with
  | .nx ρ => some (NN, mask mp 0 ts ρ)
  | .rt t ρ => runK mp ts t ρ
  | _ => none
/-- mp: the arguments that are changed -/
def runP (mp : List Nat) (n : Nat) (b : PS) : PF := fun ts => (b (startP n ts)).bind (runP1 mp ts)
end Pl

/-! Pl, part 1: trees stand in the plain heap. -/
namespace Pl
open PySem L2 Zl
def isAt : V → Bool
  | .ref _ => false
  | _ => true
def Kd.mk : Kd → List V → O
  | .lst, vs => .lst vs
  | .tup, vs => .tup vs
  | .fz, vs => .fz vs
  | .dct ks, vs => .dK (ks.zip vs)
  | .st ns n, _ => .xt (.st ns n)
  | .ex k, _ => .xt (.ex k)
  | .dt kvs, _ => .xt (.dt kvs)
  | .ld a kvs, _ => .xt (.ld a kvs)
  | .lK a kvs, _ => .xt (.lK a kvs)
def Kd.len : Kd → Nat → Prop
  | .dct ks, n => ks.length = n
  | .st _ _, n => n = 0
  | .ex _, n => n = 0
  | .dt _, n => n = 0
  | .ld _ _, n => n = 0
  | .lK _ _, n => n = 0
  | _, _ => True
def flC (A F : Nat → Prop) (a : Nat) (bs as : List Nat) : Fl → Prop
  | .own => as = a :: bs
  | .bor => ¬ A a ∧ bs = [] ∧ as = []
  | .frz => ¬ A a ∧ ¬ F a ∧ bs = [] ∧ as = []
mutual
/-- the value v is the tree; A: places of others here, F: places of the callers, as: places that are the tree's own -/
def Rl (A F : Nat → Prop) (G : Hz) : Tr → V → List Nat → Prop
  | .av w, v, as => v = w ∧ isAt w = true ∧ as = []
  | .nd f k ts, v, as => ∃ (a : Nat) (vs : List V) (bs : List Nat), v = .ref a ∧ G[a]? = some (k.mk vs) ∧ k.len vs.length ∧ Rls A F G ts vs bs ∧ flC A F a bs as f
def Rls (A F : Nat → Prop) (G : Hz) : List Tr → List V → List Nat → Prop
  | [], vs, as => vs = [] ∧ as = []
  | t :: ts, vs, as => ∃ (v : V) (ws : List V) (bs cs : List Nat), vs = v :: ws ∧ as = bs ++ cs ∧ Rl A F G t v bs ∧ Rls A F G ts ws cs
end
section
variable {A A' F F' : Nat → Prop} {G G' : Hz}
mutual
theorem Rl.mono (hG : ∀ a, a < G.length → ¬ A a → G'[a]? = G[a]?) (hA : ∀ a, A' a → A a ∨ G.length ≤ a) (hF : ∀ a, F' a → F a ∨ A a ∨ G.length ≤ a) : ∀ (t : Tr) (v : V) (as : List Nat), (∀ a ∈ as, G'[a]? = G[a]?) → Rl A F G t v as → Rl A' F' G' t v as
  | .av w, v, as, _, h => h
  | .nd f k ts, v, as, o, h => by
    obtain ⟨a, vs, bs, rfl, e, l, c, fl⟩ := h
    have la := lt_get e
    cases f with
    | own =>
      have fl : as = a :: bs := fl
      subst fl
      exact ⟨a, vs, bs, rfl, by rw [o a (List.mem_cons_self ..)]; exact e, l, Rls.mono hG hA hF ts vs bs (fun b hb => o b (List.mem_cons_of_mem _ hb)) c, rfl⟩
    | bor =>
      obtain ⟨f1, rfl, rfl⟩ := fl
      exact ⟨a, vs, [], rfl, by rw [hG a la f1]; exact e, l, Rls.mono hG hA hF ts vs [] (fun b hb => nomatch hb) c, fun z => (hA a z).elim f1 (fun y => absurd la (Nat.not_lt.mpr y)), rfl, rfl⟩
    | frz =>
      obtain ⟨f1, f2, rfl, rfl⟩ := fl
      exact ⟨a, vs, [], rfl, by rw [hG a la f1]; exact e, l, Rls.mono hG hA hF ts vs [] (fun b hb => nomatch hb) c, fun z => (hA a z).elim f1 (fun y => absurd la (Nat.not_lt.mpr y)), fun z => (hF a z).elim f2 fun y => y.elim f1 (fun y => absurd la (Nat.not_lt.mpr y)), rfl, rfl⟩
theorem Rls.mono (hG : ∀ a, a < G.length → ¬ A a → G'[a]? = G[a]?) (hA : ∀ a, A' a → A a ∨ G.length ≤ a) (hF : ∀ a, F' a → F a ∨ A a ∨ G.length ≤ a) : ∀ (ts : List Tr) (vs : List V) (as : List Nat), (∀ a ∈ as, G'[a]? = G[a]?) → Rls A F G ts vs as → Rls A' F' G' ts vs as
  | [], vs, as, _, h => h
  | t :: ts, vs, as, o, h => by
    obtain ⟨v, ws, bs, cs, rfl, rfl, h1, h2⟩ := h
    exact ⟨v, ws, bs, cs, rfl, rfl, Rl.mono hG hA hF t v bs (fun a ha => o a (List.mem_append_left _ ha)) h1, Rls.mono hG hA hF ts ws cs (fun a ha => o a (List.mem_append_right _ ha)) h2⟩
end
mutual
theorem Rl.nobM (hG : ∀ a, a < G.length → ¬ A a → ¬ F a → G'[a]? = G[a]?) (hA : ∀ a, A' a → A a ∨ F a ∨ G.length ≤ a) (hF : ∀ a, F' a → F a ∨ A a ∨ G.length ≤ a) : ∀ (t : Tr) (v : V) (as : List Nat), t.nob = true → (∀ a ∈ as, G'[a]? = G[a]?) → Rl A F G t v as → Rl A' F' G' t v as
  | .av w, v, as, _, _, h => h
  | .nd f k ts, v, as, n, o, h => by
    obtain ⟨a, vs, bs, rfl, e, l, c, fl⟩ := h
    have la := lt_get e
    cases f with
    | own =>
      have fl : as = a :: bs := fl
      subst fl
      exact ⟨a, vs, bs, rfl, by rw [o a (List.mem_cons_self ..)]; exact e, l, Rls.nobM hG hA hF ts vs bs n (fun b hb => o b (List.mem_cons_of_mem _ hb)) c, rfl⟩
    | bor => cases n
    | frz =>
      obtain ⟨f1, f2, rfl, rfl⟩ := fl
      exact ⟨a, vs, [], rfl, by rw [hG a la f1 f2]; exact e, l, Rls.nobM hG hA hF ts vs [] n (fun b hb => nomatch hb) c, fun z => (hA a z).elim f1 fun y => y.elim f2 (fun y => absurd la (Nat.not_lt.mpr y)), fun z => (hF a z).elim f2 fun y => y.elim f1 (fun y => absurd la (Nat.not_lt.mpr y)), rfl, rfl⟩
theorem Rls.nobM (hG : ∀ a, a < G.length → ¬ A a → ¬ F a → G'[a]? = G[a]?) (hA : ∀ a, A' a → A a ∨ F a ∨ G.length ≤ a) (hF : ∀ a, F' a → F a ∨ A a ∨ G.length ≤ a) : ∀ (ts : List Tr) (vs : List V) (as : List Nat), nobs ts = true → (∀ a ∈ as, G'[a]? = G[a]?) → Rls A F G ts vs as → Rls A' F' G' ts vs as
  | [], vs, as, _, _, h => h
  | t :: ts, vs, as, n, o, h => by
    obtain ⟨v, ws, bs, cs, rfl, rfl, h1, h2⟩ := h
    obtain ⟨n1, n2⟩ := Bool.and_eq_true_iff.mp n
    exact ⟨v, ws, bs, cs, rfl, rfl, Rl.nobM hG hA hF t v bs n1 (fun a ha => o a (List.mem_append_left _ ha)) h1, Rls.nobM hG hA hF ts ws cs n2 (fun a ha => o a (List.mem_append_right _ ha)) h2⟩
end
mutual
theorem Rl.lt : ∀ (t : Tr) (v : V) (as : List Nat), Rl A F G t v as → ∀ a ∈ as, a < G.length
  | .av w, v, as, h, a, ha => by
    obtain ⟨_, _, rfl⟩ := h
    cases ha
  | .nd f k ts, v, as, h, b, hb => by
    obtain ⟨a, vs, bs, rfl, e, l, c, fl⟩ := h
    cases f with
    | own =>
      have fl : as = a :: bs := fl
      subst fl
      rcases List.mem_cons.mp hb with rfl | hb
      · exact lt_get e
      · exact Rls.lt ts vs bs c b hb
    | bor => rw [fl.2.2] at hb; cases hb
    | frz => rw [fl.2.2.2] at hb; cases hb
theorem Rls.lt : ∀ (ts : List Tr) (vs : List V) (as : List Nat), Rls A F G ts vs as → ∀ a ∈ as, a < G.length
  | [], vs, as, h, a, ha => by
    obtain ⟨_, rfl⟩ := h
    cases ha
  | t :: ts, vs, as, h, a, ha => by
    obtain ⟨v, ws, bs, cs, rfl, rfl, h1, h2⟩ := h
    rcases List.mem_append.mp ha with ha | ha
    · exact Rl.lt t v bs h1 a ha
    · exact Rls.lt ts ws cs h2 a ha
end
mutual
/-- lent: own places may be anybody's but those of A' -/
theorem Rl.toB (hA : ∀ a, a < G.length → A' a → A a) : ∀ (t : Tr) (v : V) (as : List Nat), (∀ a ∈ as, ¬ A' a) → Rl A F G t v as → Rl A' F' G t.toB v []
  | .av w, v, as, _, h => ⟨h.1, h.2.1, rfl⟩
  | .nd f k ts, v, as, o, h => by
    obtain ⟨a, vs, bs, rfl, e, l, c, fl⟩ := h
    have la := lt_get e
    cases f with
    | own =>
      have fl : as = a :: bs := fl
      subst fl
      exact ⟨a, vs, [], rfl, e, l, Rls.toB hA ts vs bs (fun b hb => o b (List.mem_cons_of_mem _ hb)) c, o a (List.mem_cons_self ..), rfl, rfl⟩
    | bor =>
      obtain ⟨f1, rfl, rfl⟩ := fl
      exact ⟨a, vs, [], rfl, e, l, Rls.toB hA ts vs [] (fun b hb => nomatch hb) c, fun z => f1 (hA a la z), rfl, rfl⟩
    | frz =>
      obtain ⟨f1, f2, rfl, rfl⟩ := fl
      exact ⟨a, vs, [], rfl, e, l, Rls.toB hA ts vs [] (fun b hb => nomatch hb) c, fun z => f1 (hA a la z), rfl, rfl⟩
theorem Rls.toB (hA : ∀ a, a < G.length → A' a → A a) : ∀ (ts : List Tr) (vs : List V) (as : List Nat), (∀ a ∈ as, ¬ A' a) → Rls A F G ts vs as → Rls A' F' G (toBs ts) vs []
  | [], vs, as, _, h => ⟨h.1, rfl⟩
  | t :: ts, vs, as, o, h => by
    obtain ⟨v, ws, bs, cs, rfl, rfl, h1, h2⟩ := h
    exact ⟨v, ws, [], [], rfl, rfl, Rl.toB hA t v bs (fun a ha => o a (List.mem_append_left _ ha)) h1, Rls.toB hA ts ws cs (fun a ha => o a (List.mem_append_right _ ha)) h2⟩
end
mutual
theorem Rl.toF (hA : ∀ a, a < G.length → A' a → A a) : ∀ (t : Tr) (v : V) (as : List Nat), t.nob = true → (∀ a ∈ as, ¬ A' a ∧ ¬ F a) → Rl A F G t v as → Rl A' F G t.toF v []
  | .av w, v, as, _, _, h => ⟨h.1, h.2.1, rfl⟩
  | .nd f k ts, v, as, n, o, h => by
    obtain ⟨a, vs, bs, rfl, e, l, c, fl⟩ := h
    have la := lt_get e
    cases f with
    | own =>
      have fl : as = a :: bs := fl
      subst fl
      exact ⟨a, vs, [], rfl, e, l, Rls.toF hA ts vs bs n (fun b hb => o b (List.mem_cons_of_mem _ hb)) c, (o a (List.mem_cons_self ..)).1, (o a (List.mem_cons_self ..)).2, rfl, rfl⟩
    | bor => cases n
    | frz =>
      obtain ⟨f1, f2, rfl, rfl⟩ := fl
      exact ⟨a, vs, [], rfl, e, l, Rls.toF hA ts vs [] n (fun b hb => nomatch hb) c, fun z => f1 (hA a la z), f2, rfl, rfl⟩
theorem Rls.toF (hA : ∀ a, a < G.length → A' a → A a) : ∀ (ts : List Tr) (vs : List V) (as : List Nat), nobs ts = true → (∀ a ∈ as, ¬ A' a ∧ ¬ F a) → Rls A F G ts vs as → Rls A' F G (toFs ts) vs []
  | [], vs, as, _, _, h => ⟨h.1, rfl⟩
  | t :: ts, vs, as, n, o, h => by
    obtain ⟨v, ws, bs, cs, rfl, rfl, h1, h2⟩ := h
    obtain ⟨n1, n2⟩ := Bool.and_eq_true_iff.mp n
    exact ⟨v, ws, [], [], rfl, rfl, Rl.toF hA t v bs n1 (fun a ha => o a (List.mem_append_left _ ha)) h1, Rls.toF hA ts ws cs n2 (fun a ha => o a (List.mem_append_right _ ha)) h2⟩
end
mutual
theorem Rl.toK (hA : ∀ a, a < G.length → A' a → A a) (hF : ∀ a, a < G.length → F' a → F a ∨ A a) : ∀ (t : Tr) (v : V) (as : List Nat), (∀ a ∈ as, ¬ A' a) → Rl A F G t v as → Rl A' F' G t.toK v []
  | .av w, v, as, _, h => ⟨h.1, h.2.1, rfl⟩
  | .nd .own k ts, v, as, o, h => by
    obtain ⟨a, vs, bs, rfl, e, l, c, fl⟩ := h
    have fl : as = a :: bs := fl
    subst fl
    exact ⟨a, vs, [], rfl, e, l, Rls.toK hA hF ts vs bs (fun b hb => o b (List.mem_cons_of_mem _ hb)) c, o a (List.mem_cons_self ..), rfl, rfl⟩
  | .nd .bor k ts, v, as, o, h => by
    obtain ⟨a, vs, bs, rfl, e, l, c, fl⟩ := h
    obtain ⟨f1, rfl, rfl⟩ := fl
    exact ⟨a, vs, [], rfl, e, l, Rls.ofK hA hF ts vs c, fun z => f1 (hA a (lt_get e) z), rfl, rfl⟩
  | .nd .frz k ts, v, as, o, h => by
    obtain ⟨a, vs, bs, rfl, e, l, c, fl⟩ := h
    obtain ⟨f1, f2, rfl, rfl⟩ := fl
    exact ⟨a, vs, [], rfl, e, l, Rls.ofK hA hF ts vs c, fun z => f1 (hA a (lt_get e) z), fun z => (hF a (lt_get e) z).elim f2 f1, rfl, rfl⟩
theorem Rls.toK (hA : ∀ a, a < G.length → A' a → A a) (hF : ∀ a, a < G.length → F' a → F a ∨ A a) : ∀ (ts : List Tr) (vs : List V) (as : List Nat), (∀ a ∈ as, ¬ A' a) → Rls A F G ts vs as → Rls A' F' G (toKs ts) vs []
  | [], vs, as, _, h => ⟨h.1, rfl⟩
  | t :: ts, vs, as, o, h => by
    obtain ⟨v, ws, bs, cs, rfl, rfl, h1, h2⟩ := h
    exact ⟨v, ws, [], [], rfl, rfl, Rl.toK hA hF t v bs (fun a ha => o a (List.mem_append_left _ ha)) h1, Rls.toK hA hF ts ws cs (fun a ha => o a (List.mem_append_right _ ha)) h2⟩
theorem Rl.ofK (hA : ∀ a, a < G.length → A' a → A a) (hF : ∀ a, a < G.length → F' a → F a ∨ A a) : ∀ (t : Tr) (v : V), Rl A F G t v [] → Rl A' F' G t v []
  | .av w, v, h => h
  | .nd .own k ts, v, h => by
    obtain ⟨a, vs, bs, rfl, e, l, c, fl⟩ := h
    have fl : [] = a :: bs := fl
    cases fl
  | .nd .bor k ts, v, h => by
    obtain ⟨a, vs, bs, rfl, e, l, c, fl⟩ := h
    obtain ⟨f1, rfl, _⟩ := fl
    exact ⟨a, vs, [], rfl, e, l, Rls.ofK hA hF ts vs c, fun z => f1 (hA a (lt_get e) z), rfl, rfl⟩
  | .nd .frz k ts, v, h => by
    obtain ⟨a, vs, bs, rfl, e, l, c, fl⟩ := h
    obtain ⟨f1, f2, rfl, _⟩ := fl
    exact ⟨a, vs, [], rfl, e, l, Rls.ofK hA hF ts vs c, fun z => f1 (hA a (lt_get e) z), fun z => (hF a (lt_get e) z).elim f2 f1, rfl, rfl⟩
theorem Rls.ofK (hA : ∀ a, a < G.length → A' a → A a) (hF : ∀ a, a < G.length → F' a → F a ∨ A a) : ∀ (ts : List Tr) (vs : List V), Rls A F G ts vs [] → Rls A' F' G ts vs []
  | [], vs, h => h
  | t :: ts, vs, h => by
    obtain ⟨v, ws, bs, cs, rfl, e, h1, h2⟩ := h
    obtain ⟨rfl, rfl⟩ := List.append_eq_nil_iff.mp e.symm
    exact ⟨v, ws, [], [], rfl, rfl, Rl.ofK hA hF t v h1, Rls.ofK hA hF ts ws h2⟩
end
theorem Rl.dem {t : Tr} {v : V} {as : List Nat} (hA : ∀ a, a < G.length → A' a → A a) (o : ∀ a ∈ as, ¬ A' a ∧ ¬ F a) (h : Rl A F G t v as) : Rl A' F G t.dem v [] := by
  unfold Tr.dem
  split
  · rename_i n
    exact Rl.toF hA t v as n o h
  · exact Rl.toB hA t v as (fun a ha => (o a ha).1) h
theorem Rl.sh {t : Tr} {v : V} {as : List Nat} (h : Rl A F G t v as) (s : t.sh = true) : as = [] := by
  match t, h, s with
  | .av w, h, _ => exact h.2.2
  | .nd .own k ts, _, s => cases s
  | .nd .bor k ts, ⟨a, vs, bs, e, e1, l, c, fl⟩, _ => exact fl.2.2
  | .nd .frz k ts, ⟨a, vs, bs, e, e1, l, c, fl⟩, _ => exact fl.2.2.2
theorem Rls.sh : ∀ {ts : List Tr} {vs : List V} {as : List Nat}, Rls A F G ts vs as → ts.all Tr.sh = true → as = []
  | [], vs, as, h, _ => h.2
  | t :: ts, vs, as, h, s => by
    obtain ⟨v, ws, bs, cs, rfl, rfl, h1, h2⟩ := h
    rw [List.all_cons, Bool.and_eq_true] at s
    rw [h1.sh s.1, h2.sh s.2]
    rfl
theorem Rls.length : ∀ {ts : List Tr} {vs : List V} {as : List Nat}, Rls A F G ts vs as → vs.length = ts.length
  | [], vs, as, h => by rw [h.1]; rfl
  | t :: ts, vs, as, h => by
    obtain ⟨v, ws, bs, cs, rfl, rfl, h1, h2⟩ := h
    rw [List.length_cons, List.length_cons, h2.length]
theorem Rls.get : ∀ {ts : List Tr} {vs : List V} {as : List Nat} {i : Nat} {t : Tr}, Rls A F G ts vs as → ts[i]? = some t → ∃ v bs, vs[i]? = some v ∧ Rl A F G t v bs ∧ (∀ b ∈ bs, b ∈ as)
  | [], vs, as, i, t, h, e => by cases e
  | u :: ts, vs, as, 0, t, h, e => by
    obtain ⟨v, ws, bs, cs, rfl, rfl, h1, h2⟩ := h
    cases e
    exact ⟨v, bs, rfl, h1, fun b hb => List.mem_append_left _ hb⟩
  | u :: ts, vs, as, i + 1, t, h, e => by
    obtain ⟨v, ws, bs, cs, rfl, rfl, h1, h2⟩ := h
    obtain ⟨v, bs', e1, h3, h4⟩ := h2.get e
    exact ⟨v, bs', e1, h3, fun b hb => List.mem_append_right _ (h4 b hb)⟩
theorem Rls.append : ∀ {ts us : List Tr} {vs ws : List V} {as bs : List Nat}, Rls A F G ts vs as → Rls A F G us ws bs → Rls A F G (ts ++ us) (vs ++ ws) (as ++ bs)
  | [], us, vs, ws, as, bs, h, k => by
    obtain ⟨rfl, rfl⟩ := h
    exact k
  | t :: ts, us, vs, ws, as, bs, h, k => by
    obtain ⟨v, vs', cs, ds, rfl, rfl, h1, h2⟩ := h
    exact ⟨v, vs' ++ ws, cs, ds ++ bs, rfl, List.append_assoc .., h1, h2.append k⟩
theorem Rls.one {t : Tr} {v : V} {as : List Nat} (h : Rl A F G t v as) : Rls A F G [t] [v] as := ⟨v, [], as, [], rfl, by simp, h, rfl, rfl⟩
theorem Rls.app_inv : ∀ {ts us : List Tr} {vs : List V} {as : List Nat}, Rls A F G (ts ++ us) vs as → ∃ v1 v2 a1 a2, vs = v1 ++ v2 ∧ as = a1 ++ a2 ∧ Rls A F G ts v1 a1 ∧ Rls A F G us v2 a2
  | [], us, vs, as, h => ⟨[], vs, [], as, rfl, rfl, ⟨rfl, rfl⟩, h⟩
  | t :: ts, us, vs, as, h => by
    obtain ⟨v, vs', cs, ds, rfl, rfl, h1, h2⟩ := h
    obtain ⟨v1, v2, a1, a2, rfl, rfl, h3, h4⟩ := h2.app_inv
    exact ⟨v :: v1, v2, cs ++ a1, a2, rfl, by rw [List.append_assoc], ⟨v, v1, cs, a1, rfl, rfl, h1, h3⟩, h4⟩
end
/-! ### the state -/
def Ow (os : Nat → List Nat) (N : Nat → Prop) (a : Nat) : Prop := (∃ i, a ∈ os i) ∨ N a
def Nu (N : Nat → Prop) (as : List Nat) (a : Nat) : Prop := N a ∨ a ∈ as
structure Inv (N F : Nat → Prop) (σ : St) (G : Hz) (ρ : PSt) (os : Nat → List Nat) : Prop where
  sl : ∀ i t, getT ρ[i]? = some t → ∃ v, σ[i]? = some (some v) ∧ Rl (Ow os N) F G t v (os i)
  em : ∀ i, getT ρ[i]? = none → os i = []
  nd : ∀ i, (os i).Nodup
  dj : ∀ i j a, a ∈ os i → a ∈ os j → i = j
  fr : ∀ i a, a ∈ os i → ¬ N a ∧ ¬ F a
  ln : σ.length = ρ.length
  bn : ∀ a, N a → a < G.length
  bf : ∀ a, F a → a < G.length
/-- what has changed -/
structure Chg (M : List Nat) (G : Hz) (ρ : PSt) (os : Nat → List Nat) (G' : Hz) (ρ' : PSt) (os' : Nat → List Nat) : Prop where
  len : G.length ≤ G'.length
  frm : ∀ a, a < G.length → (∀ i, a ∉ os i) → G'[a]? = G[a]?
  sub : ∀ i a, a ∈ os' i → (∃ j, a ∈ os j) ∨ G.length ≤ a
  mt : ∀ i, i ∉ M → getT ρ'[i]? = getT ρ[i]? ∧ os' i = os i ∧ ∀ a ∈ os i, G'[a]? = G[a]?
section
variable {N N' F : Nat → Prop} {σ : St} {G G' G1 G2 : Hz} {ρ ρ1 ρ2 : PSt} {os os1 os2 : Nat → List Nat} {M M1 M2 : List Nat}
theorem Chg.refl : Chg M G ρ os G ρ os := ⟨Nat.le_refl _, fun _ _ _ => rfl, fun i a h => .inl ⟨i, h⟩, fun _ _ => ⟨rfl, rfl, fun _ _ => rfl⟩⟩
theorem Chg.trans (h : Chg M1 G ρ os G1 ρ1 os1) (k : Chg M2 G1 ρ1 os1 G2 ρ2 os2) (l : ∀ i a, a ∈ os i → a < G.length) : Chg (M1 ++ M2) G ρ os G2 ρ2 os2 where
  len := Nat.le_trans h.len k.len
  frm := fun a la ha => by
    rw [k.frm a (Nat.lt_of_lt_of_le la h.len) fun i hi => (h.sub i a hi).elim (fun ⟨j, hj⟩ => ha j hj) fun y => absurd la (Nat.not_lt.mpr y), h.frm a la ha]
  sub := fun i a hi => (k.sub i a hi).elim (fun ⟨j, hj⟩ => h.sub j a hj) fun y => .inr (Nat.le_trans h.len y)
  mt := fun i hi => by
    obtain ⟨a1, a2, a3⟩ := h.mt i fun z => hi (List.mem_append_left _ z)
    obtain ⟨b1, b2, b3⟩ := k.mt i fun z => hi (List.mem_append_right _ z)
    exact ⟨b1.trans a1, b2.trans a2, fun a ha => (b3 a (by rw [a2]; exact ha)).trans (a3 a ha)⟩
theorem Chg.weak (h : Chg M1 G ρ os G1 ρ1 os1) (s : ∀ i, i ∈ M1 → i ∈ M2) : Chg M2 G ρ os G1 ρ1 os1 := ⟨h.len, h.frm, h.sub, fun i hi => h.mt i fun z => hi (s i z)⟩
theorem Inv.lt (h : Inv N F σ G ρ os) : ∀ i a, a ∈ os i → a < G.length := fun i a ha => by
  cases e : getT ρ[i]? with
  | none => rw [h.em i e] at ha; cases ha
  | some t =>
    obtain ⟨v, _, r⟩ := h.sl i t e
    exact Rl.lt t v _ r a ha
theorem Inv.getS (h : Inv N F σ G ρ os) {i : Nat} {t : Tr} (e : getT ρ[i]? = some t) : ∃ v, σ[i]? = some (some v) ∧ Rl (Ow os N) F G t v (os i) := h.sl i t e
/-- other places to keep away from, a longer heap -/
theorem Inv.mono (h : Inv N F σ G ρ os) (hG : ∀ a, a < G.length → G'[a]? = G[a]?) (hl : G.length ≤ G'.length) (hN : ∀ a, N' a → N a ∨ G.length ≤ a) (hb : ∀ a, N' a → a < G'.length) : Inv N' F σ G' ρ os where
  sl := fun i t e => by
    obtain ⟨v, e1, r⟩ := h.sl i t e
    exact ⟨v, e1, Rl.mono (fun a la _ => hG a la) (fun a ha => ha.elim (fun y => .inl (.inl y)) fun y => (hN a y).elim (fun z => .inl (.inr z)) .inr) (fun a ha => .inl ha) t v _ (fun a ha => hG a (h.lt i a ha)) r⟩
  em := h.em
  nd := h.nd
  dj := h.dj
  fr := fun i a ha => ⟨fun z => (hN a z).elim (h.fr i a ha).1 fun y => absurd (h.lt i a ha) (Nat.not_lt.mpr y), (h.fr i a ha).2⟩
  ln := h.ln
  bn := hb
  bf := fun a ha => Nat.lt_of_lt_of_le (h.bf a ha) hl
theorem Inv.weak (h : Inv N F σ G ρ os) (hN : ∀ a, N' a → N a) : Inv N' F σ G ρ os := h.mono (fun _ _ => rfl) (Nat.le_refl _) (fun a ha => .inl (hN a ha)) fun a ha => h.bn a (hN a ha)
theorem nu_nil : Nu N [] = N := funext fun a => propext ⟨fun h => h.elim id (fun y => nomatch y), fun h => Or.inl h⟩
theorem nu_nu {as bs : List Nat} : Nu (Nu N as) bs = Nu N (as ++ bs) := funext fun a => propext ⟨fun h => h.elim (fun h => h.elim .inl fun y => .inr (List.mem_append_left _ y)) fun y => .inr (List.mem_append_right _ y), fun h => h.elim (fun y => .inl (.inl y)) fun y => (List.mem_append.mp y).elim (fun z => .inl (.inr z)) .inr⟩
theorem nu_swap {as bs : List Nat} : Nu N (as ++ bs) = Nu N (bs ++ as) := funext fun a => propext (by unfold Nu; rw [List.mem_append, List.mem_append, Or.comm (a := a ∈ as)])
end
/-! ### a temporary value -/
/-- as: its own places -/
structure Tm (N F : Nat → Prop) (G : Hz) (os : Nat → List Nat) (t : Tr) (v : V) (as : List Nat) : Prop where
  rl : Rl (Ow os (Nu N as)) F G t v as
  nd : as.Nodup
  fr : ∀ a ∈ as, ¬ N a ∧ ¬ F a
def TmE (N F : Nat → Prop) (σ : St) (G : Hz) (os : Nat → List Nat) (v : V) (as : List Nat) : E → Prop
  | .t t => Tm N F G os t v as
  | .al i => as = [] ∧ σ[i]? = some (some v)
section
variable {N N' F : Nat → Prop} {σ : St} {G G' G1 G2 : Hz} {ρ ρ1 ρ2 : PSt} {os os1 os2 : Nat → List Nat} {M M1 M2 : List Nat}
theorem getT_set {ρ : PSt} {i j : Nat} {o : Option Tr} : getT (ρ.set i o)[j]? = if i = j then (if i < ρ.length then o else none) else getT ρ[j]? := by
  rw [List.getElem?_set]
  split
  · rename_i e
    subst e
    split
    · cases o <;> rfl
    · rfl
  · rfl
theorem getT_lt {ρ : PSt} {i : Nat} {t : Tr} (h : getT ρ[i]? = some t) : i < ρ.length := by
  cases e : ρ[i]? with
  | none => rw [e] at h; cases h
  | some o => exact (List.getElem?_eq_some_iff.mp e).1
def up (os : Nat → List Nat) (i : Nat) (as : List Nat) : Nat → List Nat := fun j => if i = j then as else os j
theorem up_self {i : Nat} {as : List Nat} : up os i as i = as := if_pos rfl
theorem up_ne {i j : Nat} {as : List Nat} (h : i ≠ j) : up os i as j = os j := if_neg h
/-- a slot takes a temporary value -/
theorem Inv.put (h : Inv (Nu N as) F σ G ρ os) (k : Tm N F G os t v as) {i : Nat} (hi : i < ρ.length) : Inv N F (σ.set i (some v)) G (ρ.set i (some t)) (up os i as) where
  sl := fun j u e => by
    rw [getT_set] at e
    have hs : i < σ.length := by rw [h.ln]; exact hi
    have hA : ∀ a, Ow (up os i as) N a → Ow os (Nu N as) a ∨ G.length ≤ a := fun a ha => .inl (by
      rcases ha with ⟨q, hq⟩ | ha
      · unfold up at hq
        split at hq
        · exact .inr (.inr hq)
        · exact .inl ⟨q, hq⟩
      · exact .inr (.inl ha))
    by_cases q : i = j
    · subst q
      rw [if_pos rfl, if_pos hi] at e
      cases e
      refine ⟨v, by rw [List.getElem?_set_self hs], ?_⟩
      rw [up_self]
      exact Rl.mono (fun _ _ _ => rfl) hA (fun a ha => .inl ha) _ _ _ (fun _ _ => rfl) k.rl
    · rw [if_neg q] at e
      obtain ⟨w, e1, r⟩ := h.sl j u e
      refine ⟨w, by rw [List.getElem?_set_ne q]; exact e1, ?_⟩
      rw [up_ne q]
      exact Rl.mono (fun _ _ _ => rfl) hA (fun a ha => .inl ha) _ _ _ (fun _ _ => rfl) r
  em := fun j e => by
    rw [getT_set] at e
    by_cases q : i = j
    · rw [if_pos q, if_pos hi] at e; cases e
    · rw [if_neg q] at e
      rw [up_ne q]
      exact h.em j e
  nd := fun j => by
    unfold up
    split
    · exact k.nd
    · exact h.nd j
  dj := fun j l a h1 h2 => by
    unfold up at h1 h2
    split at h1 <;> split at h2
    · rename_i e1 e2; rw [← e1, ← e2]
    · exact absurd (.inr h1) (h.fr l a h2).1
    · exact absurd (.inr h2) (h.fr j a h1).1
    · exact h.dj j l a h1 h2
  fr := fun j a ha => by
    unfold up at ha
    split at ha
    · exact k.fr a ha
    · exact ⟨fun z => (h.fr j a ha).1 (.inl z), (h.fr j a ha).2⟩
  ln := by rw [List.length_set, List.length_set]; exact h.ln
  bn := fun a ha => h.bn a (.inl ha)
  bf := h.bf
/-- a slot is left -/
theorem Inv.drop (h : Inv N F σ G ρ os) (i : Nat) : Inv N F σ G (ρ.set i none) (up os i []) where
  sl := fun j u e => by
    rw [getT_set] at e
    have hA : ∀ a, Ow (up os i []) N a → Ow os N a ∨ G.length ≤ a := fun a ha => .inl (by
      rcases ha with ⟨q, hq⟩ | ha
      · unfold up at hq
        split at hq
        · cases hq
        · exact .inl ⟨q, hq⟩
      · exact .inr ha)
    by_cases q : i = j
    · rw [if_pos q] at e
      split at e <;> cases e
    · rw [if_neg q] at e
      obtain ⟨w, e1, r⟩ := h.sl j u e
      refine ⟨w, e1, ?_⟩
      rw [up_ne q]
      exact Rl.mono (fun _ _ _ => rfl) hA (fun a ha => .inl ha) _ _ _ (fun _ _ => rfl) r
  em := fun j e => by
    rw [getT_set] at e
    by_cases q : i = j
    · subst q; exact up_self
    · rw [if_neg q] at e
      rw [up_ne q]
      exact h.em j e
  nd := fun j => by
    unfold up
    split
    · exact .nil
    · exact h.nd j
  dj := fun j l a h1 h2 => by
    unfold up at h1 h2
    split at h1 <;> split at h2
    · cases h1
    · cases h1
    · cases h2
    · exact h.dj j l a h1 h2
  fr := fun j a ha => by
    unfold up at ha
    split at ha
    · cases ha
    · exact h.fr j a ha
  ln := by rw [List.length_set]; exact h.ln
  bn := h.bn
  bf := h.bf
/-- a slot gives what it has -/
theorem Inv.take (h : Inv N F σ G ρ os) {i : Nat} {t : Tr} (e : getT ρ[i]? = some t) : ∃ v, σ[i]? = some (some v) ∧ Tm N F G (up os i []) t v (os i) ∧ Inv (Nu N (os i)) F σ G (ρ.set i none) (up os i []) := by
  obtain ⟨v, e1, r⟩ := h.sl i t e
  have hA : ∀ a, Ow (up os i []) (Nu N (os i)) a → Ow os N a := fun a ha => by
    rcases ha with ⟨q, hq⟩ | ha | ha
    · unfold up at hq
      split at hq
      · cases hq
      · exact .inl ⟨q, hq⟩
    · exact .inr ha
    · exact .inl ⟨i, ha⟩
  refine ⟨v, e1, ⟨Rl.mono (fun _ _ _ => rfl) (fun a ha => .inl (hA a ha)) (fun a ha => .inl ha) _ _ _ (fun _ _ => rfl) r, h.nd i, fun a ha => h.fr i a ha⟩, ?_⟩
  have d := h.drop i
  exact ⟨fun j u e => by
    obtain ⟨w, e1, r⟩ := d.sl j u e
    refine ⟨w, e1, ?_⟩
    have e2 := e
    rw [getT_set] at e
    by_cases q : i = j
    · rw [if_pos q] at e
      split at e <;> cases e
    · rw [if_neg q] at e
      obtain ⟨w', e3, r'⟩ := h.sl j u e
      rw [e1] at e3
      cases e3
      rw [up_ne q]
      exact Rl.mono (fun _ _ _ => rfl) (fun a ha => .inl (hA a ha)) (fun a ha => .inl ha) _ _ _ (fun _ _ => rfl) r', d.em, d.nd, d.dj, fun j a ha => ⟨fun z => z.elim (d.fr j a ha).1 fun y => by
      unfold up at ha
      split at ha
      · cases ha
      · rename_i q
        exact q (h.dj i j a y ha), (d.fr j a ha).2⟩, d.ln, fun a ha => ha.elim (h.bn a) (h.lt i a), h.bf⟩
/-- a temporary value while other things happen -/
theorem Tm.keep (k : Tm N F G os t v as) (c : Chg M G ρ os G1 ρ1 os1) (h : Inv (Nu N as) F σ G ρ os) (hb : ∀ a ∈ bs, (∃ i, a ∈ os i) ∨ G.length ≤ a) : Rl (Ow os1 (Nu (Nu N as) bs)) F G1 t v as := by
  refine Rl.mono (fun a la ha => c.frm a la fun i hi => ha (.inl ⟨i, hi⟩)) (fun a ha => ?_) (fun a ha => .inl ha) t v as (fun a ha => ?_) k.rl
  · rcases ha with ⟨i, hi⟩ | ha | ha
    · exact (c.sub i a hi).elim (fun y => .inl (.inl y)) .inr
    · exact .inl (.inr ha)
    · exact (hb a ha).elim (fun y => .inl (.inl y)) .inr
  · exact c.frm a (Rl.lt t v as k.rl a ha) fun i hi => (h.fr i a hi).1 (.inr ha)
end
end Pl

/-! Pl, part 2: the pure meanings of expressions are right. -/
namespace Pl
open PySem L2 Zl
structure Res (M : List Nat) (N F : Nat → Prop) (σ : St) (G : Hz) (ρ : PSt) (os : Nat → List Nat) (G' : Hz) (ρ' : PSt) (os' : Nat → List Nat) (as : List Nat) : Prop where
  chg : Chg M G ρ os G' ρ' os'
  sub : ∀ a ∈ as, (∃ i, a ∈ os i) ∨ G.length ≤ a
  inv : Inv (Nu N as) F σ G' ρ' os'
def TmEs (N F : Nat → Prop) (σ : St) (G : Hz) (os : Nat → List Nat) : List E → List V → List Nat → Prop
  | [], vs, as => vs = [] ∧ as = []
  | e :: es, vs, as => ∃ v ws bs cs, vs = v :: ws ∧ as = bs ++ cs ∧ TmE (Nu N cs) F σ G os v bs e ∧ TmEs (Nu N bs) F σ G os es ws cs
def EOk (M : List Nat) (m : ME) (p : PE) : Prop := ∀ (N F : Nat → Prop) (σ : St) (G : Hz) (ρ : PSt) (os : Nat → List Nat) (e : E) (ρ' : PSt), Inv N F σ G ρ os → p ρ = some (e, ρ') →
  ∃ v G' os' as, m σ G = some (v, G') ∧ Res M N F σ G ρ os G' ρ' os' as ∧ TmE N F σ G' os' v as e
def AOk (M : List Nat) (m : MA) (p : PA) : Prop := ∀ (N F : Nat → Prop) (σ : St) (G : Hz) (ρ : PSt) (os : Nat → List Nat) (e : List E) (ρ' : PSt), Inv N F σ G ρ os → p ρ = some (e, ρ') →
  ∃ v G' os' as, m σ G = some (v, G') ∧ Res M N F σ G ρ os G' ρ' os' as ∧ TmEs N F σ G' os' e v as
def TOk (M : List Nat) (m : MT) (p : PT) : Prop := ∀ (N F : Nat → Prop) (σ : St) (G : Hz) (ρ : PSt) (os : Nat → List Nat) (b : Bool) (ρ' : PSt), Inv N F σ G ρ os → p ρ = some (b, ρ') →
  ∃ G' os', m σ G = some (b, G') ∧ Res M N F σ G ρ os G' ρ' os' []
section
variable {N N1 N2 F A : Nat → Prop} {σ : St} {G G' G1 G2 : Hz} {ρ ρ' ρ1 ρ2 : PSt} {os os1 os2 : Nat → List Nat} {M M1 M2 : List Nat} {as as1 as2 bs cs : List Nat} {e e1 : E} {v v1 w : V} {t u : Tr}
theorem bnd' {α β : Type} {x : Option α} {f : α → Option β} {y : β} (h : x.bind f = some y) : ∃ a, x = some a ∧ f a = some y := Option.bind_eq_some_iff.mp h
theorem Res.refl (h : Inv N F σ G ρ os) : Res M N F σ G ρ os G ρ os [] := ⟨.refl, fun a ha => (nomatch ha), by rw [nu_nil]; exact h⟩
theorem Res.seq (h : Inv N F σ G ρ os) (r : Res M1 N F σ G ρ os G1 ρ1 os1 as1) (s : Res M2 (Nu N as1) F σ G1 ρ1 os1 G2 ρ2 os2 as2) : Res (M1 ++ M2) N F σ G ρ os G2 ρ2 os2 (as1 ++ as2) where
  chg := r.chg.trans s.chg h.lt
  sub := fun a ha => by
    rcases List.mem_append.mp ha with ha | ha
    · exact r.sub a ha
    · exact (s.sub a ha).elim (fun ⟨j, hj⟩ => r.chg.sub j a hj) fun y => .inr (Nat.le_trans r.chg.len y)
  inv := by rw [← nu_nu]; exact s.inv
theorem Res.drop (r : Res M N F σ G ρ os G1 ρ1 os1 as) (h : ∀ a ∈ bs, a ∈ as) : Res M N F σ G ρ os G1 ρ1 os1 bs := ⟨r.chg, fun a ha => r.sub a (h a ha), r.inv.weak fun _ ha => ha.elim .inl fun y => .inr (h _ y)⟩
theorem Res.drop0 (r : Res M N F σ G ρ os G1 ρ1 os1 as) : Res M N F σ G ρ os G1 ρ1 os1 [] := r.drop fun a ha => (nomatch ha)
theorem Res.inv0 (r : Res M N F σ G ρ os G1 ρ1 os1 as) : Inv N F σ G1 ρ1 os1 := r.inv.weak fun _ ha => .inl ha
theorem Res.weak (r : Res M1 N F σ G ρ os G1 ρ1 os1 as) (s : ∀ i, i ∈ M1 → i ∈ M2) : Res M2 N F σ G ρ os G1 ρ1 os1 as := ⟨r.chg.weak s, r.sub, r.inv⟩
theorem Res.seq0 (h : Inv N F σ G ρ os) (r : Res M1 N F σ G ρ os G1 ρ1 os1 []) (s : Res M2 N F σ G1 ρ1 os1 G2 ρ2 os2 as2) : Res (M1 ++ M2) N F σ G ρ os G2 ρ2 os2 as2 := by
  rw [← nu_nil (N := N)] at s
  have := Res.seq h r s
  simpa using this
theorem TmE.fr (k : TmE N F σ G os v as e) : ∀ a ∈ as, ¬ N a ∧ ¬ F a := by
  cases e with
  | t x => exact k.fr
  | al i => rw [k.1]; exact fun a ha => (nomatch ha)
theorem TmE.nd (k : TmE N F σ G os v as e) : as.Nodup := by
  cases e with
  | t x => exact Tm.nd k
  | al i => rw [k.1]; exact .nil
theorem TmEs.fr : ∀ {es : List E} {vs : List V} {N : Nat → Prop} {as : List Nat}, TmEs N F σ G os es vs as → ∀ a ∈ as, ¬ N a ∧ ¬ F a
  | [], vs, N, as, h, a, ha => by rw [h.2] at ha; cases ha
  | e :: es, vs, N, as, ⟨v, ws, bs, cs, _, e2, h1, h2⟩, a, ha => by
    subst e2
    rcases List.mem_append.mp ha with ha | ha
    · exact ⟨fun z => (h1.fr a ha).1 (.inl z), (h1.fr a ha).2⟩
    · exact ⟨fun z => (TmEs.fr h2 a ha).1 (.inl z), (TmEs.fr h2 a ha).2⟩
theorem TmEs.nd : ∀ {es : List E} {vs : List V} {N : Nat → Prop} {as : List Nat}, TmEs N F σ G os es vs as → as.Nodup
  | [], vs, N, as, h => by rw [h.2]; exact .nil
  | e :: es, vs, N, as, ⟨v, ws, bs, cs, _, e2, h1, h2⟩ => by
    subst e2
    refine List.nodup_append.mpr ⟨h1.nd, TmEs.nd h2, fun a ha b hb z => ?_⟩
    subst z
    exact (h1.fr a ha).1 (.inr hb)
theorem TmE.keep (k : TmE N F σ G1 os1 v as1 e) (i : Inv (Nu N as1) F σ G1 ρ1 os1) (s : Res M (Nu N as1) F σ G1 ρ1 os1 G2 ρ2 os2 as2) (d : ∀ a ∈ as2, ¬ Nu N as1 a) : TmE (Nu N as2) F σ G2 os2 v as1 e := by
  cases e with
  | t x =>
    refine ⟨?_, Tm.nd k, fun a ha => ⟨fun z => z.elim (Tm.fr k a ha).1 fun y => d a y (.inr ha), (Tm.fr k a ha).2⟩⟩
    have := Tm.keep k s.chg i s.sub
    rw [nu_nu, nu_swap, ← nu_nu] at this
    exact this
  | al i => exact k
theorem dr_ok (i : Inv N2 F σ G ρ os) (k : TmE N1 F σ G os v as e) (q : ∀ a, N2 a → Nu N1 as a) (h : dr ρ e = some t) : ∃ bs, Rl (Ow os N2) F G t v bs := by
  cases e with
  | t x =>
    cases h
    exact ⟨as, Rl.mono (fun _ _ _ => rfl) (fun a ha => .inl (ha.elim .inl fun y => .inr (q a y))) (fun a ha => .inl ha) _ _ _ (fun _ _ => rfl) k.rl⟩
  | al j =>
    obtain ⟨w, e1, r⟩ := i.sl j t h
    rw [k.2] at e1
    cases e1
    exact ⟨_, r⟩
/-- a new value: an atom or an old thing, or one new node with old children -/
def NewV (A F : Nat → Prop) (G : Hz) (v : V) (G' : Hz) (t : Tr) : Prop :=
  (G' = G ∧ Rl A F G t v []) ∨ ∃ k vs ts, G' = G ++ [k.mk vs] ∧ v = .ref G.length ∧ t = .nd .own k ts ∧ k.len vs.length ∧ Rls A F G ts vs []
theorem chg_app (h : Inv N F σ G ρ os) (S : Hz) : Chg M G ρ os (G ++ S) ρ os := ⟨by simp, fun a la _ => by rw [List.getElem?_append_left la], fun i a ha => .inl ⟨i, ha⟩, fun i _ => ⟨rfl, rfl, fun a ha => by rw [List.getElem?_append_left (h.lt i a ha)]⟩⟩
theorem get_app' {a : Nat} {S : Hz} (h : a < G.length) : (G ++ S)[a]? = G[a]? := List.getElem?_append_left h
theorem NewV.fin (h : Inv N F σ G ρ os) (r : Res M N F σ G ρ os G1 ρ1 os1 as) (k : NewV (Ow os1 (Nu N as)) F G1 v G2 t) : ∃ bs, Res M N F σ G ρ os G2 ρ1 os1 bs ∧ Tm N F G2 os1 t v bs := by
  rcases k with ⟨rfl, k⟩ | ⟨kd, vs, ts, rfl, rfl, rfl, l, k⟩
  · exact ⟨[], r.drop0, Rl.mono (fun _ _ _ => rfl) (fun a ha => .inl (ha.elim .inl fun y => .inr (y.elim .inl fun z => nomatch z))) (fun a ha => .inl ha) _ _ _ (fun _ _ => rfl) k, .nil, fun a ha => (nomatch ha)⟩
  · have c := r.chg.trans (chg_app (M := []) r.inv [kd.mk vs]) h.lt
    have i0 := r.inv0
    refine ⟨[G1.length], ⟨c.weak (by simp), fun a ha => .inr ?_, ?_⟩, ⟨?_, by simp, fun a ha => ?_⟩⟩
    · rw [List.mem_singleton.mp ha]; exact r.chg.len
    · refine i0.mono (fun a la => get_app' la) (by simp) (fun a ha => ha.elim .inl fun y => .inr ?_) fun a ha => ?_
      · rw [List.mem_singleton.mp y]; exact Nat.le_refl _
      · rw [List.length_append]
        rcases ha with ha | ha
        · have := i0.bn a ha; simp; omega
        · rw [List.mem_singleton.mp ha]; simp
    · refine ⟨G1.length, vs, [], rfl, by simp, l, Rls.mono (fun a la _ => get_app' la) (fun a ha => ?_) (fun a ha => .inl ha) _ _ _ (fun a ha => nomatch ha) k, rfl⟩
      rcases ha with ha | ha | ha
      · exact .inl (.inl ha)
      · exact .inl (.inr (.inl ha))
      · right; rw [List.mem_singleton.mp ha]; exact Nat.le_refl _
    · rw [List.mem_singleton.mp ha]
      exact ⟨fun z => Nat.lt_irrefl _ (i0.bn _ z), fun z => Nat.lt_irrefl _ (i0.bf _ z)⟩
theorem tm_at {v : V} (h : isAt v = true) : Tm N F G os (.av v) v [] := ⟨⟨rfl, h, rfl⟩, .nil, fun a ha => (nomatch ha)⟩
/-! ### rules -/
theorem asB_inv {t : Tr} {b : Bool} (h : asB t = some b) : t = .av (.bl b) := by
  unfold asB at h
  split at h <;> cases h
  rfl
theorem eo_c {v : V} (h : isAt v = true := by rfl) : EOk [] (eC v) (pC v) := fun N F σ G ρ os e ρ' i q => by
  cases q
  exact ⟨v, G, os, [], rfl, .refl i, tm_at h⟩
theorem eo_var {i : Nat} : EOk [] (eVar i) (pVar i) := fun N F σ G ρ os e ρ' iv q => by
  obtain ⟨t, q1, q2⟩ := bnd' q
  obtain ⟨v, e1, r⟩ := iv.sl i t q1
  refine ⟨v, G, os, [], ?_, ?_⟩
  · show (match σ[i]? with | some (some v) => some (v, G) | _ => none) = _
    rw [e1]
  have hs : t.sh = true → Tm N F G os t v [] := fun s => by
    have := r.sh s
    rw [this] at r
    exact ⟨by rw [nu_nil]; exact r, .nil, fun a ha => (nomatch ha)⟩
  unfold varK at q2
  split at q2
  · cases q2
    exact ⟨.refl iv, rfl, e1⟩
  · rename_i hne
    cases q2
    refine ⟨.refl iv, hs ?_⟩
    cases t with
    | av w => rfl
    | nd f k xs => cases f with
      | own => exact absurd rfl (hne k xs)
      | _ => rfl
theorem eo_mv {i : Nat} : EOk [i] (eVar i) (pMv i) := fun N F σ G ρ os e ρ' iv q => by
  obtain ⟨t, q1, q2⟩ := bnd' q
  cases q2
  obtain ⟨v, e1, k, iv2⟩ := iv.take q1
  refine ⟨v, G, up os i [], os i, ?_, ⟨⟨Nat.le_refl _, fun _ _ _ => rfl, fun j a ha => ?_, fun j hj => ?_⟩, fun a ha => .inl ⟨i, ha⟩, iv2⟩, k⟩
  · show (match σ[i]? with | some (some v) => some (v, G) | _ => none) = _
    rw [e1]
  · unfold up at ha
    split at ha
    · cases ha
    · exact .inl ⟨j, ha⟩
  · have hj : i ≠ j := fun z => hj (by rw [z]; exact List.mem_singleton_self _)
    exact ⟨by rw [getT_set, if_neg hj], up_ne hj, fun _ _ => rfl⟩
theorem eo_fz {i : Nat} : EOk [i] (eVar i) (pFz i) := fun N F σ G ρ os e ρ' iv q => by
  obtain ⟨t, q1, q2⟩ := bnd' q
  cases q2
  obtain ⟨v, e1, k, iv2⟩ := iv.take q1
  have hd : Rl (Ow (up os i []) N) F G t.dem v [] := k.rl.dem (fun a _ ha => ha.elim .inl fun y => .inr (.inl y)) fun a ha => ⟨fun z => z.elim (fun ⟨j, hj⟩ => (iv2.fr j a hj).1 (.inr ha)) (k.fr a ha).1, (k.fr a ha).2⟩
  have hi : i < ρ.length := getT_lt q1
  have iv3 : Inv (Nu N []) F σ G (ρ.set i none) (up os i []) := iv2.weak fun a ha => ha.elim .inl fun y => nomatch y
  have k2 : Tm N F G (up os i []) t.dem v [] := ⟨by rw [nu_nil]; exact hd, .nil, fun a ha => (nomatch ha)⟩
  have p := iv3.put k2 (i := i) (by rw [List.length_set]; exact hi)
  have eσ : σ.set i (some v) = σ := by
    refine List.ext_getElem? fun j => ?_
    by_cases z : i = j
    · subst z
      rw [List.getElem?_set_self (by rw [iv.ln]; exact hi), e1]
    · rw [List.getElem?_set_ne z]
  have eo : up (up os i []) i [] = up os i [] := funext fun j => by
    unfold up
    split <;> rfl
  rw [eσ, List.set_set, eo] at p
  refine ⟨v, G, up os i [], [], ?_, ⟨⟨Nat.le_refl _, fun _ _ _ => rfl, fun j a ha => ?_, fun j hj => ?_⟩, fun a ha => (nomatch ha), by rw [nu_nil]; exact p⟩, k2⟩
  · show (match σ[i]? with | some (some v) => some (v, G) | _ => none) = _
    rw [e1]
  · unfold up at ha
    split at ha
    · cases ha
    · exact .inl ⟨j, ha⟩
  · have hj : i ≠ j := fun z => hj (by rw [z]; exact List.mem_singleton_self _)
    exact ⟨by rw [getT_set, if_neg hj], up_ne hj, fun _ _ => rfl⟩
def Op1 (f : F1) (g : P1) : Prop := ∀ (A F : Nat → Prop) (G : Hz) (x : V) (t1 : Tr) (as : List Nat) (t : Tr), Rl A F G t1 x as → g t1 = some t → ∃ v G', f x G = some (v, G') ∧ NewV A F G v G' t
def Op2 (f : F2) (g : P2) : Prop := ∀ (A F : Nat → Prop) (G : Hz) (x y : V) (t1 t2 : Tr) (as bs : List Nat) (t : Tr), Rl A F G t1 x as → Rl A F G t2 y bs → g t1 t2 = some t → ∃ v G', f x y G = some (v, G') ∧ NewV A F G v G' t
theorem eo_un {f : F1} {g : P1} {m : ME} {p : PE} (o : Op1 f g) (h : EOk M m p) : EOk M (eUn f m) (pUn g p) := fun N F σ G ρ os e ρ' iv q => by
  obtain ⟨⟨e1, ρ1⟩, q1, q⟩ := bnd' q
  obtain ⟨t1, q2, q⟩ := bnd' q
  obtain ⟨t, q3, q⟩ := bnd' q
  cases q
  obtain ⟨x, G1, os1, as1, m1, r1, k1⟩ := h N F σ G ρ os e1 _ iv q1
  obtain ⟨bs, d⟩ := dr_ok r1.inv k1 (fun a ha => ha) q2
  obtain ⟨v, G2, m2, n⟩ := o _ F G1 x t1 bs t d q3
  obtain ⟨cs, r2, k2⟩ := n.fin iv r1
  exact ⟨v, G2, os1, cs, by show (m σ G).bind _ = _; rw [m1]; exact m2, r2, k2⟩
theorem eo_bin {f : F2} {g : P2} {m1 m2 : ME} {p1 p2 : PE} (o : Op2 f g) (h1 : EOk M1 m1 p1) (h2 : EOk M2 m2 p2) : EOk (M1 ++ M2) (eBin f m1 m2) (pBin g p1 p2) := fun N F σ G ρ os e ρ' iv q => by
  obtain ⟨⟨e1, ρ1⟩, q1, q⟩ := bnd' q
  obtain ⟨⟨e2, ρ2⟩, q2, q⟩ := bnd' q
  obtain ⟨t1, q3, q⟩ := bnd' q
  obtain ⟨t2, q4, q⟩ := bnd' q
  obtain ⟨t, q5, q⟩ := bnd' q
  cases q
  obtain ⟨x, G1, os1, as1, e1', r1, k1⟩ := h1 N F σ G ρ os e1 _ iv q1
  obtain ⟨y, G2, os2, as2, e2', r2, k2⟩ := h2 _ F σ G1 ρ1 os1 e2 _ r1.inv q2
  have k1' := k1.keep r1.inv r2 fun a ha => (k2.fr a ha).1
  have r := Res.seq iv r1 r2
  obtain ⟨b1, d1⟩ := dr_ok r.inv k1' (fun a ha => by rw [nu_nu, nu_swap]; exact ha) q3
  obtain ⟨b2, d2⟩ := dr_ok r.inv k2 (fun a ha => by rw [nu_nu]; exact ha) q4
  obtain ⟨v, G3, m3, n⟩ := o _ F G2 x y t1 t2 b1 b2 t d1 d2 q5
  obtain ⟨cs, r3, k3⟩ := n.fin iv r
  refine ⟨v, G3, os2, cs, ?_, r3, k3⟩
  show (m1 σ G).bind _ = _
  rw [e1']
  show (m2 σ G1).bind _ = _
  rw [e2']
  exact m3
theorem tB0_ok {m : ME} {p : PE} {b : Bool} (h : EOk M m p) (iv : Inv N F σ G ρ os) (q : (p ρ).bind tB0 = some (b, ρ')) : ∃ G' os', m σ G = some (.bl b, G') ∧ Res M N F σ G ρ os G' ρ' os' [] := by
  obtain ⟨⟨e1, ρ1⟩, q1, q⟩ := bnd' q
  obtain ⟨t1, q2, q⟩ := bnd' q
  obtain ⟨b', q3, q⟩ := bnd' q
  cases q
  obtain ⟨x, G1, os1, as1, m1, r1, k1⟩ := h N F σ G ρ os e1 _ iv q1
  obtain ⟨bs, d⟩ := dr_ok r1.inv k1 (fun a ha => ha) q2
  rw [asB_inv q3] at d
  obtain ⟨rfl, _, _⟩ := d
  exact ⟨G1, os1, m1, r1.drop0⟩
theorem to_e {m : ME} {p : PE} (h : EOk M m p) : TOk M (tE m) (qE p) := fun N F σ G ρ os b ρ' iv q => by
  obtain ⟨G1, os1, m1, r1⟩ := tB0_ok h iv q
  refine ⟨G1, os1, ?_, r1⟩
  show (m σ G).bind _ = _
  rw [m1]
  rfl
theorem to_or {m1 m2 : MT} {p1 p2 : PT} (h1 : TOk M1 m1 p1) (h2 : TOk M2 m2 p2) : TOk (M1 ++ M2) (tOrZ m1 m2) (qOr p1 p2) := fun N F σ G ρ os b ρ' iv q => by
  obtain ⟨⟨c, ρ1⟩, q1, q⟩ := bnd' q
  obtain ⟨G1, os1, e1, r1⟩ := h1 N F σ G ρ os c _ iv q1
  unfold qOr1 at q
  cases c with
  | false =>
    obtain ⟨G2, os2, e2, r2⟩ := h2 N F σ G1 ρ1 os1 b _ r1.inv0 q
    refine ⟨G2, os2, ?_, Res.seq0 iv r1 r2⟩
    show (m1 σ G).bind _ = _
    rw [e1]
    exact e2
  | true =>
    cases q
    refine ⟨G1, os1, ?_, r1.weak fun i hi => List.mem_append_left _ hi⟩
    show (m1 σ G).bind _ = _
    rw [e1]
    rfl
theorem to_not {m1 : MT} {p1 : PT} (h1 : TOk M m1 p1) : TOk M (tNotZ m1) (qNot p1) := fun N F σ G ρ os b ρ' iv q => by
  obtain ⟨⟨c, ρ1⟩, q1, q⟩ := bnd' q
  cases q
  obtain ⟨G1, os1, e1, r1⟩ := h1 N F σ G ρ os c _ iv q1
  refine ⟨G1, os1, ?_, r1⟩
  show (m1 σ G).bind _ = _
  rw [e1]
  rfl
theorem to_yes : TOk [] tYesZ qYes := fun N F σ G ρ os b ρ' iv q => by
  cases q
  exact ⟨G, os, rfl, .refl iv⟩
theorem eo_if {mt : MT} {pt : PT} {m1 m2 : ME} {p1 p2 : PE} (ht : TOk M mt pt) (h1 : EOk M1 m1 p1) (h2 : EOk M2 m2 p2) : EOk (M ++ (M1 ++ M2)) (eIf mt m1 m2) (pIf pt p1 p2) := fun N F σ G ρ os e ρ' iv q => by
  obtain ⟨⟨c, ρ1⟩, q1, q⟩ := bnd' q
  obtain ⟨G1, os1, e1, r1⟩ := ht N F σ G ρ os c _ iv q1
  unfold pIf1 at q
  cases c with
  | true =>
    obtain ⟨v, G2, os2, as2, e2, r2, k2⟩ := h1 N F σ G1 ρ1 os1 e _ r1.inv0 q
    refine ⟨v, G2, os2, as2, ?_, (Res.seq0 iv r1 r2).weak (by simp; intro i h; rcases h with h | h <;> simp [h]), k2⟩
    show (mt σ G).bind _ = _
    rw [e1]
    exact e2
  | false =>
    obtain ⟨v, G2, os2, as2, e2, r2, k2⟩ := h2 N F σ G1 ρ1 os1 e _ r1.inv0 q
    refine ⟨v, G2, os2, as2, ?_, (Res.seq0 iv r1 r2).weak (by simp; intro i h; rcases h with h | h <;> simp [h]), k2⟩
    show (mt σ G).bind _ = _
    rw [e1]
    exact e2
end
end Pl

/-! Pl, part 3: arguments, displays, built-ins, methods. -/
namespace Pl
open PySem L2 Zl
section
variable {N N1 N2 F A A' : Nat → Prop} {σ : St} {G G' G1 G2 : Hz} {ρ ρ' ρ1 ρ2 : PSt} {os os1 os2 : Nat → List Nat} {M M1 M2 : List Nat} {as as1 as2 bs cs : List Nat} {e e1 : E} {es : List E} {v v1 w : V} {vs : List V} {t u : Tr} {ts : List Tr}
theorem ao_nil : AOk [] aNil aNilP := fun N F σ G ρ os e ρ' iv q => by
  cases q
  exact ⟨[], G, os, [], rfl, .refl iv, rfl, rfl⟩
theorem ao_cons {m : ME} {p : PE} {mr : MA} {pr : PA} (h : EOk M1 m p) (hr : AOk M2 mr pr) : AOk (M1 ++ M2) (aCons m mr) (aConsP p pr) := fun N F σ G ρ os es ρ' iv q => by
  obtain ⟨⟨e1, ρ1⟩, q1, q⟩ := bnd' q
  obtain ⟨⟨es, ρ2⟩, q2, q⟩ := bnd' q
  cases q
  obtain ⟨x, G1, os1, as1, e1', r1, k1⟩ := h N F σ G ρ os e1 _ iv q1
  obtain ⟨ys, G2, os2, as2, e2', r2, k2⟩ := hr _ F σ G1 ρ1 os1 es _ r1.inv q2
  have k1' := k1.keep r1.inv r2 fun a ha => (k2.fr a ha).1
  refine ⟨x :: ys, G2, os2, as1 ++ as2, ?_, Res.seq iv r1 r2, x, ys, as1, as2, rfl, rfl, k1', k2⟩
  show (m σ G).bind _ = _
  rw [e1']
  show (mr σ G1).bind _ = _
  rw [e2']
  rfl
def Ars (A F : Nat → Prop) (G : Hz) : List Tr → List V → Prop
  | [], vs => vs = []
  | t :: ts, vs => ∃ v ws as, vs = v :: ws ∧ Rl A F G t v as ∧ Ars A F G ts ws
theorem drs_ok : ∀ {es : List E} {vs : List V} {N1 : Nat → Prop} {as : List Nat} {ts : List Tr}, Inv N2 F σ G ρ os → TmEs N1 F σ G os es vs as → (∀ a, N2 a → Nu N1 as a) → drs ρ es = some ts → Ars (Ow os N2) F G ts vs
  | [], vs, N1, as, ts, iv, k, q, h => by cases h; exact k.1
  | e :: es, vs, N1, as, ts, iv, ⟨v, ws, bs, cs, e1, e2, k1, k2⟩, q, h => by
    subst e1 e2
    obtain ⟨t, h1, h⟩ := bnd' h
    obtain ⟨us, h2, rfl⟩ := Option.map_eq_some_iff.mp h
    obtain ⟨b, r⟩ := dr_ok iv k1 (fun a ha => by rw [nu_nu, nu_swap]; exact q a ha) h1
    exact ⟨v, ws, b, rfl, r, drs_ok iv k2 (fun a ha => by rw [nu_nu]; exact q a ha) h2⟩
theorem tk_inv {t : Tr} (h : tk e = some t) : ∃ x, e = .t x ∧ t = x.dem := by
  cases e with
  | t x => cases h; exact ⟨x, rfl, rfl⟩
  | al i => cases h
theorem kp_inv {t : Tr} (h : kp e = some t) : e = .t t := by
  cases e with
  | t x => cases h; rfl
  | al i => cases h
theorem tm_dem (iv : Inv (Nu N1 as) F σ G ρ os) (k : Tm N1 F G os t v as) (hA : ∀ a, A' a → Ow os N1 a) : Rl A' F G t.dem v [] := by
  refine k.rl.dem (fun a _ ha => ?_) fun a ha => ⟨fun z => (hA a z).elim (fun ⟨j, hj⟩ => (iv.fr j a hj).1 (.inr ha)) (k.fr a ha).1, (k.fr a ha).2⟩
  exact (hA a ha).elim .inl fun y => .inr (.inl y)
theorem tks_ok : ∀ {es : List E} {vs : List V} {N1 : Nat → Prop} {as : List Nat} {ts : List Tr}, Inv (Nu N1 as) F σ G ρ os → TmEs N1 F σ G os es vs as → (∀ a, A' a → Ow os N1 a) → tks es = some ts → Rls A' F G ts vs []
  | [], vs, N1, as, ts, iv, k, hA, h => by cases h; exact ⟨k.1, rfl⟩
  | e :: es, vs, N1, as, ts, iv, ⟨v, ws, bs, cs, e1, e2, k1, k2⟩, hA, h => by
    subst e1 e2
    obtain ⟨t, h1, h⟩ := bnd' h
    obtain ⟨us, h2, rfl⟩ := Option.map_eq_some_iff.mp h
    obtain ⟨x, rfl, rfl⟩ := tk_inv h1
    refine ⟨v, ws, [], [], rfl, rfl, tm_dem (N1 := Nu N1 cs) (by rw [nu_nu, nu_swap]; exact iv) k1 (fun a ha => (hA a ha).elim .inl fun y => .inr (.inl y)), tks_ok (by rw [nu_nu]; exact iv) k2 (fun a ha => (hA a ha).elim .inl fun y => .inr (.inl y)) h2⟩
theorem kps_ok : ∀ {es : List E} {vs : List V} {N1 : Nat → Prop} {as : List Nat} {ts : List Tr}, TmEs N1 F σ G os es vs as → kps es = some ts → Rls (Ow os (Nu N1 as)) F G ts vs as
  | [], vs, N1, as, ts, k, h => by cases h; exact ⟨k.1, k.2⟩
  | e :: es, vs, N1, as, ts, ⟨v, ws, bs, cs, e1, e2, k1, k2⟩, h => by
    subst e1 e2
    obtain ⟨t, h1, h⟩ := bnd' h
    obtain ⟨us, h2, rfl⟩ := Option.map_eq_some_iff.mp h
    have := kp_inv h1
    subst this
    have r1 := Tm.rl k1
    have r2 := kps_ok k2 h2
    rw [nu_nu, nu_swap] at r1
    rw [nu_nu] at r2
    exact ⟨v, ws, bs, cs, rfl, rfl, r1, r2⟩
def kdSeq : Kd → Bool
  | .lst => true
  | .tup => true
  | _ => false
def mDis (k : Kd) (m : MA) : ME := match k with
  | .lst => eLst m
  | _ => eTup m
theorem mDis_ev {k : Kd} (hk : kdSeq k = true) {m : MA} {vs : List V} (e : m σ G = some (vs, G1)) (l : vs.length ≤ sizeLine) : mDis k m σ G = some (.ref G1.length, G1 ++ [k.mk vs]) := by
  cases k with
  | lst =>
    show (m σ G).bind _ = _
    rw [e]
    show (if vs.length ≤ sizeLine then _ else none) = _
    rw [if_pos l]
    rfl
  | tup =>
    show (m σ G).bind _ = _
    rw [e]
    show (if vs.length ≤ sizeLine then _ else none) = _
    rw [if_pos l]
    rfl
  | _ => cases hk
theorem seq_len {k : Kd} {n : Nat} (hk : kdSeq k = true) : k.len n := by
  cases k <;> first | trivial | cases hk
theorem mkL2_inv {k : Kd} {ts : List Tr} (h : mkL2 k ρ ts = some (e, ρ')) : ts.length ≤ sizeLine ∧ e = .t (.nd .own k ts) ∧ ρ' = ρ := by
  unfold mkL2 at h
  split at h
  · cases h; exact ⟨‹_›, rfl, rfl⟩
  · cases h
theorem eo_disK {k : Kd} (hk : kdSeq k = true) {m : MA} {p : PA} (h : AOk M m p) : EOk M (mDis k m) (pDis k p) := fun N F σ G ρ os e ρ' iv q => by
  obtain ⟨⟨es, ρ1⟩, q1, q⟩ := bnd' q
  obtain ⟨ts, q2, q⟩ := bnd' q
  obtain ⟨l, rfl, rfl⟩ := mkL2_inv q
  obtain ⟨vs, G1, os1, as1, m1, r1, k1⟩ := h N F σ G ρ os es _ iv q1
  have rs := tks_ok (A' := Ow os1 N) r1.inv k1 (fun a ha => ha) q2
  have ln := rs.length
  have n : NewV (Ow os1 (Nu N [])) F G1 (.ref G1.length) (G1 ++ [k.mk vs]) (.nd .own k ts) := .inr ⟨k, vs, ts, rfl, rfl, rfl, seq_len hk, by rw [nu_nil]; exact rs⟩
  obtain ⟨cs, r2, k2⟩ := n.fin iv r1.drop0
  exact ⟨_, _, os1, cs, mDis_ev hk m1 (by rw [ln]; exact l), r2, k2⟩
theorem eo_lst {m : MA} {p : PA} (h : AOk M m p) : EOk M (eLst m) (pDis .lst p) := eo_disK (k := .lst) rfl h
theorem eo_keepK {k : Kd} (hk : kdSeq k = true) {m : MA} {p : PA} (h : AOk M m p) : EOk M (mDis k m) (pKeep k p) := fun N F σ G ρ os e ρ' iv q => by
  obtain ⟨⟨es, ρ1⟩, q1, q⟩ := bnd' q
  obtain ⟨ts, q2, q⟩ := bnd' q
  obtain ⟨l, rfl, rfl⟩ := mkL2_inv q
  obtain ⟨vs, G1, os1, as1, m1, r1, k1⟩ := h N F σ G ρ os es _ iv q1
  have rs := kps_ok k1 q2
  have ln := rs.length
  have c := r1.chg.trans (chg_app (M := []) r1.inv [k.mk vs]) iv.lt
  refine ⟨_, _, os1, G1.length :: as1, mDis_ev hk m1 (by rw [ln]; exact l), ⟨c.weak (by simp), fun a ha => ?_, ?_⟩, ?_, ?_, fun a ha => ?_⟩
  · rcases List.mem_cons.mp ha with rfl | ha
    · exact .inr r1.chg.len
    · exact r1.sub a ha
  · refine r1.inv.mono (fun a la => get_app' la) (by simp) (fun a ha => ?_) fun a ha => ?_
    · rcases ha with ha | ha
      · exact .inl (.inl ha)
      · rcases List.mem_cons.mp ha with rfl | ha
        · exact .inr (Nat.le_refl _)
        · exact .inl (.inr ha)
    · rw [List.length_append, List.length_singleton]
      rcases ha with ha | ha
      · exact Nat.lt_succ_of_lt (r1.inv.bn a (.inl ha))
      · rcases List.mem_cons.mp ha with rfl | ha
        · exact Nat.lt_succ_self _
        · exact Nat.lt_succ_of_lt (r1.inv.bn a (.inr ha))
  · refine ⟨G1.length, vs, as1, rfl, by simp, seq_len hk, Rls.mono (fun a la _ => get_app' la) (fun a ha => ?_) (fun a ha => .inl ha) _ _ _ (fun a ha => get_app' (Rls.lt _ _ _ rs a ha)) rs, rfl⟩
    rcases ha with ha | ha | ha
    · exact .inl (.inl ha)
    · exact .inl (.inr (.inl ha))
    · rcases List.mem_cons.mp ha with rfl | ha
      · exact .inr (Nat.le_refl _)
      · exact .inl (.inr (.inr ha))
  · exact List.nodup_cons.mpr ⟨fun z => Nat.lt_irrefl _ (r1.inv.bn _ (.inr z)), k1.nd⟩
  · rcases List.mem_cons.mp ha with rfl | ha
    · exact ⟨fun z => Nat.lt_irrefl _ (r1.inv.bn _ (.inl z)), fun z => Nat.lt_irrefl _ (r1.inv.bf _ z)⟩
    · exact k1.fr a ha
theorem eo_lstK {m : MA} {p : PA} (h : AOk M m p) : EOk M (eLst m) (pKeep .lst p) := eo_keepK (k := .lst) rfl h
def OpL (f : FL) (g : PL) : Prop := ∀ (A F : Nat → Prop) (G : Hz) (vs : List V) (ts : List Tr) (t : Tr), Ars A F G ts vs → g ts = some t → ∃ v G', f vs G = some (v, G') ∧ NewV A F G v G' t
theorem eo_call {f : FL} {g : PL} {m : MA} {p : PA} (o : OpL f g) (h : AOk M m p) : EOk M (eCall f m) (pCall g p) := fun N F σ G ρ os e ρ' iv q => by
  obtain ⟨⟨es, ρ1⟩, q1, q⟩ := bnd' q
  obtain ⟨ts, q2, q⟩ := bnd' q
  obtain ⟨t, q3, q⟩ := bnd' q
  cases q
  obtain ⟨vs, G1, os1, as1, m1, r1, k1⟩ := h N F σ G ρ os es _ iv q1
  obtain ⟨v, G2, m2, n⟩ := o _ F G1 vs ts t (drs_ok r1.inv k1 (fun a ha => ha) q2) q3
  obtain ⟨cs, r2, k2⟩ := n.fin iv r1
  refine ⟨v, G2, os1, cs, ?_, r2, k2⟩
  show (m σ G).bind _ = _
  rw [m1]
  exact m2
/-! ### methods that change an object -/
theorem Inv.heap (h : Inv N F σ G ρ os) (hl : G'.length = G.length) (hG : ∀ a, ¬ N a → G'[a]? = G[a]?) : Inv N F σ G' ρ os where
  sl := fun i t e => by
    obtain ⟨v, e1, r⟩ := h.sl i t e
    exact ⟨v, e1, Rl.mono (fun a _ ha => hG a fun z => ha (.inr z)) (fun a ha => .inl ha) (fun a ha => .inl ha) _ _ _ (fun a ha => hG a (h.fr i a ha).1) r⟩
  em := h.em
  nd := h.nd
  dj := h.dj
  fr := h.fr
  ln := h.ln
  bn := fun a ha => by rw [hl]; exact h.bn a ha
  bf := fun a ha => by rw [hl]; exact h.bf a ha
theorem set_same {i : Nat} {o : Option V} (e : σ[i]? = some o) : σ.set i o = σ := by
  refine List.ext_getElem? fun j => ?_
  by_cases z : i = j
  · subst z
    rw [List.getElem?_set_self (List.getElem?_eq_some_iff.mp e).1, e]
  · rw [List.getElem?_set_ne z]
/-- slot i's object at a becomes t' -/
theorem upd_fin {i a : Nat} {k k' : Kd} {vs' : List V} {xs xs' : List Tr} {bs' cs es ds : List Nat} {r : Tr} {w : V} (iv : Inv N F σ G ρ os) (r1 : Res M N F σ G ρ os G1 ρ1 os1 as) (e1 : getT ρ1[i]? = some (.nd .own k xs)) (eσ : σ[i]? = some (some (.ref a))) (eo : os1 i = a :: bs) (hd : ∀ b ∈ ds, b ∈ as) (hdn : ds.Nodup) (hdf : ∀ b ∈ ds, ¬ N b ∧ ¬ F b)
    (l' : k'.len vs'.length) (rx : Rls (Ow os1 (Nu N as)) F G1 xs' vs' bs') (rr : Rl (Ow os1 (Nu N as)) F G1 r w cs) (pm : (bs' ++ cs ++ es).Perm (bs ++ ds)) :
    Res (i :: M) N F σ G ρ os (G1.set a (k'.mk vs')) (ρ1.set i (some (.nd .own k' xs'))) (up os1 i (a :: bs')) cs ∧ Tm N F (G1.set a (k'.mk vs')) (up os1 i (a :: bs')) r w cs := by
  obtain ⟨v, e2, tk, iv2⟩ := r1.inv.take e1
  have hi : i < ρ1.length := getT_lt e1
  have ha : a ∈ os1 i := by rw [eo]; exact List.mem_cons_self ..
  have hla := r1.inv.lt i a ha
  have nd1 := r1.inv.nd i
  rw [eo, List.nodup_cons] at nd1
  have memP : ∀ b, b ∈ bs' ∨ b ∈ cs → b ∈ bs ∨ b ∈ ds := fun b hb => List.mem_append.mp (pm.mem_iff.mp (by simp only [List.mem_append]; rcases hb with hb | hb <;> simp [hb]))
  have bdj : ∀ b ∈ bs, b ∉ ds := fun b hb z => (r1.inv.fr i b (by rw [eo]; exact List.mem_cons_of_mem _ hb)).1 (.inr (hd b z))
  have ndP : (bs' ++ cs ++ es).Nodup := pm.nodup_iff.mpr (List.nodup_append.mpr ⟨nd1.2, hdn, fun b hb c hc z => bdj b hb (z ▸ hc)⟩)
  obtain ⟨nd2, _, _⟩ := List.nodup_append.mp ndP
  obtain ⟨ndb, ndc, dbc⟩ := List.nodup_append.mp nd2
  have ane : ∀ b, b ∈ bs' ∨ b ∈ cs → b ≠ a := fun b hb z => (memP b hb).elim (fun y => nd1.1 (z ▸ y)) fun y => (r1.inv.fr i a ha).1 (.inr (hd a (z ▸ y)))
  have frb : ∀ b, b ∈ bs' ∨ b ∈ cs → ¬ N b ∧ ¬ F b := fun b hb => (memP b hb).elim (fun y => ⟨fun z => (r1.inv.fr i b (by rw [eo]; exact List.mem_cons_of_mem _ y)).1 (.inl z), (r1.inv.fr i b (by rw [eo]; exact List.mem_cons_of_mem _ y)).2⟩) (hdf b)
  have inA : ∀ b, b ∈ bs' ∨ b ∈ cs → Ow os1 (Nu N as) b := fun b hb => (memP b hb).elim (fun y => .inl ⟨i, by rw [eo]; exact List.mem_cons_of_mem _ y⟩) fun y => .inr (.inr (hd b y))
  have hset : ∀ b, b ≠ a → (G1.set a (k'.mk vs'))[b]? = G1[b]? := fun b hb => List.getElem?_set_ne (Ne.symm hb)
  have ia : Ow os1 (Nu N as) a := .inl ⟨i, ha⟩
  have iv3 : Inv (Nu (Nu N as) (os1 i)) F σ (G1.set a (k'.mk vs')) (ρ1.set i none) (up os1 i []) := iv2.heap List.length_set fun b hb => hset b fun z => hb (.inr (z ▸ ha))
  have iv4 : Inv (Nu (Nu N cs) (a :: bs')) F σ (G1.set a (k'.mk vs')) (ρ1.set i none) (up os1 i []) := iv3.weak fun b hb => by
    rcases hb with (hb | hb) | hb
    · exact .inl (.inl hb)
    · exact (memP b (.inr hb)).elim (fun y => .inr (by rw [eo]; exact List.mem_cons_of_mem _ y)) fun y => .inl (.inr (hd b y))
    · rcases List.mem_cons.mp hb with rfl | hb
      · exact .inr ha
      · exact (memP b (.inl hb)).elim (fun y => .inr (by rw [eo]; exact List.mem_cons_of_mem _ y)) fun y => .inl (.inr (hd b y))
  have hAup : ∀ {bb : List Nat} (b : Nat), (∃ j, b ∈ up os1 i bb j) → (∀ c ∈ bb, c = a ∨ c ∈ bs') → Ow os1 (Nu N as) b := fun b ⟨j, hj⟩ hs => by
    unfold up at hj
    split at hj
    · exact (hs b hj).elim (fun z => z ▸ ia) fun y => inA b (.inl y)
    · exact .inl ⟨j, hj⟩
  have tm : Tm (Nu N cs) F (G1.set a (k'.mk vs')) (up os1 i []) (.nd .own k' xs') (.ref a) (a :: bs') := by
    refine ⟨⟨a, vs', bs', rfl, by rw [List.getElem?_set_self hla], l', Rls.mono (fun b _ hb => hset b fun z => hb (z ▸ ia)) (fun b hb => .inl ?_) (fun b hb => .inl hb) _ _ _ (fun b hb => hset b (ane b (.inl hb))) rx, rfl⟩, List.nodup_cons.mpr ⟨fun z => ane a (.inl z) rfl, ndb⟩, fun b hb => ?_⟩
    · rcases hb with hb | (hb | hb) | hb
      · exact hAup (bb := []) b hb fun c hc => nomatch hc
      · exact .inr (.inl hb)
      · exact inA b (.inr hb)
      · rcases List.mem_cons.mp hb with rfl | hb
        · exact ia
        · exact inA b (.inl hb)
    · rcases List.mem_cons.mp hb with rfl | hb
      · exact ⟨fun z => z.elim (fun y => (r1.inv.fr i b ha).1 (.inl y)) fun y => ane b (.inr y) rfl, (r1.inv.fr i b ha).2⟩
      · exact ⟨fun z => z.elim (frb b (.inl hb)).1 fun y => dbc b hb b y rfl, (frb b (.inl hb)).2⟩
  have pu := iv4.put tm (i := i) (by rw [List.length_set]; exact hi)
  rw [set_same eσ, List.set_set] at pu
  have eup : up (up os1 i []) i (a :: bs') = up os1 i (a :: bs') := funext fun j => by unfold up; split <;> rfl
  rw [eup] at pu
  have c2 : Chg (i :: M) G ρ os (G1.set a (k'.mk vs')) (ρ1.set i (some (.nd .own k' xs'))) (up os1 i (a :: bs')) := by
    refine ⟨by rw [List.length_set]; exact r1.chg.len, fun b hb hq => ?_, fun j b hj => ?_, fun j hj => ?_⟩
    · rw [hset b fun z => ?_]
      · exact r1.chg.frm b hb hq
      · subst z
        exact (r1.chg.sub i b ha).elim (fun ⟨j, hj⟩ => hq j hj) fun y => absurd hb (Nat.not_lt.mpr y)
    · unfold up at hj
      split at hj
      · rcases List.mem_cons.mp hj with rfl | hj
        · exact r1.chg.sub i b ha
        · exact (memP b (.inl hj)).elim (fun y => r1.chg.sub i b (by rw [eo]; exact List.mem_cons_of_mem _ y)) fun y => r1.sub b (hd b y)
      · exact r1.chg.sub j b hj
    · have hj1 : i ≠ j := fun z => hj (by rw [z]; exact List.mem_cons_self ..)
      obtain ⟨m1, m2, m3⟩ := r1.chg.mt j fun z => hj (List.mem_cons_of_mem _ z)
      refine ⟨by rw [getT_set, if_neg hj1]; exact m1, by rw [up_ne hj1]; exact m2, fun b hb => ?_⟩
      rw [hset b fun z => hj1 (r1.inv.dj i j a ha (by rw [m2]; exact z ▸ hb))]
      exact m3 b hb
  refine ⟨⟨c2, fun b hb => ?_, pu⟩, Rl.mono (fun b _ hb => hset b fun z => hb (z ▸ ia)) (fun b hb => .inl ?_) (fun b hb => .inl hb) _ _ _ (fun b hb => hset b (ane b (.inr hb))) rr, ndc, fun b hb => frb b (.inr hb)⟩
  · exact (inA b (.inr hb)).elim (fun ⟨j, hj⟩ => r1.chg.sub j b hj) fun y => y.elim (fun z => absurd z (frb b (.inr hb)).1) fun z => r1.sub b z
  · rcases hb with hb | hb | hb
    · exact hAup b hb fun c hc => (List.mem_cons.mp hc)
    · exact .inr (.inl hb)
    · exact inA b (.inr hb)
theorem own_inv {k : Kd} {xs : List Tr} {i : Nat} (iv : Inv N F σ G ρ os) (e : getT ρ[i]? = some (.nd .own k xs)) : ∃ a vs bs, σ[i]? = some (some (.ref a)) ∧ os i = a :: bs ∧ G[a]? = some (k.mk vs) ∧ k.len vs.length ∧ Rls (Ow os N) F G xs vs bs := by
  obtain ⟨v, e1, a, vs, bs, rfl, e2, l, r, fl⟩ := iv.sl i _ e
  exact ⟨a, vs, bs, e1, fl, e2, l, r⟩
end
end Pl

/-! Pl, part 4: statements. -/
namespace Pl
open PySem L2 Zl
structure SRes (Rb M : List Nat) (N F : Nat → Prop) (σ : St) (G : Hz) (ρ : PSt) (os : Nat → List Nat) (σ' : St) (G' : Hz) (ρ' : PSt) (os' : Nat → List Nat) : Prop where
  chg : Chg M G ρ os G' ρ' os'
  inv : Inv N F σ' G' ρ' os'
  reb : ∀ i, i ∉ Rb → σ'[i]? = σ[i]?
def SPost (Rb M : List Nat) (N F : Nat → Prop) (σ : St) (G : Hz) (ρ : PSt) (os : Nat → List Nat) : PR → R → Prop
  | .nx ρ', r => ∃ σ' G' os', r = .nx σ' G' ∧ SRes Rb M N F σ G ρ os σ' G' ρ' os'
  | .bk ρ', r => ∃ σ' G' os', r = .bk σ' G' ∧ SRes Rb M N F σ G ρ os σ' G' ρ' os'
  | .ct ρ', r => ∃ σ' G' os', r = .ct σ' G' ∧ SRes Rb M N F σ G ρ os σ' G' ρ' os'
  | .rt t ρ', r => ∃ v σ' G' os' as, r = .rt v G' ∧ Chg M G ρ os G' ρ' os' ∧ (∀ a ∈ as, (∃ i, a ∈ os i) ∨ G.length ≤ a) ∧ Inv (Nu N as) F σ' G' ρ' os' ∧ (∀ i, i ∉ Rb → σ'[i]? = σ[i]?) ∧ Tm N F G' os' t v as
def SOk (Rb M : List Nat) (m : MS) (p : PS) : Prop := ∀ (N F : Nat → Prop) (σ : St) (G : Hz) (ρ : PSt) (os : Nat → List Nat) (r : PR), Inv N F σ G ρ os → p ρ = some r → ∃ r', m σ G = some r' ∧ SPost Rb M N F σ G ρ os r r'
section
variable {N N1 N2 F A A' : Nat → Prop} {σ σ' σ1 σ2 : St} {G G' G1 G2 : Hz} {ρ ρ' ρ1 ρ2 : PSt} {os os' os1 os2 : Nat → List Nat} {M M1 M2 Rb R1 R2 Rg : List Nat} {as as1 as2 bs cs : List Nat} {e e1 : E} {es : List E} {v v1 w : V} {vs : List V} {t u : Tr} {ts : List Tr}
theorem SRes.trans (h : Inv N F σ G ρ os) (a : SRes R1 M1 N F σ G ρ os σ1 G1 ρ1 os1) (b : SRes R2 M2 N F σ1 G1 ρ1 os1 σ2 G2 ρ2 os2) : SRes (R1 ++ R2) (M1 ++ M2) N F σ G ρ os σ2 G2 ρ2 os2 :=
  ⟨a.chg.trans b.chg h.lt, b.inv, fun i hi => (b.reb i fun z => hi (List.mem_append_right _ z)).trans (a.reb i fun z => hi (List.mem_append_left _ z))⟩
theorem SRes.weak (a : SRes R1 M1 N F σ G ρ os σ1 G1 ρ1 os1) (hr : ∀ i, i ∈ R1 → i ∈ R2) (hm : ∀ i, i ∈ M1 → i ∈ M2) : SRes R2 M2 N F σ G ρ os σ1 G1 ρ1 os1 := ⟨a.chg.weak hm, a.inv, fun i hi => a.reb i fun z => hi (hr i z)⟩
theorem SRes.refl (h : Inv N F σ G ρ os) : SRes Rb M N F σ G ρ os σ G ρ os := ⟨.refl, h, fun _ _ => rfl⟩
theorem SPost.pre {r : PR} {r' : R} (h : Inv N F σ G ρ os) (a : SRes R1 M1 N F σ G ρ os σ1 G1 ρ1 os1) (b : SPost R2 M2 N F σ1 G1 ρ1 os1 r r') : SPost (R1 ++ R2) (M1 ++ M2) N F σ G ρ os r r' := by
  cases r with
  | nx ρ' => obtain ⟨σ', G', os', e, q⟩ := b; exact ⟨σ', G', os', e, a.trans h q⟩
  | bk ρ' => obtain ⟨σ', G', os', e, q⟩ := b; exact ⟨σ', G', os', e, a.trans h q⟩
  | ct ρ' => obtain ⟨σ', G', os', e, q⟩ := b; exact ⟨σ', G', os', e, a.trans h q⟩
  | rt t ρ' =>
    obtain ⟨v, σ', G', os', as, e, c, s, i, rb, tm⟩ := b
    exact ⟨v, σ', G', os', as, e, a.chg.trans c h.lt, fun x hx => (s x hx).elim (fun ⟨j, hj⟩ => a.chg.sub j x hj) fun y => .inr (Nat.le_trans a.chg.len y), i, fun i hi => (rb i fun z => hi (List.mem_append_right _ z)).trans (a.reb i fun z => hi (List.mem_append_left _ z)), tm⟩
theorem SPost.weak {r : PR} {r' : R} (b : SPost R1 M1 N F σ G ρ os r r') (hr : ∀ i, i ∈ R1 → i ∈ R2) (hm : ∀ i, i ∈ M1 → i ∈ M2) : SPost R2 M2 N F σ G ρ os r r' := by
  cases r with
  | nx ρ' => obtain ⟨σ', G', os', e, q⟩ := b; exact ⟨σ', G', os', e, q.weak hr hm⟩
  | bk ρ' => obtain ⟨σ', G', os', e, q⟩ := b; exact ⟨σ', G', os', e, q.weak hr hm⟩
  | ct ρ' => obtain ⟨σ', G', os', e, q⟩ := b; exact ⟨σ', G', os', e, q.weak hr hm⟩
  | rt t ρ' =>
    obtain ⟨v, σ', G', os', as, e, c, s, i, rb, tm⟩ := b
    exact ⟨v, σ', G', os', as, e, c.weak hm, s, i, fun i hi => rb i fun z => hi (hr i z), tm⟩
theorem memL {i : Nat} {l k : List Nat} (h : i ∈ l) : i ∈ l ++ k := List.mem_append_left _ h
theorem memR {i : Nat} {l k : List Nat} (h : i ∈ k) : i ∈ l ++ k := List.mem_append_right _ h
/-- an expression ahead of a statement -/
theorem Res.sres (r : Res M N F σ G ρ os G1 ρ1 os1 []) : SRes [] M N F σ G ρ os σ G1 ρ1 os1 := ⟨r.chg, r.inv0, fun _ _ => rfl⟩
theorem so_pass : SOk [] [] sPass zPass := fun N F σ G ρ os r iv q => by
  cases q
  exact ⟨_, rfl, σ, G, os, rfl, .refl iv⟩
theorem so_seq {a b : MS} {pa pb : PS} (ha : SOk R1 M1 a pa) (hb : SOk R2 M2 b pb) : SOk (R1 ++ R2) (M1 ++ M2) (sSeq a b) (zSeq pa pb) := fun N F σ G ρ os r iv q => by
  obtain ⟨r1, q1, q⟩ := bnd' q
  obtain ⟨r1', e1, s1⟩ := ha N F σ G ρ os r1 iv q1
  have go : ∀ R0, R.then r1' b = some R0 → sSeq a b σ G = some R0 := fun R0 h => by
    show (a σ G).bind _ = _
    rw [e1]
    exact h
  cases r1 with
  | nx ρ1 =>
    obtain ⟨σ1, G1, os1, rfl, s⟩ := s1
    obtain ⟨r2', e2, s2⟩ := hb N F σ1 G1 ρ1 os1 r s.inv q
    exact ⟨r2', go _ e2, SPost.pre iv s s2⟩
  | bk ρ1 =>
    cases q
    obtain ⟨σ1, G1, os1, rfl, s⟩ := s1
    exact ⟨_, go _ rfl, σ1, G1, os1, rfl, s.weak (fun _ => memL) fun _ => memL⟩
  | ct ρ1 =>
    cases q
    obtain ⟨σ1, G1, os1, rfl, s⟩ := s1
    exact ⟨_, go _ rfl, σ1, G1, os1, rfl, s.weak (fun _ => memL) fun _ => memL⟩
  | rt t ρ1 =>
    cases q
    have s1' := s1
    obtain ⟨v, σ1, G1, os1, as, rfl, s⟩ := s1
    exact ⟨_, go _ rfl, SPost.weak (r := .rt t ρ1) s1' (fun _ => memL) fun _ => memL⟩
theorem so_if {mt : MT} {pt : PT} {a b : MS} {pa pb : PS} (ht : TOk M mt pt) (ha : SOk R1 M1 a pa) (hb : SOk R2 M2 b pb) : SOk (R1 ++ R2) (M ++ (M1 ++ M2)) (sIf mt a b) (zIf pt pa pb) := fun N F σ G ρ os r iv q => by
  obtain ⟨⟨c, ρ1⟩, q1, q⟩ := bnd' q
  obtain ⟨G1, os1, e1, r1⟩ := ht N F σ G ρ os c _ iv q1
  unfold zIf1 at q
  cases c with
  | true =>
    obtain ⟨r', e2, s⟩ := ha N F σ G1 ρ1 os1 r r1.inv0 q
    refine ⟨r', ?_, (SPost.pre iv r1.sres s).weak (fun i h => memL h) fun i h => ?_⟩
    · show (mt σ G).bind _ = _
      rw [e1]
      exact e2
    · exact (List.mem_append.mp h).elim memL fun y => memR (memL y)
  | false =>
    obtain ⟨r', e2, s⟩ := hb N F σ G1 ρ1 os1 r r1.inv0 q
    refine ⟨r', ?_, (SPost.pre iv r1.sres s).weak (fun i h => memR h) fun i h => ?_⟩
    · show (mt σ G).bind _ = _
      rw [e1]
      exact e2
    · exact (List.mem_append.mp h).elim memL fun y => memR (memR y)
theorem Inv.kills : ∀ (ds : List Nat) {ρ : PSt} {os : Nat → List Nat}, Inv N F σ G ρ os → ∃ os', SRes [] ds N F σ G ρ os σ G (kills ρ ds) os' ∧ ∀ i, os' i = os i ∨ os' i = []
  | [], ρ, os, h => ⟨os, .refl h, fun i => .inl rfl⟩
  | d :: ds, ρ, os, h => by
    obtain ⟨os', s, hs⟩ := Inv.kills ds (h.drop d)
    have c : SRes [] [d] N F σ G ρ os σ G (ρ.set d none) (up os d []) := ⟨⟨Nat.le_refl _, fun _ _ _ => rfl, fun j a ha => by
      unfold up at ha
      split at ha
      · cases ha
      · exact .inl ⟨j, ha⟩, fun j hj => by
      have hj : d ≠ j := fun z => hj (by rw [z]; exact List.mem_singleton_self _)
      exact ⟨by rw [getT_set, if_neg hj], up_ne hj, fun _ _ => rfl⟩⟩, h.drop d, fun _ _ => rfl⟩
    refine ⟨os', c.trans h s, fun i => ?_⟩
    rcases hs i with e | e
    · rw [e]
      unfold up
      split
      · exact .inr rfl
      · exact .inl rfl
    · exact .inr e
theorem so_kill {a : MS} {pa : PS} (ds : List Nat) (ha : SOk R1 M1 a pa) : SOk R1 (M1 ++ ds) a (zKill ds pa) := fun N F σ G ρ os r iv q => by
  obtain ⟨r1, q1, q⟩ := bnd' q
  obtain ⟨r1', e1, s1⟩ := ha N F σ G ρ os r1 iv q1
  cases r1 with
  | nx ρ1 =>
    cases q
    obtain ⟨σ1, G1, os1, rfl, s⟩ := s1
    obtain ⟨os2, s2, _⟩ := Inv.kills ds s.inv
    exact ⟨_, e1, σ1, G1, os2, rfl, (s.trans iv s2).weak (fun i h => (List.mem_append.mp h).elim id fun y => nomatch y) fun i h => h⟩
  | ct ρ1 =>
    cases q
    obtain ⟨σ1, G1, os1, rfl, s⟩ := s1
    obtain ⟨os2, s2, _⟩ := Inv.kills ds s.inv
    exact ⟨_, e1, σ1, G1, os2, rfl, (s.trans iv s2).weak (fun i h => (List.mem_append.mp h).elim id fun y => nomatch y) fun i h => h⟩
  | bk ρ1 =>
    cases q
    exact ⟨_, e1, s1.weak (fun _ h => h) fun _ => memL⟩
  | rt t ρ1 =>
    cases q
    exact ⟨_, e1, s1.weak (fun _ h => h) fun _ => memL⟩
theorem so_ret {m : ME} {p : PE} (h : EOk M m p) : SOk [] M (sRet m) (zRet p) := fun N F σ G ρ os r iv q => by
  obtain ⟨⟨e1, ρ1⟩, q1, q⟩ := bnd' q
  obtain ⟨t, q2, q⟩ := bnd' q
  cases q
  obtain ⟨x, G1, os1, as1, e1', r1, k1⟩ := h N F σ G ρ os e1 _ iv q1
  have := kp_inv q2
  subst this
  refine ⟨.rt x G1, ?_, x, σ, G1, os1, as1, rfl, r1.chg, r1.sub, r1.inv, fun _ _ => rfl, k1⟩
  show (m σ G).bind _ = _
  rw [e1']
  rfl
/-! ### targets -/
structure GRes (Rg : List Nat) (N F : Nat → Prop) (σ : St) (G : Hz) (ρ : PSt) (os : Nat → List Nat) (σ' : St) (ρ' : PSt) (os' : Nat → List Nat) (as : List Nat) : Prop where
  inv : Inv N F σ' G ρ' os'
  len : σ'.length = σ.length
  reb : ∀ i, i ∉ Rg → σ'[i]? = σ[i]? ∧ getT ρ'[i]? = getT ρ[i]? ∧ os' i = os i
  sub : ∀ i a, a ∈ os' i → (∃ j, a ∈ os j) ∨ a ∈ as
def GOk (Rg : List Nat) (g : MG) (p : PG) : Prop := ∀ (N F : Nat → Prop) (σ : St) (G : Hz) (ρ : PSt) (os : Nat → List Nat) (t : Tr) (v : V) (as : List Nat) (ρ' : PSt), Inv (Nu N as) F σ G ρ os → Tm N F G os t v as → p t ρ = some ρ' → ∃ σ' os', g v σ G = some (σ', G) ∧ GRes Rg N F σ G ρ os σ' ρ' os' as
theorem go_set {i : Nat} : GOk [i] (gSet i) (gS i) := fun N F σ G ρ os t v as ρ' iv tm q => by
  cases q
  by_cases hi : i < ρ.length
  · refine ⟨_, up os i as, rfl, iv.put tm hi, by rw [List.length_set], fun j hj => ?_, fun j a ha => ?_⟩
    · have hj : i ≠ j := fun z => hj (by rw [z]; exact List.mem_singleton_self _)
      exact ⟨by rw [List.getElem?_set_ne hj], by rw [getT_set, if_neg hj], up_ne hj⟩
    · unfold up at ha
      split at ha
      · exact .inr ha
      · exact .inl ⟨j, ha⟩
  · have h1 : ρ.set i (some t) = ρ := List.set_eq_of_length_le (Nat.le_of_not_lt hi)
    have h2 : σ.set i (some v) = σ := List.set_eq_of_length_le (by rw [iv.ln]; exact Nat.le_of_not_lt hi)
    refine ⟨σ, os, by show some (σ.set i (some v), G) = _; rw [h2], ?_, rfl, fun j hj => ⟨rfl, by rw [h1], rfl⟩, fun j a ha => .inl ⟨j, ha⟩⟩
    rw [h1]
    exact iv.weak fun _ h => .inl h
/-- the parts of a thing that is taken apart -/
def GsOk (Rg : List Nat) (g : MGs) (ps : List PG) : Prop := ∀ (N F : Nat → Prop) (σ : St) (G : Hz) (ρ : PSt) (os : Nat → List Nat) (ts : List Tr) (vs : List V) (as : List Nat) (ρ' : PSt), Inv (Nu N as) F σ G ρ os → Rls (Ow os (Nu N as)) F G ts vs as → as.Nodup → (∀ a ∈ as, ¬ N a ∧ ¬ F a) → gLs ps ts ρ = some ρ' → ∃ σ' os', g vs σ G = some (σ', G) ∧ GRes Rg N F σ G ρ os σ' ρ' os' as
theorem gs_nilP : GsOk [] gsNil [] := fun N F σ G ρ os ts vs as ρ' iv r nd fr q => by
  cases ts with
  | nil =>
    cases q
    obtain ⟨rfl, rfl⟩ := r
    rw [nu_nil] at iv
    exact ⟨σ, os, rfl, iv, rfl, fun _ _ => ⟨rfl, rfl, rfl⟩, fun i a h => .inl ⟨i, h⟩⟩
  | cons t ts => cases q
theorem gs_consP {g : MG} {gs : MGs} {p : PG} {ps : List PG} (h : GOk R1 g p) (hs : GsOk R2 gs ps) : GsOk (R1 ++ R2) (gsCons g gs) (p :: ps) := fun N F σ G ρ os ts vs as ρ' iv r nd fr q => by
  cases ts with
  | nil => cases q
  | cons t ts =>
    obtain ⟨v, ws, bs, cs, rfl, rfl, h1, h2⟩ := r
    obtain ⟨ρ1, q1, q⟩ := bnd' q
    obtain ⟨nb, nc, dj⟩ := List.nodup_append.mp nd
    rw [nu_swap, ← nu_nu] at iv h1 h2
    obtain ⟨σ1, os1, e1, g1⟩ := h (Nu N cs) F σ G ρ os t v bs ρ1 iv ⟨h1, nb, fun a ha => ⟨fun z => z.elim (fr a (memL ha)).1 fun y => dj a ha a y rfl, (fr a (memL ha)).2⟩⟩ q1
    have h2' : Rls (Ow os1 (Nu N cs)) F G ts ws cs := Rls.mono (fun _ _ _ => rfl) (fun a ha => .inl (ha.elim (fun ⟨j, hj⟩ => (g1.sub j a hj).elim .inl fun y => .inr (.inr y)) fun y => .inr (.inl y))) (fun a ha => .inl ha) _ _ _ (fun _ _ => rfl) h2
    obtain ⟨σ2, os2, e2, g2⟩ := hs N F σ1 G ρ1 os1 ts ws cs ρ' g1.inv h2' nc (fun a ha => fr a (memR ha)) q
    refine ⟨σ2, os2, ?_, g2.inv, g2.len.trans g1.len, fun i hi => ?_, fun i a ha => ?_⟩
    · show (g v σ G).bind _ = _
      rw [e1]
      exact e2
    · obtain ⟨a1, a2, a3⟩ := g1.reb i fun z => hi (memL z)
      obtain ⟨b1, b2, b3⟩ := g2.reb i fun z => hi (memR z)
      exact ⟨b1.trans a1, b2.trans a2, b3.trans a3⟩
    · rcases g2.sub i a ha with ⟨j, hj⟩ | hb
      · exact (g1.sub j a hj).elim .inl fun y => .inr (memL y)
      · exact .inr (memR hb)
theorem gLs_len : ∀ {ps : List PG} {ts : List Tr} {ρ ρ' : PSt}, gLs ps ts ρ = some ρ' → ts.length = ps.length
  | [], [], _, _, _ => rfl
  | [], _ :: _, _, _, h => by cases h
  | _ :: _, [], _, _, h => by cases h
  | p :: ps, t :: ts, _, _, h => by
    obtain ⟨ρ1, _, h⟩ := bnd' h
    rw [List.length_cons, List.length_cons]
    exact congrArg (· + 1) (gLs_len h)
theorem go_un {n : Nat} {gs : MGs} {ps : List PG} (hs : GsOk Rg gs ps) (hn : ps.length = n := by rfl) : GOk Rg (gUn n gs) (gU ps) := fun N F σ G ρ os t v as ρ' iv tm q => by
  have core : ∀ (f : Fl) (k : Kd) (xs : List Tr), kdSeq k = true → t = .nd f k xs → gLs ps xs ρ = some ρ' → ∃ σ' os', gUn n gs v σ G = some (σ', G) ∧ GRes Rg N F σ G ρ os σ' ρ' os' as := by
    rintro f k xs hk rfl q
    obtain ⟨a, vs, bs, rfl, e, l, r, fl⟩ := tm.rl
    have hbs : ∀ b ∈ bs, b ∈ as := by
      cases f with
      | own => rw [show as = a :: bs from fl]; exact fun b hb => List.mem_cons_of_mem _ hb
      | bor => rw [fl.2.1]; exact fun b hb => nomatch hb
      | frz => rw [fl.2.2.1]; exact fun b hb => nomatch hb
    have nb : bs.Nodup := by
      cases f with
      | own => have := tm.nd; rw [show as = a :: bs from fl, List.nodup_cons] at this; exact this.2
      | bor => rw [fl.2.1]; exact .nil
      | frz => rw [fl.2.2.1]; exact .nil
    have r' : Rls (Ow os (Nu N bs)) F G xs vs bs := Rls.mono (fun _ _ _ => rfl) (fun b hb => .inl (hb.elim .inl fun y => .inr (y.elim .inl fun z => .inr (hbs b z)))) (fun a ha => .inl ha) _ _ _ (fun _ _ => rfl) r
    obtain ⟨σ', os', e1, g1⟩ := hs N F σ G ρ os xs vs bs ρ' (iv.weak fun b hb => hb.elim .inl fun y => .inr (hbs b y)) r' nb (fun b hb => tm.fr b (hbs b hb)) q
    refine ⟨σ', os', ?_, g1.inv, g1.len, g1.reb, fun i b hb => (g1.sub i b hb).elim .inl fun y => .inr (hbs b y)⟩
    have hl : vs.length = n := by rw [r.length, gLs_len q, hn]
    cases k with
    | lst =>
      show (match G[a]? with | some (.tup xs) => if xs.length = n then gs xs σ G else none | some (.lst xs) => if xs.length = n then gs xs σ G else none | _ => none) = _
      rw [e]
      show (if vs.length = n then gs vs σ G else none) = _
      rw [if_pos hl, e1]
    | tup =>
      show (match G[a]? with | some (.tup xs) => if xs.length = n then gs xs σ G else none | some (.lst xs) => if xs.length = n then gs xs σ G else none | _ => none) = _
      rw [e]
      show (if vs.length = n then gs vs σ G else none) = _
      rw [if_pos hl, e1]
    | _ => cases hk
  unfold gU at q
  split at q
  · exact core _ _ _ rfl rfl q
  · exact core _ _ _ rfl rfl q
  · cases q
theorem GRes.sres (r : Res M N F σ G ρ os G1 ρ1 os1 as) (iv : Inv N F σ G ρ os) (g : GRes Rg N F σ G1 ρ1 os1 σ2 ρ2 os2 as) : SRes Rg (Rg ++ M) N F σ G ρ os σ2 G1 ρ2 os2 where
  chg := ⟨r.chg.len, r.chg.frm, fun i a ha => (g.sub i a ha).elim (fun ⟨j, hj⟩ => r.chg.sub j a hj) fun y => r.sub a y, fun i hi => by
    obtain ⟨a1, a2, a3⟩ := r.chg.mt i fun z => hi (memR z)
    obtain ⟨b1, b2, b3⟩ := g.reb i fun z => hi (memL z)
    exact ⟨b2.trans a1, b3.trans a2, a3⟩⟩
  inv := g.inv
  reb := fun i hi => (g.reb i hi).1
theorem so_asg {m : ME} {p : PE} {g : MG} {pg : PG} (h : EOk M m p) (hg : GOk Rg g pg) : SOk Rg (Rg ++ M) (sAsg m g) (zAsg p pg) := fun N F σ G ρ os r iv q => by
  obtain ⟨⟨e1, ρ1⟩, q1, q⟩ := bnd' q
  obtain ⟨t, q2, q⟩ := bnd' q
  obtain ⟨ρ2, q3, q⟩ := bnd' q
  cases q
  obtain ⟨x, G1, os1, as1, e1', r1, k1⟩ := h N F σ G ρ os e1 _ iv q1
  have := kp_inv q2
  subst this
  obtain ⟨σ2, os2, e2, g1⟩ := hg N F σ G1 ρ1 os1 t x as1 ρ2 r1.inv k1 q3
  refine ⟨.nx σ2 G1, ?_, σ2, G1, os2, rfl, g1.sres r1 iv⟩
  show (m σ G).bind _ = _
  rw [e1']
  show (g x σ G1).bind _ = _
  rw [e2]
  rfl
end
end Pl

/-! Pl, part 5: stores, loops. -/
namespace Pl
open PySem L2 Zl
section
variable {N N1 N2 F A A' : Nat → Prop} {σ σ' σ1 σ2 : St} {G G' G1 G2 : Hz} {ρ ρ' ρ1 ρ2 : PSt} {os os' os1 os2 : Nat → List Nat} {M M1 M2 Rb R1 R2 Rg : List Nat} {as as1 as2 bs cs : List Nat} {e e1 : E} {es : List E} {v v1 w : V} {vs : List V} {t u : Tr} {ts : List Tr}
def PutOp (f : V → V → V → Hz → Option Hz) (g : PP) : Prop := (∀ t i v r, g t i v = some r → ∃ k xs, t = .nd .own k xs) ∧ ∀ (k : Kd) (A F : Nat → Prop) (G : Hz) (a : Nat) (vs : List V) (xs : List Tr) (bs js : List Nat) (ti tv t' : Tr) (i v : V), G[a]? = some (k.mk vs) → k.len vs.length → Rls A F G xs vs bs → Rl A F G ti i js → Rl A F G tv v [] → g (.nd .own k xs) ti tv = some t' →
  ∃ vs' k' xs' bs' es, t' = .nd .own k' xs' ∧ f (.ref a) i v G = some (G.set a (k'.mk vs')) ∧ k'.len vs'.length ∧ Rls A F G xs' vs' bs' ∧ (bs' ++ es).Perm bs
theorem evar_ev {i : Nat} (e1 : σ[i]? = some (some v)) : eVar i σ G = some (v, G) := by
  show (match σ[i]? with | some (some v) => some (v, G) | _ => none) = _
  rw [e1]
theorem so_put {f : V → V → V → Hz → Option Hz} {g : PP} {me mi : ME} {pe pi : PE} {x : Nat} (o : PutOp f g) (he : EOk M1 me pe) (hi : EOk M2 mi pi) : SOk [] (x :: (M1 ++ M2)) (sAsg me (gPut f (eVar x) mi)) (zPut g pe x pi) := fun N F σ G ρ os r iv q => by
  obtain ⟨⟨e1, ρ1⟩, q1, q⟩ := bnd' q
  obtain ⟨tv, q2, q⟩ := bnd' q
  obtain ⟨⟨e2, ρ2⟩, q3, q⟩ := bnd' q
  obtain ⟨t, q4, q⟩ := bnd' q
  obtain ⟨ti, q5, q⟩ := bnd' q
  obtain ⟨t', q6, q⟩ := bnd' q
  cases q
  obtain ⟨y, rfl, rfl⟩ := tk_inv q2
  obtain ⟨v, G1, os1, as1, m1, r1, k1⟩ := he N F σ G ρ os _ _ iv q1
  have kd : Tm N F G1 os1 y.dem v [] := ⟨by rw [nu_nil]; exact tm_dem r1.inv k1 fun a ha => ha, .nil, fun a ha => (nomatch ha)⟩
  have r1' := r1.drop0
  obtain ⟨i, G2, os2, as2, m2, r2, k2⟩ := hi (Nu N []) F σ G1 ρ1 os1 _ _ r1'.inv q3
  have rr := Res.seq iv r1' r2
  rw [List.nil_append] at rr
  obtain ⟨js, di⟩ := dr_ok rr.inv k2 (fun a ha => by rw [nu_nil]; exact ha) q5
  have dv : Rl (Ow os2 (Nu N as2)) F G2 y.dem v [] := by
    have := Tm.keep kd r2.chg r1'.inv r2.sub
    rw [nu_nil] at this
    exact this
  obtain ⟨k, xs, rfl⟩ := o.1 _ _ _ _ q6
  obtain ⟨a, us, bs, e1', eo, eg, l, rx⟩ := own_inv rr.inv q4
  obtain ⟨vs', k', xs', bs', es, rfl, ef, l', rx', pm⟩ := o.2 k _ F G2 a us xs bs js ti y.dem t' i v eg l rx di dv q6
  obtain ⟨r3, _⟩ := upd_fin (r := NN) (w := .non) (cs := []) (es := es) iv rr q4 e1' eo (ds := []) (fun b hb => nomatch hb) .nil (fun b hb => nomatch hb) l' rx' ⟨rfl, rfl, rfl⟩ (by rw [List.append_nil, List.append_nil]; exact pm)
  refine ⟨.nx σ (G2.set a (k'.mk vs')), ?_, σ, _, _, rfl, r3.sres⟩
  show (me σ G).bind _ = _
  rw [m1]
  have e0 : gPut f (eVar x) mi v σ G1 = some (σ, G2.set a (k'.mk vs')) := by
    show (eVar x σ G1).bind _ = _
    rw [evar_ev e1']
    show (mi σ G1).bind _ = _
    rw [m2]
    show (f (.ref a) i v G2).bind _ = _
    rw [ef]
    rfl
  show (gPut f (eVar x) mi v σ G1).bind _ = _
  rw [e0]
  rfl
/-! ### iterables -/
/-- the lists that an iterable walks -/
abbrev Src := List (Nat × Kd × List V × List Tr)
def SrcOk (A F : Nat → Prop) (G : Hz) (ss : Src) : Prop := ∀ s ∈ ss, G[s.1]? = some (s.2.1.mk s.2.2.1) ∧ Rls A F G s.2.2.2 s.2.2.1 []
/-- they stay: nobody's, or those of the slots W -/
def Stay (W : List Nat) (os : Nat → List Nat) (ss : Src) : Prop := ∀ s ∈ ss, (∀ i, s.1 ∉ os i) ∨ ∃ i ∈ W, s.1 ∈ os i
def ItP (it : MIt) (ss : Src) (xs : List Tr) : Prop := ∀ (A F : Nat → Prop) (G : Hz), SrcOk A F G ss → (∀ (i : Nat) (x : Tr), xs[i]? = some x → ∃ v G', it i G = some (some (v, G')) ∧ NewV A F G v G' x) ∧ it xs.length G = some none
def IOk (M W : List Nat) (w : MI) (p : PI) : Prop := ∀ (N F : Nat → Prop) (σ : St) (G : Hz) (ρ : PSt) (os : Nat → List Nat) (xs : List Tr) (ρ' : PSt), Inv N F σ G ρ os → p ρ = some (xs, ρ') →
  ∃ it G' os' ss, w σ G = some (it, G') ∧ Res M N F σ G ρ os G' ρ' os' [] ∧ ItP it ss xs ∧ SrcOk (Ow os' N) F G' ss ∧ Stay W os' ss ∧ ∀ s ∈ ss, ¬ N s.1
theorem SrcOk.keep {ss : Src} {W : List Nat} (h : SrcOk (Ow os N) F G ss) (s : Stay W os ss) (c : Chg M G ρ os G1 ρ1 os1) (hW : ∀ i ∈ W, i ∉ M) : SrcOk (Ow os1 N) F G1 ss ∧ Stay W os1 ss := by
  have key : ∀ x ∈ ss, x.1 < G.length ∧ G1[x.1]? = G[x.1]? := fun x hx => by
    have hl : x.1 < G.length := lt_get (h x hx).1
    refine ⟨hl, ?_⟩
    rcases s x hx with q | ⟨i, hi, q⟩
    · exact c.frm _ hl q
    · exact (c.mt i (hW i hi)).2.2 _ q
  refine ⟨fun x hx => ?_, fun x hx => ?_⟩
  · obtain ⟨h1, h2⟩ := h x hx
    refine ⟨by rw [(key x hx).2]; exact h1, Rls.mono (fun a la ha => c.frm a la fun i hi => ha (.inl ⟨i, hi⟩)) (fun a ha => ?_) (fun a ha => .inl ha) _ _ _ (fun a ha => nomatch ha) h2⟩
    rcases ha with ⟨i, hi⟩ | ha
    · exact (c.sub i a hi).elim (fun y => .inl (.inl y)) .inr
    · exact .inl (.inr ha)
  · rcases s x hx with q | ⟨i, hi, q⟩
    · refine .inl fun j hj => ?_
      rcases c.sub j _ hj with ⟨l, hl⟩ | y
      · exact q l hl
      · exact absurd (key x hx).1 (Nat.not_lt.mpr y)
    · exact .inr ⟨i, hi, by rw [(c.mt i (hW i hi)).2.1]; exact q⟩
/-! ### loops -/
theorem lp_ok {it : MIt} {g : MG} {b : MS} {pg : PG} {pb : PS} {ss : Src} {xs : List Tr} {W : List Nat} (hg : GOk Rg g pg) (hb : SOk Rb M b pb) (hit : ItP it ss xs) (hW : ∀ i ∈ W, i ∉ Rg ++ M) : ∀ (suf : List Tr) (i n : Nat) (σ : St) (G : Hz) (ρ : PSt) (os : Nat → List Nat) (r : PR), xs.drop i = suf → i + suf.length = xs.length → suf.length < n → Inv N F σ G ρ os → SrcOk (Ow os N) F G ss → Stay W os ss → lpF pg pb suf ρ = some r →
    ∃ r', loopF it g b n i σ G = some r' ∧ SPost (Rg ++ Rb) (Rg ++ M) N F σ G ρ os r r'
  | [], i, n + 1, σ, G, ρ, os, r, hd, hl, hn, iv, so, st, q => by
    cases q
    have e : it i G = some none := by
      have : i = xs.length := by simpa using hl
      rw [this]
      exact (hit _ F G so).2
    refine ⟨.nx σ G, ?_, σ, G, os, rfl, .refl iv⟩
    unfold loopF
    rw [e]
  | x :: suf, i, n + 1, σ, G, ρ, os, r, hd, hl, hn, iv, so, st, q => by
    obtain ⟨ρ1, q1, q⟩ := bnd' q
    obtain ⟨r1, q2, q⟩ := bnd' q
    have hx : xs[i]? = some x := by
      have := congrArg (·[0]?) hd
      simpa using this
    obtain ⟨v, G1, e1, nv⟩ := (hit _ F G so).1 i x hx
    rw [← nu_nil (N := N)] at nv
    obtain ⟨as, rs, tm⟩ := nv.fin iv (Res.refl (M := []) iv)
    obtain ⟨σ1, os1, e2, g1⟩ := hg N F σ G1 ρ os x v as ρ1 rs.inv tm q1
    have s1 := g1.sres rs iv
    obtain ⟨r1', e3, p1⟩ := hb N F σ1 G1 ρ1 os1 r1 s1.inv q2
    have p2 := SPost.pre iv s1 p1
    have wk1 : ∀ j, j ∈ Rg ++ Rb → j ∈ Rg ++ Rb := fun _ h => h
    have wk2 : ∀ j, j ∈ (Rg ++ []) ++ M → j ∈ Rg ++ M := fun j h => by simpa using h
    have p2 : SPost (Rg ++ Rb) (Rg ++ M) N F σ G ρ os r1 r1' := p2.weak wk1 wk2
    have st1 : ∀ R0, (match r1' with | .nx σ2 G2 => loopF it g b n (i + 1) σ2 G2 | .ct σ2 G2 => loopF it g b n (i + 1) σ2 G2 | .bk σ2 G2 => some (.nx σ2 G2) | .rt v G2 => some (.rt v G2)) = some R0 → loopF it g b (n + 1) i σ G = some R0 := fun R0 h => by
      conv => lhs; unfold loopF
      rw [e1]
      show (g v σ G1).bind _ = _
      rw [e2]
      show (b σ1 G1).bind _ = _
      rw [e3]
      exact h
    have hd2 : xs.drop (i + 1) = suf := by
      rw [← List.drop_drop, hd]
      rfl
    have hl2 : i + 1 + suf.length = xs.length := by
      rw [List.length_cons] at hl
      omega
    have dup1 : ∀ j, j ∈ (Rg ++ Rb) ++ (Rg ++ Rb) → j ∈ Rg ++ Rb := fun j h => (List.mem_append.mp h).elim id id
    have dup2 : ∀ j, j ∈ (Rg ++ M) ++ (Rg ++ M) → j ∈ Rg ++ M := fun j h => (List.mem_append.mp h).elim id id
    cases r1 with
    | nx ρ2 =>
      obtain ⟨σ2, G2, os2, rfl, s2⟩ := p2
      obtain ⟨so2, st2⟩ := so.keep st s2.chg hW
      obtain ⟨r', e4, p4⟩ := lp_ok hg hb hit hW suf (i + 1) n σ2 G2 ρ2 os2 r hd2 hl2 (by simpa using hn) s2.inv so2 st2 q
      exact ⟨r', st1 _ e4, (SPost.pre iv s2 p4).weak dup1 dup2⟩
    | ct ρ2 =>
      obtain ⟨σ2, G2, os2, rfl, s2⟩ := p2
      obtain ⟨so2, st2⟩ := so.keep st s2.chg hW
      obtain ⟨r', e4, p4⟩ := lp_ok hg hb hit hW suf (i + 1) n σ2 G2 ρ2 os2 r hd2 hl2 (by simpa using hn) s2.inv so2 st2 q
      exact ⟨r', st1 _ e4, (SPost.pre iv s2 p4).weak dup1 dup2⟩
    | bk ρ2 =>
      cases q
      obtain ⟨σ2, G2, os2, rfl, s2⟩ := p2
      exact ⟨_, st1 _ rfl, σ2, G2, os2, rfl, s2⟩
    | rt t ρ2 =>
      cases q
      have p2' := p2
      obtain ⟨v2, σ2, G2, os2, as2, rfl, s2⟩ := p2
      exact ⟨_, st1 _ rfl, v2, σ2, G2, os2, as2, rfl, s2⟩
theorem so_for {n : Nat} {w : MI} {pw : PI} {g : MG} {b : MS} {pg : PG} {pb : PS} {W : List Nat} (hw : IOk M1 W w pw) (hg : GOk Rg g pg) (hb : SOk Rb M b pb) (hW : ∀ i ∈ W, i ∉ Rg ++ M) : SOk (Rg ++ Rb) (M1 ++ (Rg ++ M)) (sFor n w g b) (zFor n pw pg pb) := fun N F σ G ρ os r iv q => by
  obtain ⟨⟨xs, ρ1⟩, q1, q⟩ := bnd' q
  unfold zFor1 at q
  split at q
  · rename_i hn
    obtain ⟨it, G1, os1, ss, e1, r1, hi, so, st, _⟩ := hw N F σ G ρ os xs ρ1 iv q1
    obtain ⟨r', e2, p2⟩ := lp_ok (N := N) hg hb hi hW xs 0 n σ G1 ρ1 os1 r rfl (Nat.zero_add _) hn r1.inv0 so st q
    have p3 := SPost.pre iv r1.sres p2
    refine ⟨r', ?_, p3.weak (fun _ h => h) fun _ h => h⟩
    show (w σ G).bind _ = _
    rw [e1]
    exact e2
  · cases q
end
end Pl

/-! Pl, part 6: iterables, comprehensions. -/
namespace Pl
open PySem L2 Zl
section
variable {N N1 N2 F A A' : Nat → Prop} {σ σ' σ1 σ2 : St} {G G' G1 G2 : Hz} {ρ ρ' ρ1 ρ2 : PSt} {os os' os1 os2 : Nat → List Nat} {M M1 M2 Rb R1 R2 Rg W W1 W2 : List Nat} {as as1 as2 bs cs : List Nat} {e e1 : E} {es : List E} {v v1 w : V} {vs : List V} {t u : Tr} {ts : List Tr}
/-- .. an expression that may name the things of the slots W -/
structure EV (M W : List Nat) (m : ME) (p : PE) : Prop where
  ok : EOk M m p
  al : ∀ ρ ρ' i, p ρ = some (.al i, ρ') → i ∈ W
theorem ev_var {i : Nat} : EV [] [i] (eVar i) (pVar i) := ⟨eo_var, fun ρ ρ' j q => by
  obtain ⟨t, q1, q2⟩ := bnd' q
  unfold varK at q2
  split at q2
  · cases q2; exact List.mem_singleton_self _
  · cases q2⟩
theorem shs_inv {xs ys : List Tr} (h : shs xs = some ys) : ys = xs ∧ xs.all Tr.sh = true := by
  unfold shs at h
  split at h
  · cases h; exact ⟨rfl, ‹_›⟩
  · cases h
theorem lsT_inv {t : Tr} {xs : List Tr} (h : lsT t = some xs) : ∃ f, t = .nd f .lst xs ∧ xs.all Tr.sh = true := by
  unfold lsT at h
  split at h
  · obtain ⟨rfl, s⟩ := shs_inv h; exact ⟨_, rfl, s⟩
  · cases h
/-- a list that an expression answers, as a source -/
theorem src_of {m : ME} {p : PE} {f : Fl} {k : Kd} {xs : List Tr} (h : EV M W m p) (iv : Inv N F σ G ρ os) (q1 : p ρ = some (e, ρ1)) (q2 : dr ρ1 e = some (.nd f k xs)) (s : xs.all Tr.sh = true) : ∃ (a : Nat) (G1 : Hz) (os1 : Nat → List Nat) (as : List Nat) (vs : List V), m σ G = some (.ref a, G1) ∧ Res M N F σ G ρ os G1 ρ1 os1 as ∧ TmE N F σ G1 os1 (.ref a) as e ∧ G1[a]? = some (k.mk vs) ∧ Rls (Ow os1 (Nu N as)) F G1 xs vs [] ∧ ((∀ i, a ∉ os1 i) ∨ ∃ i ∈ W, a ∈ os1 i) ∧ ¬ N a := by
  obtain ⟨v, G1, os1, as, m1, r1, k1⟩ := h.ok N F σ G ρ os e ρ1 iv q1
  cases e with
  | t x =>
    cases q2
    obtain ⟨a, vs, bs, rfl, e1, l, r, fl⟩ := Tm.rl k1
    have := r.sh s
    subst this
    refine ⟨a, G1, os1, as, vs, m1, r1, k1, e1, r, .inl fun i hi => ?_, fun hn => ?_⟩
    · cases f with
      | own =>
        rw [show as = a :: [] from fl] at r1
        exact (r1.inv.fr i a hi).1 (.inr (List.mem_cons_self ..))
      | bor => exact fl.1 (.inl ⟨i, hi⟩)
      | frz => exact fl.1 (.inl ⟨i, hi⟩)
    · cases f with
      | own => exact (Tm.fr k1 a (by rw [show as = a :: [] from fl]; exact List.mem_cons_self ..)).1 hn
      | bor => exact fl.1 (.inr (.inl hn))
      | frz => exact fl.1 (.inr (.inl hn))
  | al i =>
    obtain ⟨rfl, ks⟩ := k1
    have hi := h.al _ _ _ q1
    obtain ⟨v', e2, a, vs, bs, rfl, e1, l, r, fl⟩ := r1.inv.sl i _ q2
    rw [ks] at e2
    cases e2
    have := r.sh s
    subst this
    refine ⟨a, G1, os1, [], vs, m1, r1, ⟨rfl, ks⟩, e1, r, ?_, fun hn => ?_⟩
    · cases f with
      | own => exact .inr ⟨i, hi, by rw [show os1 i = a :: [] from fl]; exact List.mem_cons_self ..⟩
      | bor => exact .inl fun j hj => fl.1 (.inl ⟨j, hj⟩)
      | frz => exact .inl fun j hj => fl.1 (.inl ⟨j, hj⟩)
    · cases f with
      | own => exact (r1.inv.fr i a (by rw [show os1 i = a :: [] from fl]; exact List.mem_cons_self ..)).1 (.inl hn)
      | bor => exact fl.1 (.inr (.inl hn))
      | frz => exact fl.1 (.inr (.inl hn))
theorem rls_less (r : Rls (Ow os (Nu N as)) F G ts vs []) : Rls (Ow os N) F G ts vs [] := Rls.mono (fun _ _ _ => rfl) (fun a ha => .inl (ha.elim .inl fun y => .inr (.inl y))) (fun a ha => .inl ha) _ _ _ (fun a ha => nomatch ha) r
theorem nv_old {x : Tr} (h : Rl A F G x v []) : NewV A F G v G x := .inl ⟨rfl, h⟩
theorem src1 {a : Nat} {k : Kd} {us : List V} {xs : List Tr} {ss : Src} (so : SrcOk A F G ((a, k, us, xs) :: ss)) : G[a]? = some (k.mk us) ∧ Rls A F G xs us [] := so (a, k, us, xs) (List.mem_cons_self ..)
theorem small62T_inv {t : Tr} {j : Int} (h : small62T t = some j) : t = .av (.int j) ∧ small62 j = true := by
  unfold small62T at h
  split at h
  · split at h
    · cases h; exact ⟨rfl, ‹_›⟩
    · cases h
  · cases h
theorem itp_range {lo hi : Int} : ItP (itR lo (hi - lo).toNat) [] (rgT lo hi) := fun A F G so => by
  have hl : (rgT lo hi).length = (hi - lo).toNat := by unfold rgT; rw [List.length_map, List.length_range]
  refine ⟨fun i x hx => ?_, ?_⟩
  · have hi' : i < (hi - lo).toNat := by
      have := (List.getElem?_eq_some_iff.mp hx).1
      rwa [hl] at this
    have ex : x = I (lo + (i : Int)) := by
      unfold rgT at hx
      rw [List.getElem?_map, List.getElem?_range hi'] at hx
      cases hx
      rfl
    subst ex
    refine ⟨.int (lo + (i : Int)), G, ?_, nv_old ⟨rfl, rfl, rfl⟩⟩
    unfold itR
    rw [if_pos hi']
  · unfold itR
    rw [hl, if_neg (Nat.lt_irrefl _)]
theorem io_r1 {m : ME} {p : PE} (h : EOk M m p) : IOk M [] (iRange1 (aCons m aNil)) (wR1 p) := fun N F σ G ρ os xs ρ' iv q => by
  obtain ⟨⟨e1, ρ1⟩, q1, q⟩ := bnd' q
  obtain ⟨j, q2, q⟩ := bnd' q
  cases q
  obtain ⟨t, q3, q4⟩ := bnd' q2
  obtain ⟨rfl, hj⟩ := small62T_inv q4
  obtain ⟨v, G1, os1, as, m1, r1, k1⟩ := h N F σ G ρ os e1 ρ1 iv q1
  obtain ⟨bs, rfl, _⟩ := dr_ok r1.inv k1 (fun a ha => ha) q3
  refine ⟨itR 0 (j - 0).toNat, G1, os1, [], ?_, r1.drop0, itp_range, fun z hz => (nomatch hz), fun z hz => (nomatch hz), fun z hz => (nomatch hz)⟩
  show ((m σ G).bind _).bind _ = _
  rw [m1]
  show (if small62 j = true then some (itR 0 j.toNat, G1) else none) = _
  rw [if_pos hj, Int.sub_zero]
theorem enT_get {k : Int} {xs : List Tr} {i : Nat} {x : Tr} (h : (enT k xs)[i]? = some x) : ∃ y, xs[i]? = some y ∧ x = U .own [I (k + (i : Int)), y] := by
  unfold enT at h
  rw [List.getElem?_map, List.getElem?_zipIdx] at h
  cases e : xs[i]? with
  | none => rw [e] at h; cases h
  | some y =>
    rw [e] at h
    cases h
    exact ⟨y, rfl, by simp⟩
theorem enT_length {k : Int} {xs : List Tr} : (enT k xs).length = xs.length := by unfold enT; rw [List.length_map, List.length_zipIdx]
theorem nv_pair {x y : Tr} {a b : V} (ha : Rl A F G x a []) (hb : Rl A F G y b []) : NewV A F G (.ref G.length) (G ++ [.tup [a, b]]) (U .own [x, y]) := .inr ⟨.tup, [a, b], [x, y], rfl, rfl, rfl, trivial, a, [b], [], [], rfl, rfl, ha, b, [], [], [], rfl, rfl, hb, rfl, rfl⟩
theorem itp_en {a : Nat} {us : List V} {xs : List Tr} {k : Int} {it : MIt} (hit : ∀ (i : Nat) (G : Hz), G[a]? = some (.lst us) → it i G = some (us[i]?.map fun x => (.ref G.length, G ++ [.tup [.int (k + (i : Int)), x]]))) : ItP it [(a, .lst, us, xs)] (enT k xs) := fun A F G so => by
  obtain ⟨c, rr⟩ := src1 so
  refine ⟨fun i x hx => ?_, ?_⟩
  · obtain ⟨y, hy, rfl⟩ := enT_get hx
    obtain ⟨v, bs, hv, h1, h2⟩ := rr.get hy
    cases bs with
    | nil =>
      refine ⟨.ref G.length, G ++ [.tup [.int (k + (i : Int)), v]], ?_, nv_pair (x := I (k + (i : Int))) (a := .int (k + (i : Int))) (show Rl A F G (.av (.int (k + (i : Int)))) (.int (k + (i : Int))) [] from ⟨rfl, rfl, rfl⟩) h1⟩
      rw [hit i G c, hv]
      rfl
    | cons b bs => exact nomatch h2 b (List.mem_cons_self ..)
  · rw [hit _ G c, enT_length, List.getElem?_eq_none (by rw [rr.length]; exact Nat.le_refl _)]
    rfl
theorem io_en {m : ME} {p : PE} (h : EV M W m p) : IOk M W (iEnumZ (aCons m aNil)) (wEn 0 p) := fun N F σ G ρ os xs ρ' iv q => by
  obtain ⟨⟨e1, ρ1⟩, q1, q⟩ := bnd' q
  obtain ⟨ys, q2, q⟩ := bnd' q
  cases q
  obtain ⟨t, q3, q4⟩ := bnd' q2
  obtain ⟨f, rfl, s⟩ := lsT_inv q4
  obtain ⟨a, G1, os1, as, us, m1, r1, k1, e2, r, st, hn⟩ := src_of h iv q1 q3 s
  have ew : iEnumZ (aCons m aNil) σ G = some (itE a, G1) := by
    show ((m σ G).bind _).bind _ = _
    rw [m1]
    show (match G1[a]? with | some (.lst _) => some (itE a, G1) | _ => none) = _
    rw [e2]
    rfl
  refine ⟨itE a, G1, os1, [(a, .lst, us, ys)], ew, r1.drop0, itp_en fun i G c => ?_, fun z hz => ?_, fun z hz => ?_, fun z hz => ?_⟩
  · unfold itE
    rw [c]
    simp only [Int.zero_add]
  · rw [List.mem_singleton.mp hz]
    exact ⟨e2, rls_less r⟩
  · rw [List.mem_singleton.mp hz]
    exact st
  · rw [List.mem_singleton.mp hz]
    exact hn
end
end Pl

/-! Pl, part 7: comprehensions. -/
namespace Pl
open PySem L2 Zl
section
variable {N N1 N2 F A A' : Nat → Prop} {σ σ' σ1 σ2 σw : St} {G G' G1 G2 G3 : Hz} {ρ ρ' ρ1 ρ2 ρ3 : PSt} {os os' os1 os2 os3 : Nat → List Nat} {M M1 M2 Mt Me Mw Rb R1 R2 Rg W W1 W2 vv vs1 : List Nat} {as as1 as2 bs cs aA : List Nat} {e e1 : E} {es : List E} {v v1 w : V} {vs : List V} {t u : Tr} {ts acc acc' : List Tr} {D : Nat} {kd : Kd} {γ : Type}
theorem Inv.swap (h : Inv N F σ G ρ os) (hl : σ'.length = σ.length) (hs : ∀ (i : Nat) (t : Tr), getT ρ[i]? = some t → σ'[i]? = σ[i]?) : Inv N F σ' G ρ os where
  sl := fun i t e => by
    obtain ⟨v, e1, r⟩ := h.sl i t e
    exact ⟨v, by rw [hs i t e]; exact e1, r⟩
  em := h.em
  nd := h.nd
  dj := h.dj
  fr := h.fr
  ln := hl.trans h.ln
  bn := h.bn
  bf := h.bf
/-- a list that grows at D beside the state -/
structure CI (N F : Nat → Prop) (σ : St) (G : Hz) (ρ : PSt) (os : Nat → List Nat) (D : Nat) (k : Kd) (acc : List Tr) (aA : List Nat) : Prop where
  inv : Inv (Nu N (D :: aA)) F σ G ρ os
  at_ : ∃ vs, G[D]? = some (k.mk vs) ∧ k.len vs.length ∧ Rls (Ow os (Nu N (D :: aA))) F G acc vs aA
  nd : (D :: aA).Nodup
  fr : ∀ a ∈ D :: aA, ¬ N a ∧ ¬ F a
structure CC (M : List Nat) (D : Nat) (G : Hz) (ρ : PSt) (os : Nat → List Nat) (aA : List Nat) (G' : Hz) (ρ' : PSt) (os' : Nat → List Nat) (aA' : List Nat) : Prop where
  len : G.length ≤ G'.length
  frm : ∀ a, a < G.length → a ≠ D → (∀ i, a ∉ os i) → G'[a]? = G[a]?
  sub : ∀ i a, a ∈ os' i → (∃ j, a ∈ os j) ∨ G.length ≤ a
  subA : ∀ a ∈ aA', a ∈ aA ∨ (∃ j, a ∈ os j) ∨ G.length ≤ a
  mt : ∀ i, i ∉ M → getT ρ'[i]? = getT ρ[i]? ∧ os' i = os i ∧ ∀ a ∈ os i, G'[a]? = G[a]?
theorem CC.refl : CC M D G ρ os aA G ρ os aA := ⟨Nat.le_refl _, fun _ _ _ _ => rfl, fun i a h => .inl ⟨i, h⟩, fun a h => .inl h, fun _ _ => ⟨rfl, rfl, fun _ _ => rfl⟩⟩
theorem CC.trans {aA1 aA2 : List Nat} (h : CC M1 D G ρ os aA G1 ρ1 os1 aA1) (k : CC M2 D G1 ρ1 os1 aA1 G2 ρ2 os2 aA2) (l : ∀ i a, a ∈ os i → a < G.length) : CC (M1 ++ M2) D G ρ os aA G2 ρ2 os2 aA2 where
  len := Nat.le_trans h.len k.len
  frm := fun a la hd ha => by
    rw [k.frm a (Nat.lt_of_lt_of_le la h.len) hd fun i hi => (h.sub i a hi).elim (fun ⟨j, hj⟩ => ha j hj) fun y => absurd la (Nat.not_lt.mpr y), h.frm a la hd ha]
  sub := fun i a hi => (k.sub i a hi).elim (fun ⟨j, hj⟩ => h.sub j a hj) fun y => .inr (Nat.le_trans h.len y)
  subA := fun a ha => (k.subA a ha).elim (h.subA a) fun y => .inr (y.elim (fun ⟨j, hj⟩ => h.sub j a hj) fun y => .inr (Nat.le_trans h.len y))
  mt := fun i hi => by
    obtain ⟨a1, a2, a3⟩ := h.mt i fun z => hi (List.mem_append_left _ z)
    obtain ⟨b1, b2, b3⟩ := k.mt i fun z => hi (List.mem_append_right _ z)
    exact ⟨b1.trans a1, b2.trans a2, fun a ha => (b3 a (by rw [a2]; exact ha)).trans (a3 a ha)⟩
theorem CC.weak {aA1 : List Nat} (h : CC M1 D G ρ os aA G1 ρ1 os1 aA1) (s : ∀ i, i ∈ M1 → i ∈ M2) : CC M2 D G ρ os aA G1 ρ1 os1 aA1 := ⟨h.len, h.frm, h.sub, h.subA, fun i hi => h.mt i fun z => hi (s i z)⟩
theorem Chg.cc (h : Chg M G ρ os G1 ρ1 os1) : CC M D G ρ os aA G1 ρ1 os1 aA := ⟨h.len, fun a la _ ha => h.frm a la ha, h.sub, fun a ha => .inl ha, h.mt⟩
/-- the growing list while other things happen -/
theorem CI.step (c : CI N F σ G ρ os D kd acc aA) (s : SRes Rb M (Nu N (D :: aA)) F σ G ρ os σ1 G1 ρ1 os1) : CI N F σ1 G1 ρ1 os1 D kd acc aA := by
  refine ⟨s.inv, ?_, c.nd, c.fr⟩
  obtain ⟨vs, e, l, r⟩ := c.at_
  have own : ∀ a ∈ D :: aA, G1[a]? = G[a]? := fun a ha => s.chg.frm a (c.inv.bn a (.inr ha)) fun i hi => (c.inv.fr i a hi).1 (.inr ha)
  refine ⟨vs, by rw [own D (List.mem_cons_self ..)]; exact e, l, Rls.mono (fun a la ha => s.chg.frm a la fun i hi => ha (.inl ⟨i, hi⟩)) (fun a ha => ?_) (fun a ha => .inl ha) _ _ _ (fun a ha => own a (List.mem_cons_of_mem _ ha)) r⟩
  rcases ha with ⟨i, hi⟩ | ha
  · exact (s.chg.sub i a hi).elim (fun y => .inl (.inl y)) .inr
  · exact .inl (.inr ha)
/-- .. beside an item's own places -/
theorem CI.stepE (c : CI N F σ G ρ os D kd acc aA) (s : Res M (Nu N (D :: aA)) F σ G ρ os G1 ρ1 os1 bs) : ∃ vs, G1[D]? = some (kd.mk vs) ∧ kd.len vs.length ∧ Rls (Ow os1 (Nu (Nu N (D :: aA)) bs)) F G1 acc vs aA := by
  obtain ⟨vs, e, l, r⟩ := c.at_
  have own : ∀ a ∈ D :: aA, G1[a]? = G[a]? := fun a ha => s.chg.frm a (c.inv.bn a (.inr ha)) fun i hi => (c.inv.fr i a hi).1 (.inr ha)
  refine ⟨vs, by rw [own D (List.mem_cons_self ..)]; exact e, l, Rls.mono (fun a la ha => s.chg.frm a la fun i hi => ha (.inl ⟨i, hi⟩)) (fun a ha => ?_) (fun a ha => .inl ha) _ _ _ (fun a ha => own a (List.mem_cons_of_mem _ ha)) r⟩
  rcases ha with ⟨i, hi⟩ | ha | ha
  · exact (s.chg.sub i a hi).elim (fun y => .inl (.inl y)) .inr
  · exact .inl (.inr ha)
  · exact (s.sub a ha).elim (fun y => .inl (.inl y)) .inr
/-- the growing thing changes: from its items and an item's own places -/
theorem CI.upd {kd' : Kd} {vs' : List V} {acc' : List Tr} {aA' es : List Nat} (c : CI N F σ G ρ os D kd acc aA) (iv : Inv (Nu (Nu N (D :: aA)) bs) F σ G ρ os) (hb : bs.Nodup) (fb : ∀ a ∈ bs, ¬ Nu N (D :: aA) a ∧ ¬ F a) (l : kd'.len vs'.length) (r : Rls (Ow os (Nu (Nu N (D :: aA)) bs)) F G acc' vs' aA') (pm : (aA' ++ es).Perm (aA ++ bs)) : CI N F σ (G.set D (kd'.mk vs')) ρ os D kd' acc' aA' := by
  have hD := c.inv.bn D (.inr (List.mem_cons_self ..))
  obtain ⟨n1, n2⟩ := List.nodup_cons.mp c.nd
  have mem : ∀ a, a ∈ aA' → a ∈ aA ∨ a ∈ bs := fun a ha => List.mem_append.mp (pm.mem_iff.mp (memL ha))
  have ndu : (aA' ++ es).Nodup := pm.nodup_iff.mpr (List.nodup_append.mpr ⟨n2, hb, fun a ha b hb' z => (fb b hb').1 (.inr (List.mem_cons_of_mem _ (z ▸ ha)))⟩)
  have hne : ∀ a, a ≠ D → (G.set D (kd'.mk vs'))[a]? = G[a]? := fun a ha => List.getElem?_set_ne (Ne.symm ha)
  have Dn : D ∉ aA' := fun z => (mem D z).elim n1 fun y => (fb D y).1 (.inr (List.mem_cons_self ..))
  have sub : ∀ a, Nu N (D :: aA') a → Nu (Nu N (D :: aA)) bs a := fun a ha => by
    rcases ha with ha | ha
    · exact .inl (.inl ha)
    · rcases List.mem_cons.mp ha with rfl | ha
      · exact .inl (.inr (List.mem_cons_self ..))
      · exact (mem a ha).elim (fun y => .inl (.inr (List.mem_cons_of_mem _ y))) .inr
  refine ⟨?_, ⟨vs', by rw [List.getElem?_set_self hD], l, Rls.mono (fun a _ ha => hne a fun z => ha (.inr (.inl (.inr (by rw [z]; exact List.mem_cons_self ..))))) (fun a ha => .inl (ha.imp id (sub a))) (fun a ha => .inl ha) _ _ _ (fun a ha => hne a fun z => Dn (z ▸ ha)) r⟩, List.nodup_cons.mpr ⟨Dn, (List.nodup_append.mp ndu).1⟩, fun a ha => ?_⟩
  · exact (iv.heap List.length_set fun a ha => hne a fun z => ha (.inl (.inr (by rw [z]; exact List.mem_cons_self ..)))).weak sub
  · rcases List.mem_cons.mp ha with rfl | ha
    · exact c.fr a (List.mem_cons_self ..)
    · exact (mem a ha).elim (fun y => c.fr a (List.mem_cons_of_mem _ y)) fun y => ⟨fun z => (fb a y).1 (.inl z), (fb a y).2⟩
/-- one more item of a list -/
theorem CI.push (c : CI N F σ G ρ os D .lst acc aA) (iv : Inv (Nu (Nu N (D :: aA)) bs) F σ G ρ os) (hr : ∃ vs, G[D]? = some (.lst vs) ∧ True ∧ Rls (Ow os (Nu (Nu N (D :: aA)) bs)) F G acc vs aA) (k : Tm (Nu N (D :: aA)) F G os t v bs) : ∃ vs, G[D]? = some (.lst vs) ∧ vs.length = acc.length ∧ CI N F σ (G.set D (.lst (vs ++ [v]))) ρ os D .lst (acc ++ [t]) (aA ++ bs) := by
  obtain ⟨vs, e, _, r⟩ := hr
  exact ⟨vs, e, r.length, c.upd (kd' := .lst) (vs' := vs ++ [v]) (es := []) iv k.nd k.fr trivial (r.append (Rls.one k.rl)) (by simp)⟩
/-- one turn: an item is laid or not -/
theorem turn_ok {kk : Bool} {g : MG} {pg : PG} {mt : MT} {pt : PT} {me : ME} {pe : PE} {x : Tr} {v : V} (hg : GOk Rg g pg) (ht : TOk Mt mt pt) (he : EOk Me me pe) (hvv : ∀ i ∈ Rg, i ∈ vv) (c : CI N F σ G ρ os D .lst acc aA) (nv : NewV (Ow os (Nu N (D :: aA))) F G v G1 x) (q : (pg x ρ).bind (cTu kk vv pt pe acc) = some (acc', ρ')) :
    ∃ G2 os' aA', turnC false g mt me D σ v G G1 = some G2 ∧ CI N F σ G2 ρ' os' D .lst acc' aA' ∧ CC (Rg ++ (Mt ++ (Me ++ vv))) D G ρ os aA G2 ρ' os' aA' := by
  obtain ⟨ρ1, q1, q⟩ := bnd' q
  obtain ⟨⟨b, ρ2⟩, q2, q⟩ := bnd' q
  rw [← nu_nil (N := Nu N (D :: aA))] at nv
  obtain ⟨as1, rs, tm⟩ := nv.fin c.inv (Res.refl (M := []) c.inv)
  obtain ⟨σ1, os1, e2, g1⟩ := hg (Nu N (D :: aA)) F σ G1 ρ os x v as1 ρ1 rs.inv tm q1
  have s1 := g1.sres rs c.inv
  have lσ : σ1.length = σ.length := g1.len
  have c1 := c.step s1
  obtain ⟨G2, os2, e3, r2⟩ := ht _ F σ1 G1 ρ1 os1 b ρ2 c1.inv q2
  have s2 := s1.trans c.inv r2.sres
  have c2 := c.step s2
  -- back to the slots of the head
  have fin : ∀ {G3 : Hz} {ρ3 : PSt} {os3 : Nat → List Nat} {acc3 : List Tr} {aA3 : List Nat} {M3 : List Nat}, CI N F σ1 G3 ρ3 os3 D .lst acc3 aA3 → CC M3 D G ρ os aA G3 ρ3 os3 aA3 → ∃ os', CI N F σ G3 (kills ρ3 vv) os' D .lst acc3 aA3 ∧ CC (M3 ++ vv) D G ρ os aA G3 (kills ρ3 vv) os' aA3 := by
    intro G3 ρ3 os3 acc3 aA3 M3 c3 k3
    obtain ⟨os', sk, _⟩ := Inv.kills vv c3.inv
    have c4 := c3.step sk
    refine ⟨os', ⟨c4.inv.swap lσ.symm fun i t hi => ?_, c4.at_, c4.nd, c4.fr⟩, k3.trans sk.chg.cc c.inv.lt⟩
    have hn : i ∉ vv := fun z => by
      have : ∀ (ds : List Nat) (ρ : PSt), (i ∈ ds ∨ getT ρ[i]? = none) → getT (kills ρ ds)[i]? = none := by
        intro ds
        induction ds with
        | nil => intro ρ h; exact h.elim (fun y => nomatch y) id
        | cons d ds ih =>
          intro ρ h
          refine ih _ ?_
          by_cases q : d = i
          · subst q
            right
            rw [getT_set, if_pos rfl]
            split <;> rfl
          · rcases h with h | h
            · rcases List.mem_cons.mp h with h | h
              · exact absurd h.symm q
              · exact .inl h
            · right
              rw [getT_set, if_neg q]
              exact h
      rw [this vv ρ3 (.inl z)] at hi
      cases hi
    have := s1.reb i fun z => hn (hvv i z)
    exact this.symm
  unfold cIt at q
  cases b with
  | false =>
    cases q
    obtain ⟨os', c3, k3⟩ := fin c2 s2.chg.cc
    refine ⟨G2, os', aA, ?_, c3, k3.weak fun i h => by simp only [List.mem_append, List.not_mem_nil, or_false] at h ⊢; rcases h with (h | h) | h <;> simp [h]⟩
    unfold turnC
    rw [e2]
    show (mt σ1 G1).bind _ = _
    rw [e3]
    rfl
  | true =>
    obtain ⟨⟨e, ρ3⟩, q3, q⟩ := bnd' q
    obtain ⟨y, q4, q⟩ := bnd' q
    unfold cAcc at q
    split at q
    · rename_i hl
      cases q
      obtain ⟨w, G3, os3, as3, e4, r3, k3⟩ := he _ F σ1 G2 ρ2 os2 e ρ3 c2.inv q3
      have fr := c2.stepE r3
      have c3 : CI N F σ1 G3 ρ3 os3 D .lst acc aA := c2.step r3.drop0.sres
      -- the item
      have item : ∃ bs, Inv (Nu (Nu N (D :: aA)) bs) F σ1 G3 ρ3 os3 ∧ Tm (Nu N (D :: aA)) F G3 os3 y w bs ∧ (∃ vs, G3[D]? = some (.lst vs) ∧ True ∧ Rls (Ow os3 (Nu (Nu N (D :: aA)) bs)) F G3 acc vs aA) ∧ ∀ a ∈ bs, a ∈ as3 := by
        cases kk with
        | true =>
          have := kp_inv q4
          subst this
          exact ⟨as3, r3.inv, k3, fr, fun a h => h⟩
        | false =>
          obtain ⟨z, rfl, rfl⟩ := tk_inv q4
          refine ⟨[], by rw [nu_nil]; exact c3.inv, ⟨by rw [nu_nil]; exact tm_dem r3.inv k3 fun a ha => ha, .nil, fun a ha => (nomatch ha)⟩, ?_, fun a ha => nomatch ha⟩
          rw [nu_nil]
          exact c3.at_
      obtain ⟨bs, iv3, k4, hr, hsub⟩ := item
      obtain ⟨vs, hD, lv, c5⟩ := c3.push iv3 hr k4
      have cc3 : CC (Rg ++ [] ++ Mt ++ Me) D G ρ os aA (G3.set D (.lst (vs ++ [w]))) ρ3 os3 (aA ++ bs) := by
        have k := s2.chg.trans r3.chg c.inv.lt
        refine ⟨by rw [List.length_set]; exact k.len, fun a la hd ha => by rw [List.getElem?_set_ne (Ne.symm hd)]; exact k.frm a la ha, k.sub, fun a ha => ?_, fun i hi => ?_⟩
        · rcases List.mem_append.mp ha with ha | ha
          · exact .inl ha
          · exact .inr ((r3.sub a (hsub a ha)).elim (fun ⟨j, hj⟩ => s2.chg.sub j a hj) fun y => .inr (Nat.le_trans s2.chg.len y))
        · obtain ⟨m1, m2, m3⟩ := k.mt i hi
          refine ⟨m1, m2, fun a ha => ?_⟩
          rw [List.getElem?_set_ne fun z => (c.inv.fr i a ha).1 (.inr (by rw [← z]; exact List.mem_cons_self ..))]
          exact m3 a ha
      obtain ⟨os', c6, k6⟩ := fin c5 cc3
      refine ⟨_, os', aA ++ bs, ?_, c6, k6.weak fun i h => by simp only [List.mem_append, List.not_mem_nil, or_false] at h ⊢; rcases h with ((h | h) | h) | h <;> simp [h]⟩
      unfold turnC
      rw [e2]
      show (mt σ1 G1).bind _ = _
      rw [e3]
      show (me σ1 G2).bind _ = _
      rw [e4]
      show (match G3[D]? with | some (.lst acc) => if acc.length < sizeLine then some (G3.set D (.lst (acc ++ [w]))) else none | _ => none) = _
      rw [hD]
      show (if vs.length < sizeLine then _ else none) = _
      rw [if_pos (by rw [lv]; exact hl)]
    · cases q
theorem SrcOk.keepC {ss : Src} {W : List Nat} {aA1 : List Nat} (h : SrcOk (Ow os (Nu N (D :: aA))) F G ss) (s : Stay W os ss) (hD : ∀ x ∈ ss, x.1 ≠ D) (c : CC M D G ρ os aA G1 ρ1 os1 aA1) (hW : ∀ i ∈ W, i ∉ M) : SrcOk (Ow os1 (Nu N (D :: aA1))) F G1 ss ∧ Stay W os1 ss := by
  have key : ∀ x ∈ ss, x.1 < G.length ∧ G1[x.1]? = G[x.1]? := fun x hx => by
    have hl : x.1 < G.length := lt_get (h x hx).1
    refine ⟨hl, ?_⟩
    rcases s x hx with q | ⟨i, hi, q⟩
    · exact c.frm _ hl (hD x hx) q
    · exact (c.mt i (hW i hi)).2.2 _ q
  refine ⟨fun x hx => ⟨by rw [(key x hx).2]; exact (h x hx).1, ?_⟩, fun x hx => ?_⟩
  · refine Rls.mono (fun a la ha => c.frm a la (fun z => ha (.inr (.inr (by rw [z]; exact List.mem_cons_self ..)))) fun i hi => ha (.inl ⟨i, hi⟩)) (fun a ha => ?_) (fun a ha => .inl ha) _ _ _ (fun a ha => nomatch ha) (h x hx).2
    rcases ha with ⟨i, hi⟩ | ha | ha
    · exact (c.sub i a hi).elim (fun y => .inl (.inl y)) .inr
    · exact .inl (.inr (.inl ha))
    · rcases List.mem_cons.mp ha with rfl | ha
      · exact .inl (.inr (.inr (List.mem_cons_self ..)))
      · rcases c.subA a ha with y | y | y
        · exact .inl (.inr (.inr (List.mem_cons_of_mem _ y)))
        · exact .inl (.inl y)
        · exact .inr y
  rcases s x hx with q | ⟨i, hi, q⟩
  · refine .inl fun j hj => ?_
    rcases c.sub j _ hj with ⟨l, hl⟩ | y
    · exact q l hl
    · exact absurd (key x hx).1 (Nat.not_lt.mpr y)
  · exact .inr ⟨i, hi, by rw [(c.mt i (hW i hi)).2.1]; exact q⟩
def gLp {γ : Type} (st : Tr → γ → PSt → Option (γ × PSt)) : List Tr → γ → PSt → Option (γ × PSt)
  | [], acc, ρ => some (acc, ρ)
  | x :: xs, acc, ρ => (st x acc ρ).bind fun p => gLp st xs p.1 p.2
def StepOk {γ : Type} (K : γ → Kd) (X : γ → List Tr) (N F : Nat → Prop) (σ : St) (D : Nat) (M : List Nat) (turn : V → Hz → Hz → Option Hz) (st : Tr → γ → PSt → Option (γ × PSt)) : Prop := ∀ (G : Hz) (ρ : PSt) (os : Nat → List Nat) (acc : γ) (aA : List Nat) (v : V) (G1 : Hz) (x : Tr) (acc' : γ) (ρ' : PSt), CI N F σ G ρ os D (K acc) (X acc) aA → NewV (Ow os (Nu N (D :: aA))) F G v G1 x → st x acc ρ = some (acc', ρ') →
  ∃ G2 os' aA', turn v G G1 = some G2 ∧ CI N F σ G2 ρ' os' D (K acc') (X acc') aA' ∧ CC M D G ρ os aA G2 ρ' os' aA'
theorem gLp_ok {it : MIt} {turn : V → Hz → Hz → Option Hz} {st : Tr → γ → PSt → Option (γ × PSt)} {K : γ → Kd} {X : γ → List Tr} {ss : Src} {xs : List Tr} (hs : StepOk K X N F σ D M turn st) (hit : ItP it ss xs) (hW : ∀ i ∈ W, i ∉ M) (hD : ∀ x ∈ ss, x.1 ≠ D) : ∀ (suf : List Tr) (i n : Nat) (G : Hz) (ρ : PSt) (os : Nat → List Nat) (acc : γ) (aA : List Nat) (acc' : γ) (ρ' : PSt), xs.drop i = suf → i + suf.length = xs.length → suf.length < n → CI N F σ G ρ os D (K acc) (X acc) aA → SrcOk (Ow os (Nu N (D :: aA))) F G ss → Stay W os ss → gLp st suf acc ρ = some (acc', ρ') →
    ∃ G' os' aA', loopC it turn n i G = some G' ∧ CI N F σ G' ρ' os' D (K acc') (X acc') aA' ∧ CC M D G ρ os aA G' ρ' os' aA'
  | [], i, n + 1, G, ρ, os, acc, aA, acc', ρ', hd, hl, hn, c, so, sy, q => by
    cases q
    have e : it i G = some none := by
      have : i = xs.length := by simpa using hl
      rw [this]
      exact (hit _ F G so).2
    refine ⟨G, os, aA, ?_, c, .refl⟩
    unfold loopC
    rw [e]
  | x :: suf, i, n + 1, G, ρ, os, acc, aA, acc', ρ', hd, hl, hn, c, so, sy, q => by
    obtain ⟨⟨acc1, ρ1⟩, q1, q⟩ := bnd' q
    have hx : xs[i]? = some x := by
      have := congrArg (·[0]?) hd
      simpa using this
    obtain ⟨v, G1, e1, nv⟩ := (hit _ F G so).1 i x hx
    obtain ⟨G2, os2, aA2, e2, c2, k2⟩ := hs G ρ os acc aA v G1 x acc1 ρ1 c nv q1
    obtain ⟨so2, st2⟩ := so.keepC sy hD k2 hW
    have hd2 : xs.drop (i + 1) = suf := by
      rw [← List.drop_drop, hd]
      rfl
    have hl2 : i + 1 + suf.length = xs.length := by
      rw [List.length_cons] at hl
      omega
    obtain ⟨G3, os3, aA3, e3, c3, k3⟩ := gLp_ok hs hit hW hD suf (i + 1) n G2 ρ1 os2 acc1 aA2 acc' ρ' hd2 hl2 (by simpa using hn) c2 so2 st2 q
    refine ⟨G3, os3, aA3, ?_, c3, (k2.trans k3 c.inv.lt).weak fun j hj => (List.mem_append.mp hj).elim id id⟩
    conv => lhs; unfold loopC
    rw [e1]
    show (turn v G G1).bind _ = _
    rw [e2]
    exact e3
theorem cLp_eq {kk : Bool} {g : PG} {t : PT} {e : PE} : ∀ (xs acc : List Tr) (ρ : PSt), cLp kk vv g t e xs acc ρ = gLp (fun x acc ρ => (g x ρ).bind (cTu kk vv t e acc)) xs acc ρ
  | [], _, _ => rfl
  | x :: xs, acc, ρ => by
    show ((g x ρ).bind (cTu kk vv t e acc)).bind (cLp1 (cLp kk vv g t e xs)) = ((g x ρ).bind (cTu kk vv t e acc)).bind _
    congr 1
    funext p
    exact cLp_eq xs p.1 p.2
theorem kills_none {i : Nat} : ∀ (ds : List Nat) (ρ : PSt), (i ∈ ds ∨ getT ρ[i]? = none) → getT (kills ρ ds)[i]? = none
  | [], ρ, h => h.elim (fun y => nomatch y) id
  | d :: ds, ρ, h => by
    refine kills_none ds _ ?_
    by_cases q : d = i
    · subst q
      right
      rw [getT_set, if_pos rfl]
      split <;> rfl
    · rcases h with h | h
      · rcases List.mem_cons.mp h with h | h
        · exact absurd h.symm q
        · exact .inl h
      · right
        rw [getT_set, if_neg q]
        exact h
theorem wipe_ne {i : Nat} : ∀ (vs : List Nat), i ∉ vs → (wipe σ vs)[i]? = σ[i]?
  | [], _ => rfl
  | v :: vs, h => by
    unfold wipe
    rw [List.getElem?_set_ne fun z => h (by rw [z]; exact List.mem_cons_self ..)]
    exact wipe_ne vs fun z => h (List.mem_cons_of_mem _ z)
theorem Inv.wiped (h : Inv N F σ G ρ os) (hk : ∀ (i : Nat), i ∈ vv → getT ρ[i]? = none) : Inv N F (wipe σ vv) G ρ os := h.swap (wipe_length σ vv) fun i t hi => wipe_ne vv fun z => by rw [hk i z] at hi; cases hi
theorem Inv.unwiped (h : Inv N F (wipe σ vv) G ρ os) : Inv N F σ G ρ os := h.swap (wipe_length σ vv).symm fun i t hi => by
  obtain ⟨v, e, _⟩ := h.sl i t hi
  rw [e]
  exact (wipe_some e).1
/-- the start of a growing list -/
theorem CI.start (hk : kd.len 0) (h : Inv N F σ G ρ os) : CI N F σ (G ++ [kd.mk []]) ρ os G.length kd [] [] := by
  refine ⟨h.mono (fun a la => get_app' la) (by simp) (fun a ha => ha.elim .inl fun y => .inr ?_) fun a ha => ?_, ⟨[], by simp, hk, rfl, rfl⟩, by simp, fun a ha => ?_⟩
  · rw [List.mem_singleton.mp y]; exact Nat.le_refl _
  · rw [List.length_append, List.length_singleton]
    rcases ha with ha | ha
    · exact Nat.lt_succ_of_lt (h.bn a ha)
    · rw [List.mem_singleton.mp ha]; exact Nat.lt_succ_self _
  · rw [List.mem_singleton.mp ha]
    exact ⟨fun z => Nat.lt_irrefl _ (h.bn _ z), fun z => Nat.lt_irrefl _ (h.bf _ z)⟩
/-- its end -/
theorem CI.fin {o0 : O} (c : CI N F (wipe σ vv) G2 ρ2 os2 G.length kd acc aA) (k : CC M2 G.length (G ++ [o0]) ρ os [] G2 ρ2 os2 aA) (h : Inv N F σ G ρ os) : Res M2 N F σ G ρ os G2 ρ2 os2 (G.length :: aA) ∧ Tm N F G2 os2 (.nd .own kd acc) (.ref G.length) (G.length :: aA) := by
  obtain ⟨vs, e, hk, r⟩ := c.at_
  have hlen : (G ++ [o0]).length = G.length + 1 := by simp
  refine ⟨⟨⟨by have := k.len; rw [hlen] at this; omega, fun a la ha => ?_, fun i a ha => ?_, fun i hi => ?_⟩, fun a ha => ?_, c.inv.unwiped⟩, ⟨G.length, vs, aA, rfl, e, hk, r, rfl⟩, c.nd, c.fr⟩
  · rw [k.frm a (by rw [hlen]; omega) (fun z => Nat.lt_irrefl _ (z ▸ la)) ha, get_app' la]
  · exact (k.sub i a ha).imp id fun y => by rw [hlen] at y; omega
  · obtain ⟨m1, m2, m3⟩ := k.mt i hi
    exact ⟨m1, m2, fun a ha => by rw [m3 a ha, get_app' (h.lt i a ha)]⟩
  · rcases List.mem_cons.mp ha with rfl | ha
    · exact .inr (Nat.le_refl _)
    · rcases k.subA a ha with y | y | y
      · cases y
      · exact .inl y
      · rw [hlen] at y; exact .inr (by omega)
theorem src_start {o0 : O} {ss : Src} (so : SrcOk (Ow os N) F G ss) (h : Inv N F σ G ρ os) : SrcOk (Ow os (Nu N [G.length])) F (G ++ [o0]) ss := fun x hx => by
  obtain ⟨h1, h2⟩ := so x hx
  refine ⟨by rw [get_app' (lt_get h1)]; exact h1, Rls.mono (fun a la _ => get_app' la) (fun a ha => ?_) (fun a ha => .inl ha) _ _ _ (fun a ha => nomatch ha) h2⟩
  rcases ha with ha | ha | ha
  · exact .inl (.inl ha)
  · exact .inl (.inr ha)
  · right; rw [List.mem_singleton.mp ha]; exact Nat.le_refl _
/-- a comprehension by its turn -/
theorem comp_by {n : Nat} {mw : MI} {pw : PI} {turn : Nat → St → V → Hz → Hz → Option Hz} {st : Tr → γ → PSt → Option (γ × PSt)} {K : γ → Kd} {X : γ → List Tr} {acc0 : γ} {m : ME} (hX : X acc0 = []) (hK : (K acc0).len 0) (hw : IOk Mw W mw pw) (hW : ∀ i ∈ W, i ∉ vv ++ M)
    (hst : ∀ (N F : Nat → Prop) (σ : St) (D : Nat), StepOk K X N F σ D M (turn D σ) st) (hm : ∀ σ G, m σ G = (mw σ G).bind fun p => (loopC p.1 (turn p.2.length (wipe σ vv)) n 0 (p.2 ++ [(K acc0).mk []])).bind fun G' => some (.ref p.2.length, G'))
    (p : PE) (hp : ∀ ρ, p ρ = (pw ρ).bind fun q => if q.1.length < n then (gLp st q.1 acc0 (kills q.2 vv)).bind fun r => some (.t (.nd .own (K r.1) (X r.1)), r.2) else none) : EOk (Mw ++ (vv ++ M)) m p := fun N F σ G ρ os e ρ' iv q => by
  rw [hp] at q
  obtain ⟨⟨xs, ρ1⟩, q1, q⟩ := bnd' q
  dsimp only at q
  split at q
  · rename_i hn
    obtain ⟨⟨acc, ρ2⟩, q2, q⟩ := bnd' q
    cases q
    obtain ⟨it, G1, os1, ss, e1, r1, hi, so, sy, hN⟩ := hw N F σ G ρ os xs ρ1 iv q1
    obtain ⟨os2, sk, _⟩ := Inv.kills vv r1.inv0
    have iv2 := sk.inv.wiped (vv := vv) fun i hi => kills_none vv ρ1 (.inl hi)
    have c0 := CI.start hK iv2
    rw [← hX] at c0
    have hWv : ∀ i ∈ W, i ∉ vv := fun i hi z => hW i hi (memL z)
    obtain ⟨so2, sy2⟩ := so.keep sy sk.chg hWv
    have hD : ∀ x ∈ ss, x.1 ≠ G1.length := fun x hx z => by
      have := lt_get (so x hx).1
      rw [z] at this
      exact Nat.lt_irrefl _ this
    obtain ⟨G3, os3, aA, e3, c3, k3⟩ := gLp_ok (hst N F (wipe σ vv) G1.length) hi (W := W) (fun i hi z => hW i hi (memR z)) hD xs 0 n (G1 ++ [(K acc0).mk []]) _ os2 acc0 [] acc ρ2 rfl (Nat.zero_add _) hn c0 (src_start so2 iv2) sy2 q2
    obtain ⟨rf, tm⟩ := c3.fin k3 sk.inv
    refine ⟨.ref G1.length, G3, os3, G1.length :: aA, ?_, ?_, tm⟩
    · rw [hm, e1]
      show (loopC it (turn G1.length (wipe σ vv)) n 0 (G1 ++ [(K acc0).mk []])).bind _ = _
      rw [e3]
      rfl
    · have rk : Res vv N F σ G1 ρ1 os1 G1 (kills ρ1 vv) os2 [] := ⟨sk.chg, fun a ha => (nomatch ha), by rw [nu_nil]; exact sk.inv⟩
      exact Res.seq0 iv r1 (Res.seq0 r1.inv0 rk rf)
  · cases q
theorem eo_comp {n : Nat} {kk : Bool} {mw : MI} {pw : PI} {g : MG} {pg : PG} {mt : MT} {pt : PT} {me : ME} {pe : PE} (hw : IOk Mw W mw pw) (hg : GOk Rg g pg) (ht : TOk Mt mt pt) (he : EOk Me me pe) (hvv : ∀ i ∈ Rg, i ∈ vv) (hW : ∀ i ∈ W, i ∉ vv ++ (Rg ++ (Mt ++ (Me ++ vv)))) : EOk (Mw ++ (vv ++ (Rg ++ (Mt ++ (Me ++ vv))))) (eComp n false mw vv g mt me) (pComp n kk pw vv pg pt pe) :=
  comp_by (K := fun _ => .lst) (X := id) (acc0 := []) (turn := fun D σ => turnC false g mt me D σ) (st := fun x acc ρ => (pg x ρ).bind (cTu kk vv pt pe acc)) rfl trivial hw hW (fun N F σ D G ρ os acc aA v G1 x acc' ρ' c nv q => turn_ok hg ht he hvv c nv q) (fun σ G => rfl) _ fun ρ => by
    show (pw ρ).bind (pComp1 n kk vv pg pt pe) = _
    congr 1
    funext q
    unfold pComp1
    rw [cLp_eq]
    rfl
end
end Pl

/-! Pl, part 8: calls of defs. -/
namespace Pl
open PySem L2 Zl
section
variable {N N1 N2 F Fc A A' : Nat → Prop} {σ σ' σ1 σ2 : St} {G G' G1 G2 : Hz} {ρ ρ' ρ1 ρ2 : PSt} {os os' os1 os2 oA oT oF : Nat → List Nat} {M M1 M2 Rb R1 R2 Rg : List Nat} {as as1 as2 bs cs : List Nat} {e e1 : E} {es : List E} {v v1 w : V} {vs ws dvs : List V} {t u : Tr} {ts fs : List Tr}
/-- a def: what it answers, and what its arguments are then -/
def FOk (m : FL) (p : PF) : Prop := ∀ (N F : Nat → Prop) (G : Hz) (vs : List V) (ts : List Tr) (os : Nat → List Nat) (t : Tr) (fs : PSt), Inv N F (vs.map some) G (ts.map some) os → p ts = some (t, fs) →
  ∃ v G' os' as, m vs G = some (v, G') ∧ G.length ≤ G'.length ∧ (∀ a, a < G.length → (∀ i, a ∉ os i) → G'[a]? = G[a]?) ∧ (∀ i a, a ∈ os' i → (∃ j, a ∈ os j) ∨ G.length ≤ a) ∧ (∀ a ∈ as, (∃ j, a ∈ os j) ∨ G.length ≤ a) ∧ Inv (Nu N as) F (vs.map some) G' fs os' ∧ Tm N F G' os' t v as ∧ t.nob = true
theorem mask_get (mp : List Nat) (ρ : PSt) : ∀ (ts : List Tr) (k i : Nat), getT (mask mp k ts ρ)[i]? = if k + i ∈ mp ∧ i < ts.length then getT ρ[k + i]? else none
  | [], k, i => by
    show getT (([] : PSt)[i]?) = _
    rw [if_neg (fun h => nomatch h.2)]
    rfl
  | o :: ts, k, 0 => by
    show getT (some (if k ∈ mp then getT ρ[k]? else none)) = _
    rw [Nat.add_zero]
    by_cases h : k ∈ mp
    · rw [if_pos h, if_pos ⟨h, Nat.succ_pos _⟩]
      cases getT ρ[k]? <;> rfl
    · rw [if_neg h, if_neg fun z => h z.1]
      rfl
  | o :: ts, k, i + 1 => by
    show getT (mask mp (k + 1) ts ρ)[i]? = _
    rw [mask_get mp ρ ts (k + 1) i, show k + 1 + i = k + (i + 1) by omega, List.length_cons]
    simp only [Nat.add_lt_add_iff_right]
theorem mask_length (mp : List Nat) (ρ : PSt) : ∀ (ts : List Tr) (k : Nat), (mask mp k ts ρ).length = ts.length
  | [], k => rfl
  | o :: ts, k => congrArg (· + 1) (mask_length mp ρ ts (k + 1))
theorem getT_map {ts : List Tr} {i : Nat} : getT (ts.map some)[i]? = ts[i]? := by
  rw [List.getElem?_map]
  cases ts[i]? <;> rfl
theorem startP_get {n : Nat} {ts : List Tr} {i : Nat} : getT (startP n ts)[i]? = getT (ts.map some)[i]? := by
  unfold startP
  by_cases h : i < ts.length
  · rw [List.getElem?_append_left (by rw [List.length_map]; exact h)]
  · rw [List.getElem?_append_right (by rw [List.length_map]; omega), List.length_map, getT_map, List.getElem?_eq_none (l := ts) (by omega), List.getElem?_replicate]
    split <;> rfl
theorem Inv.startZ {n : Nat} {ts : List Tr} (h : Inv N F (vs.map some) G (ts.map some) os) : Inv N F (startZ n vs) G (startP n ts) os := by
  have hl : vs.length = ts.length := by have := h.ln; simpa using this
  refine ⟨fun i t e => ?_, fun i e => h.em i (by rw [← startP_get (n := n)]; exact e), h.nd, h.dj, h.fr, ?_, h.bn, h.bf⟩
  · rw [startP_get] at e
    obtain ⟨v, e1, r⟩ := h.sl i t e
    refine ⟨v, ?_, r⟩
    unfold Zl.startZ
    rw [List.getElem?_append_left (List.getElem?_eq_some_iff.mp e1).1]
    exact e1
  · unfold Zl.startZ startP
    simp [hl]
def mOs (mp : List Nat) (n : Nat) (os : Nat → List Nat) : Nat → List Nat := fun i => if i ∈ mp ∧ i < n then os i else []
theorem mOs_sub {mp : List Nat} {n i a : Nat} (h : a ∈ mOs mp n os i) : a ∈ os i ∧ i ∈ mp ∧ i < n := by
  unfold mOs at h
  split at h
  · exact ⟨h, ‹_›⟩
  · cases h
/-- at the end only the arguments that are changed -/
theorem Inv.mask {n : Nat} {ts : List Tr} (mp : List Nat) (h : Inv N F σ G ρ os) (hσ : ∀ (i : Nat), i ∈ mp → σ[i]? = (Zl.startZ n vs)[i]?) (hl : vs.length = ts.length) :
    Inv N F (vs.map some) G (mask mp 0 ts ρ) (mOs mp ts.length os) := by
  have g : ∀ i, getT (Pl.mask mp 0 ts ρ)[i]? = if i ∈ mp ∧ i < ts.length then getT ρ[i]? else none := fun i => by
    rw [mask_get, Nat.zero_add]
  have hA : ∀ a, Ow (mOs mp ts.length os) N a → Ow os N a := fun a ha => by
    rcases ha with ⟨i, hi⟩ | ha
    · exact .inl ⟨i, (mOs_sub hi).1⟩
    · exact .inr ha
  refine ⟨fun i t e => ?_, fun i e => ?_, fun i => ?_, fun i j a h1 h2 => h.dj i j a (mOs_sub h1).1 (mOs_sub h2).1, fun i a ha => h.fr i a (mOs_sub ha).1, ?_, h.bn, h.bf⟩
  · rw [g] at e
    split at e
    · rename_i z
      obtain ⟨v, e1, r⟩ := h.sl i t e
      rw [hσ i z.1] at e1
      refine ⟨v, ?_, ?_⟩
      · unfold Zl.startZ at e1
        rw [List.getElem?_append_left (by rw [List.length_map, hl]; exact z.2)] at e1
        exact e1
      · unfold mOs
        rw [if_pos z]
        exact Rl.mono (fun _ _ _ => rfl) (fun a ha => .inl (hA a ha)) (fun a ha => .inl ha) _ _ _ (fun _ _ => rfl) r
    · cases e
  · rw [g] at e
    unfold mOs
    split at e
    · rename_i z
      rw [if_pos z]
      exact h.em i e
    · rename_i z
      rw [if_neg z]
  · unfold mOs
    split
    · exact h.nd i
    · exact .nil
  · rw [List.length_map, mask_length, hl]
theorem fo_run {mp : List Nat} {n : Nat} {b : MS} {pb : PS} (h : SOk Rb M b pb) (hm : ∀ i ∈ mp, i ∉ Rb) : FOk (runD n b) (runP mp n pb) := fun N F G vs ts os t fs iv q => by
  obtain ⟨r, q1, q⟩ := bnd' q
  have hl : vs.length = ts.length := by have := iv.ln; simpa using this
  obtain ⟨r', e1, p⟩ := h N F (startZ n vs) G (startP n ts) os r iv.startZ q1
  have ev : ∀ v G', (match r' with | .nx _ G' => some (V.non, G') | .rt v G' => some (v, G') | _ => none) = some (v, G') → runD n b vs G = some (v, G') := fun v G' h => by
    show (b (startZ n vs) G).bind _ = _
    rw [e1]
    exact h
  cases r with
  | nx ρ' =>
    cases q
    obtain ⟨σ', G', os', rfl, s⟩ := p
    have im := s.inv.mask (n := n) mp (fun i hi => s.reb i (hm i hi)) hl
    exact ⟨.non, G', mOs mp ts.length os', [], ev _ _ rfl, s.chg.len, s.chg.frm, fun i a ha => s.chg.sub i a (mOs_sub ha).1, fun a ha => (nomatch ha), by rw [nu_nil]; exact im, tm_at rfl, rfl⟩
  | rt u ρ' =>
    obtain ⟨v, σ', G', os', as, rfl, c, sb, i2, rb, tm⟩ := p
    have q : runK mp ts u ρ' = some (t, fs) := q
    unfold runK at q
    split at q
    · cases q
      have im := i2.mask (n := n) mp (fun i hi => rb i (hm i hi)) hl
      refine ⟨v, G', mOs mp ts.length os', as, ev _ _ rfl, c.len, c.frm, fun i a ha => c.sub i a (mOs_sub ha).1, sb, im, ⟨Rl.mono (fun _ _ _ => rfl) (fun a ha => .inl ?_) (fun a ha => .inl ha) _ _ _ (fun _ _ => rfl) tm.rl, tm.nd, tm.fr⟩, ‹_›⟩
      exact ha.elim (fun ⟨i, hi⟩ => .inl ⟨i, (mOs_sub hi).1⟩) .inr
    · cases q
  | bk ρ' => cases q
  | ct ρ' => cases q
/-! ### calls -/
def cO (bs : List Nat) (o : Nat → List Nat) : Nat → List Nat
  | 0 => bs
  | i + 1 => o i
def AllO (N : Nat → Prop) (o : Nat → List Nat) (a : Nat) : Prop := N a ∨ ∃ i, a ∈ o i
theorem Inv.consA (h : Inv (Nu N bs) F (ws.map some) G (ts.map some) oT) (r : Rl (Ow (cO bs oT) N) F G t v bs) (nd : bs.Nodup) (fr : ∀ a ∈ bs, ¬ N a ∧ ¬ F a) : Inv N F ((v :: ws).map some) G ((t :: ts).map some) (cO bs oT) where
  sl := fun i u e => by
    cases i with
    | zero => cases e; exact ⟨v, rfl, r⟩
    | succ i =>
      obtain ⟨w, e1, r1⟩ := h.sl i u e
      refine ⟨w, e1, Rl.mono (fun _ _ _ => rfl) (fun a ha => .inl ?_) (fun a ha => .inl ha) _ _ _ (fun _ _ => rfl) r1⟩
      rcases ha with ⟨j, hj⟩ | ha
      · cases j with
        | zero => exact .inr (.inr hj)
        | succ j => exact .inl ⟨j, hj⟩
      · exact .inr (.inl ha)
  em := fun i e => by
    cases i with
    | zero => cases e
    | succ i => exact h.em i e
  nd := fun i => by
    cases i with
    | zero => exact nd
    | succ i => exact h.nd i
  dj := fun i j a h1 h2 => by
    cases i with
    | zero => cases j with
      | zero => rfl
      | succ j => exact absurd (.inr h1) (h.fr j a h2).1
    | succ i => cases j with
      | zero => exact absurd (.inr h2) (h.fr i a h1).1
      | succ j => exact congrArg (· + 1) (h.dj i j a h1 h2)
  fr := fun i a ha => by
    cases i with
    | zero => exact fr a ha
    | succ i => exact ⟨fun z => (h.fr i a ha).1 (.inl z), (h.fr i a ha).2⟩
  ln := by have := h.ln; simpa using this
  bn := fun a ha => h.bn a (.inl ha)
  bf := h.bf
theorem TmEs.reown {M' : Nat → Prop} : ∀ {es : List E} {vs : List V} {N : Nat → Prop} {as : List Nat}, TmEs N F σ G os es vs as → (∀ bs a, Ow os1 (Nu M' bs) a → Ow os (Nu N bs) a) → (∀ a ∈ as, ¬ M' a) → TmEs M' F σ G os1 es vs as
  | [], vs, N, as, h, _, _ => h
  | e :: es, vs, N, as, ⟨v, ws, bs, cs, e1, e2, k1, k2⟩, hA, hf => by
    subst e1 e2
    have hA2 : ∀ (ds bs : List Nat) (a : Nat), Ow os1 (Nu (Nu M' ds) bs) a → Ow os (Nu (Nu N ds) bs) a := fun ds bs a ha => by
      rw [nu_nu] at ha ⊢
      exact hA _ a ha
    refine ⟨v, ws, bs, cs, rfl, rfl, ?_, TmEs.reown k2 (hA2 bs) fun a ha => ?_⟩
    · cases e with
      | t x =>
        refine ⟨Rl.mono (fun _ _ _ => rfl) (fun a ha => .inl (hA2 cs bs a ha)) (fun a ha => .inl ha) _ _ _ (fun _ _ => rfl) (Tm.rl k1), Tm.nd k1, fun a ha => ⟨fun z => z.elim (hf a (memL ha)) fun y => (Tm.fr k1 a ha).1 (.inr y), (Tm.fr k1 a ha).2⟩⟩
      | al i => exact k1
    · exact fun z => z.elim (hf a (memR ha)) fun y => (k2.fr a ha).1 (.inr y)
/-- the arguments go in -/
theorem cv_ok : ∀ (ms : List Md) (es : List E) (N : Nat → Prop) (ρ : PSt) (os : Nat → List Nat) (vs : List V) (as : List Nat) (ts : List Tr) (ρ' : PSt), Inv (Nu N as) F σ G ρ os → TmEs N F σ G os es vs as → cv ρ ms es = some (ts, ρ') →
    ∃ os' oA, Inv (AllO N oA) F σ G ρ' os' ∧ Inv N (AllO F os') (vs.map some) G (ts.map some) oA ∧ (∀ i a, a ∈ os' i → a ∈ os i) ∧ (∀ i a, a ∈ oA i → a ∈ as ∨ ∃ j, a ∈ os j) ∧ (∀ i, i ∉ mdS ms → getT ρ'[i]? = getT ρ[i]? ∧ os' i = os i)
  | [], [], N, ρ, os, vs, as, ts, ρ', iv, k, q => by
    cases q
    obtain ⟨rfl, rfl⟩ := k
    rw [nu_nil] at iv
    refine ⟨os, (fun _ => []), iv.weak fun a ha => ha.elim id fun ⟨i, hi⟩ => (nomatch hi), ⟨fun i t e => (nomatch e), fun _ _ => rfl, fun _ => .nil, fun _ _ _ h => (nomatch h), fun _ _ h => (nomatch h), rfl, iv.bn, fun a ha => ha.elim (iv.bf a) fun ⟨i, hi⟩ => iv.lt i a hi⟩, fun _ _ h => h, fun _ _ h => (nomatch h), fun _ _ => ⟨rfl, rfl⟩⟩
  | [], _ :: _, N, ρ, os, vs, as, ts, ρ', iv, k, q => by cases q
  | .r :: _, [], N, ρ, os, vs, as, ts, ρ', iv, k, q => by cases q
  | .s :: _, [], N, ρ, os, vs, as, ts, ρ', iv, k, q => by cases q
  | .f :: _, [], N, ρ, os, vs, as, ts, ρ', iv, k, q => by cases q
  | .m _ :: _, [], N, ρ, os, vs, as, ts, ρ', iv, k, q => by cases q
  | .r :: ms, e :: es, N, ρ, os, vs, as, ts, ρ', iv, ⟨v, ws, bs, cs, e1, e2, k1, k2⟩, q => by
    subst e1 e2
    obtain ⟨⟨us, ρ2⟩, q1, q⟩ := bnd' q
    obtain ⟨t, q2, q3⟩ := Option.map_eq_some_iff.mp q
    cases q3
    obtain ⟨os', oT, i1, i2, s1, s2, s3⟩ := cv_ok ms es (Nu N bs) ρ os ws cs us ρ2 (by rw [nu_nu]; exact iv) k2 q1
    have hr : Rl (Ow (cO [] oT) N) (AllO F os') G t.toB v [] := by
      have inT : ∀ a, Ow (cO [] oT) N a → AllO N oT a := fun a ha => ha.elim (fun ⟨i, hi⟩ => by
        cases i with
        | zero => cases hi
        | succ i => exact .inr ⟨i, hi⟩) .inl
      cases e with
      | t x =>
        cases q2
        refine Rl.toB (fun a _ ha => ?_) _ _ _ (fun a ha hb => ?_) (Tm.rl k1)
        · rcases inT a ha with ha | ⟨i, hi⟩
          · exact .inr (.inl (.inl ha))
          · exact (s2 i a hi).elim (fun y => .inr (.inl (.inr y))) .inl
        · rcases inT a hb with hb | ⟨i, hi⟩
          · exact (Tm.fr k1 a ha).1 (.inl hb)
          · rcases s2 i a hi with y | ⟨j, hj⟩
            · exact (Tm.fr k1 a ha).1 (.inr y)
            · exact (iv.fr j a hj).1 (.inr (memL ha))
      | al j =>
        obtain ⟨v', e3, r⟩ := i1.sl j t q2
        rw [k1.2] at e3
        cases e3
        refine Rl.toB (fun a _ ha => ?_) _ _ _ (fun a ha hb => ?_) r
        · exact .inr ((inT a ha).imp .inl id)
        · exact (i1.fr j a ha).1 ((inT a hb).imp .inl id)
    refine ⟨os', cO [] oT, i1.weak fun a ha => ?_, Inv.consA (bs := []) (by rw [nu_nil]; exact i2.weak fun a ha => .inl ha) hr .nil (fun a ha => nomatch ha), s1, fun i a ha => ?_, s3⟩
    · rcases ha with ha | ⟨i, hi⟩
      · exact .inl (.inl ha)
      · cases i with
        | zero => cases hi
        | succ i => exact .inr ⟨i, hi⟩
    · cases i with
      | zero => cases ha
      | succ i => exact (s2 i a ha).imp memR id
  | .f :: ms, e :: es, N, ρ, os, vs, as, ts, ρ', iv, ⟨v, ws, bs, cs, e1, e2, k1, k2⟩, q => by
    subst e1 e2
    obtain ⟨⟨us, ρ2⟩, q1, q⟩ := bnd' q
    obtain ⟨t, q2, q3⟩ := Option.map_eq_some_iff.mp q
    cases q3
    obtain ⟨os', oT, i1, i2, s1, s2, s3⟩ := cv_ok ms es (Nu N bs) ρ os ws cs us ρ2 (by rw [nu_nu]; exact iv) k2 q1
    have hr : Rl (Ow (cO [] oT) N) (AllO F os') G t.toK v [] := by
      have inT : ∀ a, Ow (cO [] oT) N a → AllO N oT a := fun a ha => ha.elim (fun ⟨i, hi⟩ => by
        cases i with
        | zero => cases hi
        | succ i => exact .inr ⟨i, hi⟩) .inl
      cases e with
      | t x =>
        cases q2
        refine Rl.toK (fun a _ ha => ?_) (fun a _ ha => ha.imp id fun ⟨i, hi⟩ => .inl ⟨i, s1 i a hi⟩) _ _ _ (fun a ha hb => ?_) (Tm.rl k1)
        · rcases inT a ha with ha | ⟨i, hi⟩
          · exact .inr (.inl (.inl ha))
          · exact (s2 i a hi).elim (fun y => .inr (.inl (.inr y))) .inl
        · rcases inT a hb with hb | ⟨i, hi⟩
          · exact (Tm.fr k1 a ha).1 (.inl hb)
          · rcases s2 i a hi with y | ⟨j, hj⟩
            · exact (Tm.fr k1 a ha).1 (.inr y)
            · exact (iv.fr j a hj).1 (.inr (memL ha))
      | al j =>
        obtain ⟨v', e3, r⟩ := i1.sl j t q2
        rw [k1.2] at e3
        cases e3
        refine Rl.toK (fun a _ ha => ?_) (fun a _ ha => ha.imp id fun ⟨i, hi⟩ => .inl ⟨i, hi⟩) _ _ _ (fun a ha hb => ?_) r
        · exact .inr ((inT a ha).imp .inl id)
        · exact (i1.fr j a ha).1 ((inT a hb).imp .inl id)
    refine ⟨os', cO [] oT, i1.weak fun a ha => ?_, Inv.consA (bs := []) (by rw [nu_nil]; exact i2.weak fun a ha => .inl ha) hr .nil (fun a ha => nomatch ha), s1, fun i a ha => ?_, s3⟩
    · rcases ha with ha | ⟨i, hi⟩
      · exact .inl (.inl ha)
      · cases i with
        | zero => cases hi
        | succ i => exact .inr ⟨i, hi⟩
    · cases i with
      | zero => cases ha
      | succ i => exact (s2 i a ha).imp memR id
  | .s :: ms, e :: es, N, ρ, os, vs, as, ts, ρ', iv, ⟨v, ws, bs, cs, e1, e2, k1, k2⟩, q => by
    subst e1 e2
    obtain ⟨t, q2, q⟩ := bnd' q
    obtain ⟨⟨us, ρ2⟩, q1, q⟩ := bnd' q
    cases q
    obtain ⟨x, rfl, rfl⟩ := tk_inv q2
    obtain ⟨os', oT, i1, i2, s1, s2, s3⟩ := cv_ok ms es (Nu N bs) ρ os ws cs us ρ2 (by rw [nu_nu]; exact iv) k2 q1
    have hd : Rl (Ow os (Nu N cs)) F G x.dem v [] := tm_dem (N1 := Nu N cs) (by rw [nu_nu, nu_swap]; exact iv) k1 fun a ha => ha
    have hr : Rl (Ow (cO [] oT) N) (AllO F os') G x.dem v [] := by
      refine Rl.mono (fun _ _ _ => rfl) (fun a ha => .inl ?_) (fun a ha => ?_) _ _ _ (fun a ha => nomatch ha) hd
      · rcases ha with ⟨i, hi⟩ | ha
        · cases i with
          | zero => cases hi
          | succ i => exact (s2 i a hi).elim (fun y => .inr (.inr y)) .inl
        · exact .inr (.inl ha)
      · exact ha.elim .inl fun ⟨i, hi⟩ => .inr (.inl (.inl ⟨i, s1 i a hi⟩))
    refine ⟨os', cO [] oT, i1.weak fun a ha => ?_, Inv.consA (bs := []) (by rw [nu_nil]; exact i2.weak fun a ha => .inl ha) hr .nil (fun a ha => nomatch ha), s1, fun i a ha => ?_, s3⟩
    · rcases ha with ha | ⟨i, hi⟩
      · exact .inl (.inl ha)
      · cases i with
        | zero => cases hi
        | succ i => exact .inr ⟨i, hi⟩
    · cases i with
      | zero => cases ha
      | succ i => exact (s2 i a ha).imp memR id
  | .m i0 :: ms, e :: es, N, ρ, os, vs, as, ts, ρ', iv, ⟨v, ws, bs, cs, e1, e2, k1, k2⟩, q => by
    subst e1 e2
    obtain ⟨⟨t, ρ1⟩, q2, q⟩ := bnd' q
    obtain ⟨⟨us, ρ2⟩, q1, q⟩ := bnd' q
    cases q
    cases e with
    | t x =>
      cases q2
      obtain ⟨os', oT, i1, i2, s1, s2, s3⟩ := cv_ok ms es (Nu N bs) ρ os ws cs us ρ2 (by rw [nu_nu]; exact iv) k2 q1
      have inT : ∀ a, Ow (cO bs oT) N a → Ow os (Nu (Nu N cs) bs) a := fun a ha => by
        rcases ha with ⟨i, hi⟩ | ha
        · cases i with
          | zero => exact .inr (.inr hi)
          | succ i => exact (s2 i a hi).elim (fun y => .inr (.inl (.inr y))) .inl
        · exact .inr (.inl (.inl ha))
      refine ⟨os', cO bs oT, i1.weak fun a ha => ?_, Inv.consA i2 (Rl.mono (fun _ _ _ => rfl) (fun a ha => .inl (inT a ha)) (fun a ha => ha.elim .inl fun ⟨i, hi⟩ => .inr (.inl (.inl ⟨i, s1 i a hi⟩))) _ _ _ (fun _ _ => rfl) (Tm.rl k1)) (Tm.nd k1) (fun a ha => ⟨fun z => (Tm.fr k1 a ha).1 (.inl z), fun z => z.elim (Tm.fr k1 a ha).2 fun ⟨i, hi⟩ => (iv.fr i a (s1 i a hi)).1 (.inr (memL ha))⟩), s1, fun i a ha => ?_, fun i hi => s3 i fun z => hi (List.mem_cons_of_mem _ z)⟩
      · rcases ha with ha | ⟨i, hi⟩
        · exact .inl (.inl ha)
        · cases i with
          | zero => exact .inl (.inr hi)
          | succ i => exact .inr ⟨i, hi⟩
      · cases i with
        | zero => exact .inl (memL ha)
        | succ i => exact (s2 i a ha).imp memR id
    | al j =>
      obtain ⟨rfl, ks⟩ := k1
      have q2 : (if j = i0 then (getT ρ[i0]?).map fun t => (t, ρ.set i0 none) else none) = some (t, ρ1) := q2
      by_cases z : j = i0
      · rw [if_pos z] at q2
        subst z
        obtain ⟨t', q3, q4⟩ := Option.map_eq_some_iff.mp q2
        cases q4
        rw [List.nil_append] at iv
        rw [nu_nil] at k2
        obtain ⟨v', e3, tm, iv2⟩ := iv.take q3
        rw [ks] at e3
        cases e3
        have k2' : TmEs (Nu N (os j)) F σ G (up os j []) es ws cs := k2.reown (fun bs a ha => by
          rcases ha with ⟨i, hi⟩ | (ha | ha) | ha
          · unfold up at hi
            split at hi
            · cases hi
            · exact .inl ⟨i, hi⟩
          · exact .inr (.inl ha)
          · exact .inl ⟨j, ha⟩
          · exact .inr (.inr ha)) fun a ha z => z.elim (k2.fr a ha).1 fun y => (iv.fr j a y).1 (.inr ha)
        obtain ⟨os', oT, i1, i2, s1, s2, s3⟩ := cv_ok ms es (Nu N (os j)) (ρ.set j none) (up os j []) ws cs us ρ2 (by rw [nu_nu, nu_swap, ← nu_nu]; exact iv2) k2' q1
        have upS : ∀ i a, a ∈ up os j [] i → a ∈ os i := fun i a ha => by
          unfold up at ha
          split at ha
          · cases ha
          · exact ha
        have inT : ∀ a, Ow (cO (os j) oT) N a → Ow (up os j []) (Nu (Nu N cs) (os j)) a := fun a ha => by
          rcases ha with ⟨i, hi⟩ | ha
          · cases i with
            | zero => exact .inr (.inr hi)
            | succ i => exact (s2 i a hi).elim (fun y => .inr (.inl (.inr y))) .inl
          · exact .inr (.inl (.inl ha))
        refine ⟨os', cO (os j) oT, i1.weak fun a ha => ?_, Inv.consA i2 (Rl.mono (fun _ _ _ => rfl) (fun a ha => .inl (inT a ha)) (fun a ha => ha.elim .inl fun ⟨i, hi⟩ => .inr (.inl (.inl ⟨i, s1 i a hi⟩))) _ _ _ (fun _ _ => rfl) tm.rl) tm.nd (fun a ha => ⟨fun z => (tm.fr a ha).1 (.inl z), fun z => z.elim (tm.fr a ha).2 fun ⟨i, hi⟩ => (iv2.fr i a (s1 i a hi)).1 (.inr ha)⟩), fun i a ha => upS i a (s1 i a ha), fun i a ha => ?_, fun i hi => ?_⟩
        · rcases ha with ha | ⟨i, hi⟩
          · exact .inl (.inl ha)
          · cases i with
            | zero => exact .inl (.inr hi)
            | succ i => exact .inr ⟨i, hi⟩
        · cases i with
          | zero => exact .inr ⟨j, ha⟩
          | succ i => exact (s2 i a ha).imp memR fun ⟨l, hl⟩ => ⟨l, upS l a hl⟩
        · obtain ⟨h1, h2⟩ := s3 i fun z => hi (List.mem_cons_of_mem _ z)
          have hij : j ≠ i := fun z => hi (by rw [z]; exact List.mem_cons_self ..)
          exact ⟨by rw [h1, getT_set, if_neg hij], by rw [h2, up_ne hij]⟩
      · rw [if_neg z] at q2
        cases q2
def AlOk (σ : St) : List E → List V → Prop
  | .al i :: es, v :: vs => σ[i]? = some (some v) ∧ AlOk σ es vs
  | .t _ :: es, _ :: vs => AlOk σ es vs
  | _, _ => True
theorem TmEs.alOk : ∀ {es : List E} {vs : List V} {N : Nat → Prop} {as : List Nat}, TmEs N F σ G os es vs as → AlOk σ es vs
  | [], [], _, _, _ => trivial
  | [], _ :: _, _, _, h => nomatch h.1
  | e :: es, vs, N, as, ⟨v, ws, bs, cs, e1, e2, k1, k2⟩ => by
    subst e1
    cases e with
    | t x => exact (TmEs.alOk k2 : AlOk σ es ws)
    | al i => exact ⟨k1.2, TmEs.alOk k2⟩
/-- what was changed goes back -/
theorem back_ok {A0 Fc N0 : Nat → Prop} : ∀ (ms : List Md) (es : List E) (vs : List V) (fs : PSt) (oF : Nat → List Nat) (ρ : PSt) (os : Nat → List Nat) (ρ' : PSt), AlOk σ es vs → Inv (AllO N0 oF) F σ G ρ os → vs.length = fs.length → (∀ (j : Nat) f, getT fs[j]? = some f → ∃ v, vs[j]? = some v ∧ Rl A0 Fc G f v (oF j)) → (∀ j, (oF j).Nodup) → (∀ i j a, a ∈ oF i → a ∈ oF j → i = j) → (∀ j a, a ∈ oF j → A0 a ∧ ¬ N0 a ∧ ¬ F a) →
    (∀ i a, a ∈ os i → A0 a ∨ Fc a) → (∀ a, N0 a → A0 a) → (∀ a, F a → Fc a) → back ρ ms es fs = some ρ' →
    ∃ os', Inv N0 F σ G ρ' os' ∧ (∀ i a, a ∈ os' i → a ∈ os i ∨ ∃ j, a ∈ oF j) ∧ ∀ i, i ∉ mdS ms → getT ρ'[i]? = getT ρ[i]? ∧ os' i = os i
  | [], [], vs, fs, oF, ρ, os, ρ', al, iv, hl, hf, nd, dj, fo, hos, hn, hF, q => by
    have q : some ρ = some ρ' := by cases fs <;> exact q
    cases q
    exact ⟨os, iv.weak fun a ha => .inl ha, fun i a h => .inl h, fun _ _ => ⟨rfl, rfl⟩⟩
  | [], _ :: _, vs, fs, oF, ρ, os, ρ', al, iv, hl, hf, nd, dj, fo, hos, hn, hF, q => by cases fs <;> cases q
  | .r :: _, [], vs, fs, oF, ρ, os, ρ', al, iv, hl, hf, nd, dj, fo, hos, hn, hF, q => by cases fs <;> cases q
  | .s :: _, [], vs, fs, oF, ρ, os, ρ', al, iv, hl, hf, nd, dj, fo, hos, hn, hF, q => by cases fs <;> cases q
  | .f :: _, [], vs, fs, oF, ρ, os, ρ', al, iv, hl, hf, nd, dj, fo, hos, hn, hF, q => by cases fs <;> cases q
  | .m _ :: _, [], vs, fs, oF, ρ, os, ρ', al, iv, hl, hf, nd, dj, fo, hos, hn, hF, q => by cases fs <;> cases q
  | m :: ms, e :: es, vs, [], oF, ρ, os, ρ', al, iv, hl, hf, nd, dj, fo, hos, hn, hF, q => by
    cases m <;> first | cases q | (cases e <;> cases q)
  | m :: ms, e :: es, [], f :: fs, oF, ρ, os, ρ', al, iv, hl, hf, nd, dj, fo, hos, hn, hF, q => by cases hl
  | m :: ms, e :: es, v :: vs, f :: fs, oF, ρ, os, ρ', al, iv, hl, hf, nd, dj, fo, hos, hn, hF, q => by
    have al' : AlOk σ es vs := by
      cases e with
      | t x => exact al
      | al i => exact al.2
    have hl' : vs.length = fs.length := Nat.succ.inj hl
    have hf' : ∀ (j : Nat) f, getT fs[j]? = some f → ∃ v, vs[j]? = some v ∧ Rl A0 Fc G f v (oF (j + 1)) := fun j g hg => hf (j + 1) g hg
    have dj' : ∀ i j a, a ∈ oF (i + 1) → a ∈ oF (j + 1) → i = j := fun i j a h1 h2 => Nat.succ.inj (dj _ _ a h1 h2)
    have plain : back ρ ms es fs = some ρ' → ∃ os', Inv N0 F σ G ρ' os' ∧ (∀ i a, a ∈ os' i → a ∈ os i ∨ ∃ j, a ∈ oF j) ∧ ∀ i, i ∉ mdS ms → getT ρ'[i]? = getT ρ[i]? ∧ os' i = os i := fun q => by
      obtain ⟨os', h1, h2, h3⟩ := back_ok ms es vs fs (fun j => oF (j + 1)) ρ os ρ' al' (iv.weak fun a ha => ha.imp id fun ⟨j, hj⟩ => ⟨j + 1, hj⟩) hl' hf' (fun j => nd _) dj' (fun j a ha => fo _ a ha) hos hn hF q
      exact ⟨os', h1, fun i a ha => (h2 i a ha).imp id fun ⟨j, hj⟩ => ⟨j + 1, hj⟩, h3⟩
    cases m with
    | r => exact plain q
    | s => exact plain q
    | f => exact plain q
    | m i0 =>
      cases e with
      | t x =>
        obtain ⟨os', h1, h2, h3⟩ := plain q
        exact ⟨os', h1, h2, fun i hi => h3 i fun z => hi (List.mem_cons_of_mem _ z)⟩
      | al l =>
        have q : (if l = i0 then (getT (some f)).bind fun t => if t.nob = true then back (ρ.set i0 (some t)) ms es fs else none else none) = some ρ' := q
        by_cases z : l = i0
        · rw [if_pos z] at q
          subst z
          obtain ⟨t, q1, q⟩ := bnd' q
          split at q
          · rename_i nb
            have q0 : getT (f :: fs)[0]? = some t := q1
            obtain ⟨v', e1, r⟩ := hf 0 t q0
            cases e1
            have hσ : σ[l]? = some (some v) := al.1
            have hl2 : l < ρ.length := by rw [← iv.ln]; exact (List.getElem?_eq_some_iff.mp hσ).1
            have iv1 : Inv (Nu (AllO N0 fun j => oF (j + 1)) (oF 0)) F σ G ρ os := iv.weak fun a ha => by
              rcases ha with (ha | ⟨j, hj⟩) | ha
              · exact .inl ha
              · exact .inr ⟨j + 1, hj⟩
              · exact .inr ⟨0, ha⟩
            have tm : Tm (AllO N0 fun j => oF (j + 1)) F G os t v (oF 0) := by
              refine ⟨Rl.nobM (fun _ _ _ _ => rfl) (fun a ha => ?_) (fun a ha => .inl (hF a ha)) _ _ _ nb (fun _ _ => rfl) r, nd 0, fun a ha => ⟨fun z => ?_, (fo 0 a ha).2.2⟩⟩
              · rcases ha with ⟨i, hi⟩ | (ha | ⟨j, hj⟩) | ha
                · exact (hos i a hi).imp id .inl
                · exact .inl (hn a ha)
                · exact .inl (fo _ a hj).1
                · exact .inl (fo _ a ha).1
              · rcases z with z | ⟨j, hj⟩
                · exact (fo 0 a ha).2.1 z
                · exact nomatch dj _ _ a ha hj
            have pu := iv1.put tm hl2
            rw [set_same hσ] at pu
            obtain ⟨os', h1, h2, h3⟩ := back_ok ms es vs fs (fun j => oF (j + 1)) (ρ.set l (some t)) (up os l (oF 0)) ρ' al' pu hl' hf' (fun j => nd _) dj' (fun j a ha => fo _ a ha) (fun i a ha => by
              unfold up at ha
              split at ha
              · exact .inl (fo _ a ha).1
              · exact hos i a ha) hn hF q
            refine ⟨os', h1, fun i a ha => ?_, fun i hi => ?_⟩
            · rcases h2 i a ha with y | ⟨j, hj⟩
              · unfold up at y
                split at y
                · exact .inr ⟨0, y⟩
                · exact .inl y
              · exact .inr ⟨j + 1, hj⟩
            · obtain ⟨g1, g2⟩ := h3 i fun z => hi (List.mem_cons_of_mem _ z)
              have hij : l ≠ i := fun z => hi (by rw [z]; exact List.mem_cons_self ..)
              exact ⟨by rw [g1, getT_set, if_neg hij], by rw [g2, up_ne hij]⟩
          · cases q
        · rw [if_neg z] at q
          cases q
theorem Inv.appA {N F : Nat → Prop} (h : Inv N F (vs.map some) G (ts.map some) os) (hd : dvs.all isAt = true) : Inv N F ((vs ++ dvs).map some) G ((ts ++ dvs.map Tr.av).map some) os := by
  have hl : vs.length = ts.length := by have := h.ln; simpa using this
  refine ⟨fun i t e => ?_, fun i e => h.em i ?_, h.nd, h.dj, h.fr, by simp [hl], h.bn, h.bf⟩
  · rw [getT_map] at e
    by_cases q : i < ts.length
    · rw [List.getElem?_append_left q] at e
      obtain ⟨v, e1, r⟩ := h.sl i t (by rw [getT_map]; exact e)
      refine ⟨v, ?_, r⟩
      rw [List.map_append, List.getElem?_append_left (by rw [List.length_map, hl]; exact q)]
      exact e1
    · rw [List.getElem?_append_right (Nat.le_of_not_lt q), List.getElem?_map] at e
      obtain ⟨w, e1, rfl⟩ := Option.map_eq_some_iff.mp e
      refine ⟨w, ?_, rfl, List.all_eq_true.mp hd w (List.mem_of_getElem? e1), h.em i ?_⟩
      · rw [List.map_append, List.getElem?_append_right (by rw [List.length_map, hl]; exact Nat.le_of_not_lt q), List.length_map, hl, List.getElem?_map, e1]
        rfl
      · rw [getT_map]
        exact List.getElem?_eq_none (Nat.le_of_not_lt q)
  · rw [getT_map] at e ⊢
    by_cases q : i < ts.length
    · rwa [List.getElem?_append_left q] at e
    · exact List.getElem?_eq_none (Nat.le_of_not_lt q)
theorem TmEs.len : ∀ {es : List E} {vs : List V} {N : Nat → Prop} {as : List Nat}, TmEs N F σ G os es vs as → vs.length = es.length
  | [], vs, N, as, h => by rw [h.1]; rfl
  | e :: es, vs, N, as, ⟨v, ws, bs, cs, e1, e2, k1, k2⟩ => by
    subst e1
    exact congrArg (· + 1) (TmEs.len k2)
theorem AlOk.app (ws : List V) : ∀ {es : List E} {vs : List V}, AlOk σ es vs → vs.length = es.length → AlOk σ es (vs ++ ws)
  | [], [], _, _ => by cases ws <;> trivial
  | .t x :: es, v :: vs, h, l => AlOk.app (es := es) ws h (Nat.succ.inj l)
  | .al i :: es, v :: vs, h, l => ⟨h.1, AlOk.app (es := es) ws h.2 (Nat.succ.inj l)⟩
  | [], _ :: _, _, l => by cases l
  | _ :: _, [], _, l => by cases l
theorem eo_fn {f : FL} {g : PF} {ms : List Md} {dvs : List V} {ma : MA} {pa : PA} (hf : FOk f g) (ha : AOk M ma pa) (hd : dvs.all isAt = true := by rfl) : EOk (M ++ mdS ms) (eFn f dvs ma) (pFn g ms dvs pa) := fun N F σ G ρ os e ρ' iv q => by
  obtain ⟨⟨es, ρ1⟩, q1, q⟩ := bnd' q
  obtain ⟨⟨ts, ρ2⟩, q2, q⟩ := bnd' q
  obtain ⟨⟨t, fs⟩, q3, q⟩ := bnd' q
  obtain ⟨ρ3, q4, q⟩ := bnd' q
  cases q
  obtain ⟨vs, G1, os1, as1, m1, r1, k1⟩ := ha N F σ G ρ os es _ iv q1
  obtain ⟨os', oA, c1, c2, s1, s2, s3⟩ := cv_ok ms es N ρ1 os1 vs as1 ts ρ2 r1.inv k1 q2
  have c2' := c2.appA hd
  obtain ⟨v, G2, oF, as, m2, hlen, frm, sbF, sbA, iF, tm, nob⟩ := hf N (AllO F os') G1 (vs ++ dvs) (ts ++ dvs.map Tr.av) oA t fs c2' q3
  -- the caller's slots behind the call
  have oldA : ∀ i a, a ∈ os' i → (∀ j, a ∉ oA j) ∧ a < G1.length := fun i a h => ⟨fun j hj => (c1.fr i a h).1 (.inr ⟨j, hj⟩), c1.lt i a h⟩
  have notnew : ∀ i a, a ∈ os' i → a ∉ as ∧ ∀ j, a ∉ oF j := fun i a h => ⟨fun z => (sbA a z).elim (fun ⟨j, hj⟩ => (oldA i a h).1 j hj) fun y => absurd (oldA i a h).2 (Nat.not_lt.mpr y), fun j z => (sbF j a z).elim (fun ⟨l, hl⟩ => (oldA i a h).1 l hl) fun y => absurd (oldA i a h).2 (Nat.not_lt.mpr y)⟩
  have c3 : Inv (AllO (Nu N as) oF) F σ G2 ρ2 os' := by
    refine ⟨fun i u e => ?_, c1.em, c1.nd, c1.dj, fun i a h => ⟨fun z => ?_, (c1.fr i a h).2⟩, c1.ln, fun a h => ?_, fun a h => Nat.lt_of_lt_of_le (c1.bf a h) hlen⟩
    · obtain ⟨w, e1, r⟩ := c1.sl i u e
      refine ⟨w, e1, Rl.mono (fun a la h => frm a la fun j hj => h (.inr (.inr ⟨j, hj⟩))) (fun a h => ?_) (fun a h => .inl h) _ _ _ (fun a h => frm a (oldA i a h).2 (oldA i a h).1) r⟩
      rcases h with h | (h | h) | ⟨j, h⟩
      · exact .inl (.inl h)
      · exact .inl (.inr (.inl h))
      · exact (sbA a h).elim (fun ⟨j, hj⟩ => .inl (.inr (.inr ⟨j, hj⟩))) .inr
      · exact (sbF j a h).elim (fun ⟨j, hj⟩ => .inl (.inr (.inr ⟨j, hj⟩))) .inr
    · rcases z with (z | z) | ⟨j, z⟩
      · exact (c1.fr i a h).1 (.inl z)
      · exact (notnew i a h).1 z
      · exact (notnew i a h).2 j z
    · rcases h with (h | h) | ⟨j, h⟩
      · exact Nat.lt_of_lt_of_le (c1.bn a (.inl h)) hlen
      · exact Rl.lt _ _ _ tm.rl a h
      · exact iF.lt j a h
  have al := AlOk.app dvs k1.alOk k1.len
  have lF : (vs ++ dvs).length = fs.length := by have := iF.ln; simpa using this
  obtain ⟨os2, b1, b2, b3⟩ := back_ok (A0 := Ow oF (Nu N as)) (Fc := AllO F os') (N0 := Nu N as) ms es (vs ++ dvs) fs oF ρ2 os' _ al c3 lF (fun j u hj => by
    obtain ⟨w, e1, r⟩ := iF.sl j u hj
    refine ⟨w, ?_, r⟩
    rw [List.getElem?_map] at e1
    obtain ⟨w', e2, e3⟩ := Option.map_eq_some_iff.mp e1
    cases e3
    exact e2) iF.nd iF.dj (fun j a h => ⟨.inl ⟨j, h⟩, (iF.fr j a h).1, fun z => (iF.fr j a h).2 (.inl z)⟩) (fun i a h => .inr (.inr ⟨i, h⟩)) (fun a h => .inr h) (fun a h => .inl h) q4
  -- all changes
  have asO : ∀ a ∈ as1, (∃ j, a ∈ os j) ∨ G.length ≤ a := r1.sub
  have oAO : ∀ i a, a ∈ oA i → (∃ j, a ∈ os j) ∨ G.length ≤ a := fun i a h => (s2 i a h).elim (asO a) fun ⟨j, hj⟩ => r1.chg.sub j a hj
  have up1 : ∀ {a : Nat}, G1.length ≤ a → G.length ≤ a := fun h => Nat.le_trans r1.chg.len h
  refine ⟨v, G2, os2, as, ?_, ⟨⟨Nat.le_trans r1.chg.len hlen, fun a la h => ?_, fun i a h => ?_, fun i hi => ?_⟩, fun a h => (sbA a h).elim (fun ⟨j, hj⟩ => oAO j a hj) fun y => .inr (up1 y), b1⟩, ?_, tm.nd, fun a h => ⟨(tm.fr a h).1, fun z => (tm.fr a h).2 (.inl z)⟩⟩
  · show (ma σ G).bind _ = _
    rw [m1]
    exact m2
  · rw [frm a (Nat.lt_of_lt_of_le la r1.chg.len) fun j hj => (oAO j a hj).elim (fun ⟨l, hl⟩ => h l hl) fun y => absurd la (Nat.not_lt.mpr y)]
    exact r1.chg.frm a la h
  · rcases b2 i a h with y | ⟨j, y⟩
    · exact r1.chg.sub i a (s1 i a y)
    · exact (sbF j a y).elim (fun ⟨l, hl⟩ => oAO l a hl) fun y => .inr (up1 y)
  · obtain ⟨x1, x2, x3⟩ := r1.chg.mt i fun z => hi (memL z)
    obtain ⟨y1, y2⟩ := s3 i fun z => hi (memR z)
    obtain ⟨z1, z2⟩ := b3 i fun z => hi (memR z)
    refine ⟨z1.trans (y1.trans x1), z2.trans (y2.trans x2), fun a h => ?_⟩
    have h' : a ∈ os' i := by rw [y2, x2]; exact h
    rw [frm a (oldA i a h').2 (oldA i a h').1]
    exact x3 a h
  · refine Rl.nobM (fun _ _ _ _ => rfl) (fun a h => ?_) (fun a h => .inl (.inl h)) _ _ _ nob (fun _ _ => rfl) tm.rl
    rcases h with ⟨i, h⟩ | h
    · rcases b2 i a h with y | ⟨j, y⟩
      · exact .inr (.inl (.inr ⟨i, y⟩))
      · exact .inl (.inl ⟨j, y⟩)
    · exact .inl (.inr h)
end
end Pl

/-! Pl, part 9: operators, built-ins, methods on trees. -/
namespace Pl
open PySem L2 Zl
/-! ### reading -/
def keyP : Key → PyData
  | .inl i => .int i
  | .inr s => .str s
def rdT : Nat → Tr → Option PyData
  | _, .av .non => some .none
  | _, .av (.bl b) => some (.bool b)
  | _, .av (.int i) => some (.int i)
  | _, .av (.str x) => some (.str x)
  | k + 1, .nd _ .lst xs => (mapO (rdT k) xs).bind fun ds => some (.list ds)
  | k + 1, .nd _ .tup xs => (mapO (rdT k) xs).bind fun ds => some (.tuple ds)
  | k + 1, .nd _ (.dct ks) xs => (mapO (rdT k) xs).bind fun ds => some (.dict ((ks.map keyP).zip ds))
  | _, _ => none
section
variable {A F : Nat → Prop} {G : Hz}
theorem mapO_rls {α : Type} {f : Tr → Option α} {g : V → Option α} : ∀ {ts : List Tr} {vs : List V} {as : List Nat} {ds : List α}, (∀ t v bs d, Rl A F G t v bs → f t = some d → g v = some d) → Rls A F G ts vs as → mapO f ts = some ds → mapO g vs = some ds
  | [], vs, as, ds, h, r, q => by
    rw [r.1]
    exact q
  | t :: ts, vs, as, ds, h, r, q => by
    obtain ⟨v, ws, bs, cs, rfl, rfl, h1, h2⟩ := r
    obtain ⟨d, q1, q⟩ := bnd' q
    obtain ⟨es, q2, q⟩ := bnd' q
    cases q
    show (g v).bind _ = _
    rw [h t v bs d h1 q1]
    show (mapO g ws).bind _ = _
    rw [mapO_rls h h2 q2]
    rfl
theorem mapO_zip {f : V → Option PyData} : ∀ (ks : List Key) (vs : List V) (ds : List PyData), ks.length = vs.length → mapO f vs = some ds → mapO (fun p : Key × V => (f p.2).bind fun d => some ((match p.1 with | .inl i => PyData.int i | .inr s => PyData.str s), d)) (ks.zip vs) = some ((ks.map keyP).zip ds)
  | [], [], ds, _, q => by cases q; rfl
  | [], _ :: _, _, l, _ => by cases l
  | _ :: _, [], _, l, _ => by cases l
  | k :: ks, v :: vs, ds, l, q => by
    obtain ⟨d, q1, q⟩ := bnd' q
    obtain ⟨es, q2, q⟩ := bnd' q
    cases q
    show ((f v).bind _).bind _ = _
    rw [q1]
    show (mapO _ (ks.zip vs)).bind _ = _
    rw [mapO_zip ks vs es (Nat.succ.inj l) q2]
    cases k <;> rfl
theorem rdT_ok : ∀ (k : Nat) (t : Tr) (v : V) (as : List Nat) (d : PyData), Rl A F G t v as → rdT k t = some d → rdD k G v = some d
  | k, .av w, v, as, d, h, q => by
    obtain ⟨rfl, _, _⟩ := h
    cases v <;> first | (cases k <;> exact q) | (cases k <;> cases q)
  | 0, .nd f kd xs, v, as, d, h, q => by cases kd <;> cases q
  | k + 1, .nd f kd xs, v, as, d, h, q => by
    obtain ⟨a, vs, bs, rfl, e, l, r, fl⟩ := h
    cases kd with
    | lst =>
      obtain ⟨ds, q1, q⟩ := bnd' q
      cases q
      show (match G[a]? with | some (.lst xs) => (mapO (rdD k G) xs).bind fun ds => some (PyData.list ds) | some (.tup xs) => _ | some (.dK kvs) => _ | _ => none) = _
      rw [e]
      show (mapO (rdD k G) vs).bind _ = _
      rw [mapO_rls (fun t v bs d => rdT_ok k t v bs d) r q1]
      rfl
    | tup =>
      obtain ⟨ds, q1, q⟩ := bnd' q
      cases q
      show (match G[a]? with | some (.lst xs) => _ | some (.tup xs) => (mapO (rdD k G) xs).bind fun ds => some (PyData.tuple ds) | some (.dK kvs) => _ | _ => none) = _
      rw [e]
      show (mapO (rdD k G) vs).bind _ = _
      rw [mapO_rls (fun t v bs d => rdT_ok k t v bs d) r q1]
      rfl
    | dct ks =>
      obtain ⟨ds, q1, q⟩ := bnd' q
      cases q
      show (match G[a]? with | some (.lst xs) => _ | some (.tup xs) => _ | some (.dK kvs) => (mapO (fun (p : Key × V) => (rdD k G p.2).bind fun d => some ((match p.1 with | .inl i => PyData.int i | .inr s => PyData.str s), d)) kvs).bind fun ds => some (PyData.dict ds) | _ => none) = _
      rw [e]
      show (mapO _ (ks.zip vs)).bind _ = _
      rw [mapO_zip ks vs ds l (mapO_rls (fun t v bs d => rdT_ok k t v bs d) r q1)]
      rfl
    | fz => cases q
    | st ns n => cases q
    | ex k => cases q
    | dt kvs => cases q
    | ld a kvs => cases q
    | lK a kvs => cases q
end
/-! ### atoms -/
def A2 (f : F2) : P2 := fun t1 t2 => match t1, t2 with
  | .av x, .av y => (f x y []).bind fun p => if isAt p.1 = true then some (.av p.1) else none
  | _, _ => none
def A1 (f : F1) : P1 := fun t1 => match t1 with
  | .av x => (f x []).bind fun p => if isAt p.1 = true then some (.av p.1) else none
  | _ => none
def Flat2 (f : F2) : Prop := ∀ (x y : V) (G : Hz) (v : V) (G' : Hz), isAt x = true → isAt y = true → f x y [] = some (v, G') → f x y G = some (v, G)
theorem op_A2 {f : F2} (h : Flat2 f) : Op2 f (A2 f) := fun A F G x y t1 t2 as bs t r1 r2 q => by
  unfold A2 at q
  split at q
  · obtain ⟨⟨v, G'⟩, q1, q⟩ := bnd' q
    split at q
    · rename_i hv
      cases q
      obtain ⟨rfl, h1, _⟩ := r1
      obtain ⟨rfl, h2, _⟩ := r2
      exact ⟨v, G, h _ _ G v G' h1 h2 q1, nv_old ⟨rfl, hv, rfl⟩⟩
    · cases q
  · cases q
theorem fl_cmp {c : Int → Int → Bool} {f : F2} (hf : ∀ x y G, f x y G = match x, y with | .int i, .int j => some (.bl (c i j), G) | _, _ => none) : Flat2 f := fun x y G v G' h1 h2 q => by
  rw [hf] at q ⊢
  cases x <;> cases y <;> first | (cases q; rfl) | cases q
theorem fl_lt : Flat2 cLt := fl_cmp (c := fun i j => decide (i < j)) fun x y G => by unfold cLt; split <;> simp_all
theorem fl_gt : Flat2 cGt := fl_cmp (c := fun i j => decide (j < i)) fun x y G => by unfold cGt; split <;> simp_all
theorem fl_int {c : Int → Int → Option Int} {f : F2} (hf : ∀ x y G, f x y G = match x, y with | .int i, .int j => (c i j).map fun k => (.int k, G) | _, _ => none) : Flat2 f := fun x y G v G' h1 h2 q => by
  rw [hf] at q ⊢
  cases x <;> cases y <;> first | cases q | skip
  rename_i i j
  obtain ⟨k, q1, q2⟩ := Option.map_eq_some_iff.mp (show (c i j).map (fun k => (V.int k, ([] : Hz))) = some (v, G') from q)
  cases q2
  show (c i j).map _ = _
  rw [q1]
  rfl
theorem fl_sub : Flat2 bSub := fl_int (c := fun i j => some (i - j)) fun x y G => by unfold bSub; split <;> simp_all
theorem fl_mod : Flat2 bMod := fl_int (c := fun i j => if j ≠ 0 then some (i.fmod j) else none) fun x y G => by
  cases x <;> cases y <;> first | rfl | (unfold bMod; (try dsimp only); split <;> rfl)
theorem fl_div : Flat2 bDiv := fl_int (c := fun i j => if j ≠ 0 ∧ smallN j = true then some (i.fdiv j) else none) fun x y G => by
  cases x <;> cases y <;> first | rfl | (unfold bDiv; (try dsimp only); split <;> rfl)
theorem fl_pow : Flat2 bPow := fl_int (c := fun i j => if smallN i = true ∧ 0 ≤ j ∧ j ≤ 1000 then some (i ^ j.toNat) else none) fun x y G => by
  cases x <;> cases y <;> first | rfl | (unfold bPow; (try dsimp only); split <;> rfl)
theorem fl_addA (x y : V) (G : Hz) (v : V) (G' : Hz) (h1 : isAt x = true) (h2 : isAt y = true) (q : bAdd x y [] = some (v, G')) : bAdd x y G = some (v, G) := by
  cases x <;> cases y <;> first | cases q | (cases h1) | (cases h2) | skip
  · rfl
  · unfold bAdd at q ⊢
    dsimp only at q ⊢
    split at q
    · cases q
      rw [if_pos ‹_›]
    · cases q
theorem fl_mulA (x y : V) (G : Hz) (v : V) (G' : Hz) (h1 : isAt x = true) (h2 : isAt y = true) (q : bMul x y [] = some (v, G')) : bMul x y G = some (v, G) := by
  cases x <;> cases y <;> first | cases q | (cases h1) | (cases h2) | skip
  unfold bMul at q ⊢
  dsimp only at q ⊢
  split at q
  · cases q
    rw [if_pos ‹_›]
  · cases q
/-! ### lists -/
def shL (xs : List Tr) : Bool := xs.all Tr.sh
def newL (xs : List Tr) : Option Tr := if shL xs = true ∧ xs.length ≤ sizeLine then some (.nd .own .lst xs) else none
def pAdd : P2 := fun t1 t2 => match t1, t2 with
  | .nd _ .lst xs, .nd _ .lst ys => newL (xs ++ ys)
  | t1, t2 => A2 bAdd t1 t2
section
variable {A F : Nat → Prop} {G : Hz}
theorem newL_inv {xs : List Tr} {t : Tr} (h : newL xs = some t) : shL xs = true ∧ xs.length ≤ sizeLine ∧ t = .nd .own .lst xs := by
  unfold newL at h
  split at h
  · cases h; exact ⟨(‹_ ∧ _› : _).1, (‹_ ∧ _› : _).2, rfl⟩
  · cases h
theorem nv_list {xs : List Tr} {vs : List V} (h : Rls A F G xs vs []) : NewV A F G (.ref G.length) (G ++ [.lst vs]) (.nd .own .lst xs) := .inr ⟨.lst, vs, xs, rfl, rfl, rfl, trivial, h⟩
theorem Rl.lst {f : Fl} {xs : List Tr} {v : V} {as : List Nat} (h : Rl A F G (.nd f .lst xs) v as) : ∃ a vs bs, v = .ref a ∧ G[a]? = some (.lst vs) ∧ Rls A F G xs vs bs := by
  obtain ⟨a, vs, bs, e1, e2, _, r, _⟩ := h
  exact ⟨a, vs, bs, e1, e2, r⟩
theorem Rls.sh0 {xs : List Tr} {vs : List V} {as : List Nat} (h : Rls A F G xs vs as) (s : shL xs = true) : Rls A F G xs vs [] := by
  have := h.sh s
  subst this
  exact h
theorem op_add : Op2 bAdd pAdd := fun A F G x y t1 t2 as bs t r1 r2 q => by
  unfold pAdd at q
  split at q
  · obtain ⟨s, l, rfl⟩ := newL_inv q
    obtain ⟨a, us, cs, rfl, e1, h1⟩ := r1.lst
    obtain ⟨b, ws, ds, rfl, e2, h2⟩ := r2.lst
    have h := (h1.append h2).sh0 s
    have hl := h.length
    refine ⟨.ref G.length, G ++ [.lst (us ++ ws)], ?_, nv_list h⟩
    show (match G[a]?, G[b]? with | some (.lst xs), some (.lst ys) => if xs.length + ys.length ≤ sizeLine then alloc (.lst (xs ++ ys)) G else none | _, _ => none) = _
    rw [e1, e2]
    show (if us.length + ws.length ≤ sizeLine then alloc (.lst (us ++ ws)) G else none) = _
    rw [if_pos (by rw [← List.length_append, hl]; exact l)]
    rfl
  · exact op_A2 (f := bAdd) fl_addA A F G x y t1 t2 as bs t r1 r2 q
def pMul : P2 := fun t1 t2 => match t1, t2 with
  | .nd _ .lst xs, .av (.int k) => if k.natAbs ≤ 1000000 then newL (List.replicate k.toNat xs).flatten else none
  | t1, t2 => A2 bMul t1 t2
theorem Rls.rep {xs : List Tr} {vs : List V} (h : Rls A F G xs vs []) : ∀ n : Nat, Rls A F G (List.replicate n xs).flatten (List.replicate n vs).flatten []
  | 0 => ⟨rfl, rfl⟩
  | n + 1 => by
    rw [List.replicate_succ, List.replicate_succ, List.flatten_cons, List.flatten_cons]
    exact h.append (h.rep n)
theorem shL_rep {xs : List Tr} : ∀ {n : Nat}, shL (List.replicate n xs).flatten = true → n = 0 ∨ shL xs = true
  | 0, _ => .inl rfl
  | n + 1, h => .inr (by
    rw [List.replicate_succ, List.flatten_cons] at h
    unfold shL at h ⊢
    rw [List.all_append, Bool.and_eq_true] at h
    exact h.1)
theorem op_mul : Op2 bMul pMul := fun A F G x y t1 t2 as bs t r1 r2 q => by
  unfold pMul at q
  split at q
  · rename_i f xs k
    split at q
    · rename_i hk
      obtain ⟨s, l, rfl⟩ := newL_inv q
      obtain ⟨a, us, cs, rfl, e1, h1⟩ := r1.lst
      obtain ⟨rfl, _, _⟩ := r2
      have hl := h1.length
      have hr : Rls A F G (List.replicate k.toNat xs).flatten (List.replicate k.toNat us).flatten [] := by
        rcases shL_rep s with z | z
        · rw [z]; exact ⟨rfl, rfl⟩
        · exact (h1.sh0 z).rep _
      have b1 : -(2 ^ 63) ≤ k := by
        have : (-(2 ^ 63) : Int) ≤ -1000000 := by decide
        omega
      have b2 : k < 2 ^ 63 := by
        have : (1000000 : Int) < 2 ^ 63 := by decide
        omega
      have hlen : us.length * k.toNat ≤ sizeLine := by
        have e : ((List.replicate k.toNat us).flatten).length = us.length * k.toNat := by simp [Nat.mul_comm]
        rw [← e, hr.length]
        exact l
      refine ⟨.ref G.length, G ++ [.lst (List.replicate k.toNat us).flatten], ?_, nv_list hr⟩
      show (match G[a]? with | some (.lst xs) => if -(2 ^ 63) ≤ k ∧ k < 2 ^ 63 ∧ xs.length * k.toNat ≤ sizeLine then alloc (.lst (List.replicate k.toNat xs).flatten) G else none | _ => none) = _
      rw [e1]
      dsimp only
      rw [if_pos ⟨b1, b2, hlen⟩]
      rfl
    · cases q
  · exact op_A2 (f := bMul) fl_mulA A F G x y t1 t2 as bs t r1 r2 q
/-! ### == and in -/
def eqD (neg : Bool) (t1 t2 : Tr) : Option Tr := match rdT dep t1, rdT dep t2 with
  | some d, some e => if SeqAt.shaped d = true ∧ SeqAt.shaped e = true then some (.av (.bl (neg != PyData.eqv d e))) else none
  | _, _ => none
def scT : Tr → Tr → Option Bool
  | .av x, .av y => if scal x y = true then some (decide (x = y)) else none
  | _, _ => none
def pEqG (neg : Bool) : P2 := fun t1 t2 => match scT t1 t2 with
  | some b => some (.av (.bl (neg != b)))
  | none => eqD neg t1 t2
theorem scT_none {x y : V} {t1 t2 : Tr} {as bs : List Nat} (r1 : Rl A F G t1 x as) (r2 : Rl A F G t2 y bs) (h : scT t1 t2 = none) : ¬ scal x y = true := by
  cases t1 with
  | av w =>
    cases t2 with
    | av w2 =>
      obtain ⟨rfl, _, _⟩ := r1
      obtain ⟨rfl, _, _⟩ := r2
      intro z
      have h : (if scal x y = true then some (decide (x = y)) else none) = none := h
      rw [if_pos z] at h
      cases h
    | nd f k xs =>
      obtain ⟨b, vs, cs, rfl, _⟩ := r2
      cases x <;> exact fun z => nomatch z
  | nd f k xs =>
    obtain ⟨a, vs, cs, rfl, _⟩ := r1
    cases y <;> exact fun z => nomatch z
theorem op_eqG {neg : Bool} {f : F2} (hf : ∀ x y G, f x y G = if scal x y = true then some (.bl (neg != decide (x = y)), G) else match rdD dep G x, rdD dep G y with | some d, some e => if SeqAt.shaped d = true ∧ SeqAt.shaped e = true then some (.bl (neg != PyData.eqv d e), G) else none | _, _ => none) : Op2 f (pEqG neg) := fun A F G x y t1 t2 as bs t r1 r2 q => by
  unfold pEqG at q
  split at q
  · rename_i b hb
    cases q
    cases t1 with
    | av w =>
      cases t2 with
      | av w2 =>
        obtain ⟨rfl, _, _⟩ := r1
        obtain ⟨rfl, _, _⟩ := r2
        have hb : (if scal x y = true then some (decide (x = y)) else none) = some b := hb
        split at hb
        · rename_i hs
          cases hb
          exact ⟨_, G, by rw [hf, if_pos hs], nv_old ⟨rfl, rfl, rfl⟩⟩
        · cases hb
      | nd _ _ _ => cases hb
    | nd _ _ _ => cases hb
  · rename_i hn
    have hs := scT_none r1 r2 hn
    unfold eqD at q
    split at q
    · rename_i d e hd he
      split at q
      · rename_i hsh
        cases q
        exact ⟨_, G, by rw [hf, if_neg hs, rdT_ok _ _ _ _ _ r1 hd, rdT_ok _ _ _ _ _ r2 he]; dsimp only; rw [if_pos hsh], nv_old ⟨rfl, rfl, rfl⟩⟩
      · cases q
    · cases q
def pEq : P2 := pEqG false
def pNe : P2 := pEqG true
theorem op_eq : Op2 cEq pEq := op_eqG fun x y G => by
  unfold cEq
  simp only [Bool.false_bne] <;> rfl
theorem op_ne : Op2 cNe pNe := op_eqG fun x y G => by
  unfold cNe
  simp only [Bool.true_bne] <;> rfl
def avs : List Tr → Option (List V) := mapO atT
theorem avs_ok {xs : List Tr} {vs us : List V} {as : List Nat} (r : Rls A F G xs vs as) (h : avs xs = some us) : vs = us := by
  have := mapO_rls (g := fun v => some v) (fun t v bs d r q => by
    cases t with
    | av w => cases q; rw [r.1]
    | nd _ _ _ => cases q) r h
  have id : ∀ ws : List V, mapO (fun v => some v) ws = some ws := fun ws => by
    induction ws with
    | nil => rfl
    | cons w ws ih => show (mapO _ ws).bind _ = _; rw [ih]; rfl
  rw [id] at this
  exact Option.some.inj this
def inFl (neg : Bool) (x : V) (us : List V) : Option Tr := if flatV x = true ∧ us.all flatV = true then some (.av (.bl (neg != inV x us))) else none
def hasK (ks : List Key) (k : Key) : Bool := ks.any fun k' => decide (k' = k)
def inK (neg : Bool) (ks : List Key) (k : Key) : Option Tr := some (.av (.bl (neg != hasK ks k)))
def pIn (neg : Bool) : P2 := fun t1 t2 => match t1, t2 with
  | .av x, .nd _ .lst xs => (avs xs).bind (inFl neg x)
  | .av x, .nd _ .tup xs => (avs xs).bind (inFl neg x)
  | .av x, .nd _ (.dct ks) _ => (keyOf x).bind (inK neg ks)
  | _, _ => none
theorem valV_zip_some (k : Key) : ∀ (ks : List Key) (vs : List V), ks.length = vs.length → (valV (ks.zip vs) k).isSome = hasK ks k
  | [], [], _ => rfl
  | [], _ :: _, l => by cases l
  | _ :: _, [], l => by cases l
  | k' :: ks, v :: vs, l => by
    have ih := valV_zip_some k ks vs (Nat.succ.inj l)
    unfold hasK at ih ⊢
    by_cases e : k' = k
    · rw [List.zip_cons_cons, valV_pos e, List.any_cons, decide_eq_true e]
      rfl
    · rw [List.zip_cons_cons, valV_neg e, ih, List.any_cons, decide_eq_false e]
      rfl
theorem op_in (neg : Bool) : Op2 (cInG neg) (pIn neg) := fun A F G x y t1 t2 as bs t r1 r2 q => by
  have lst : ∀ (f : Fl) (k : Kd) (xs : List Tr) (w : V), (k = .lst ∨ k = .tup) → t1 = .av w → t2 = .nd f k xs → (avs xs).bind (inFl neg w) = some t → ∃ v G', cInG neg x y G = some (v, G') ∧ NewV A F G v G' t := by
    rintro f k xs w hk rfl rfl q
    obtain ⟨us, q1, q⟩ := bnd' q
    unfold inFl at q
    split at q
    · rename_i hfl
      cases q
      obtain ⟨rfl, _, _⟩ := r1
      obtain ⟨b, ws, cs, rfl, e, l, r, _⟩ := r2
      have := avs_ok r q1
      subst this
      refine ⟨_, G, ?_, nv_old ⟨rfl, rfl, rfl⟩⟩
      unfold cInG
      dsimp only
      rw [e]
      rcases hk with rfl | rfl
      · show (if flatV x = true ∧ ws.all flatV = true then _ else none) = _
        rw [if_pos hfl]
      · show (if flatV x = true ∧ ws.all flatV = true then _ else none) = _
        rw [if_pos hfl]
    · cases q
  unfold pIn at q
  split at q
  · exact lst _ _ _ _ (.inl rfl) rfl rfl q
  · exact lst _ _ _ _ (.inr rfl) rfl rfl q
  · rename_i w f ks xs
    obtain ⟨k, q1, q⟩ := bnd' q
    cases q
    obtain ⟨rfl, _, _⟩ := r1
    obtain ⟨b, ws, cs, rfl, e, l, r, _⟩ := r2
    refine ⟨_, G, ?_, nv_old ⟨rfl, rfl, rfl⟩⟩
    unfold cInG
    dsimp only
    rw [e]
    show (match keyOf x with | some k => some (V.bl (neg != (valV (ks.zip ws) k).isSome), G) | none => none) = _
    rw [q1]
    dsimp only
    rw [valV_zip_some k ks ws l]
  · cases q
end
end Pl

/-! Pl, part 10: subscripts, built-ins. -/
namespace Pl
open PySem L2 Zl
section
variable {A F : Nat → Prop} {G : Hz}
/-! ### subscripts -/
def shT (t : Tr) : Option Tr := if t.sh = true then some t else none
def isSeq : Kd → Bool
  | .dct _ => false
  | .st _ _ => false
  | .ex _ => false
  | .dt _ => false
  | .ld _ _ => false
  | .lK _ _ => false
  | _ => true
def pIx : P2 := fun t1 t2 => match t1, t2 with
  | .nd _ k xs, .av (.int i) => if isSeq k = true then (atI xs i).bind shT else none
  | .av (.str z), .av (.int i) => A2 xIx (.av (.str z)) (.av (.int i))
  | _, _ => none
theorem atI_rls {xs : List Tr} {vs : List V} {as : List Nat} {i : Int} {t : Tr} (r : Rls A F G xs vs as) (h : atI xs i = some t) : ∃ v bs, atI vs i = some v ∧ Rl A F G t v bs ∧ ∀ b ∈ bs, b ∈ as := by
  obtain ⟨j, h1, h2⟩ := bnd' h
  obtain ⟨v, bs, h3, h4, h5⟩ := r.get h2
  refine ⟨v, bs, ?_, h4, h5⟩
  show (ixN vs.length i).bind _ = _
  rw [r.length, h1]
  exact h3
theorem fl_ixS (z : Str) (i : Int) (v : V) (G' : Hz) (q : xIx (.str z) (.int i) [] = some (v, G')) : xIx (.str z) (.int i) G = some (v, G) := by
  unfold xIx at q ⊢
  dsimp only at q ⊢
  split at q
  · rw [if_pos ‹_›]
    obtain ⟨c, q1, q⟩ := bnd' q
    cases q
    rw [q1]
    rfl
  · cases q
theorem xIx_kd {a : Nat} {k : Kd} {vs : List V} {i : Int} {v : V} (e : G[a]? = some (k.mk vs)) (hk : isSeq k = true) (h : atI vs i = some v) : xIx (.ref a) (.int i) G = some (v, G) := by
  unfold xIx
  dsimp only
  rw [e]
  cases k with
  | dct ks => cases hk
  | st ns n => cases hk
  | ex k => cases hk
  | dt kvs => cases hk
  | ld a kvs => cases hk
  | lK a kvs => cases hk
  | _ =>
    show (atI vs i).bind _ = _
    rw [h]
    rfl
theorem op_ix : Op2 xIx pIx := fun A F G x y t1 t2 as bs t r1 r2 q => by
  unfold pIx at q
  split at q
  · rename_i f k xs i
    split at q
    · rename_i hk
      obtain ⟨u, q1, q⟩ := bnd' q
      unfold shT at q
      split at q
      · rename_i hs
        cases q
        obtain ⟨a, vs, cs, rfl, e, l, r, _⟩ := r1
        obtain ⟨rfl, _, _⟩ := r2
        obtain ⟨v, ds, h1, h2, _⟩ := atI_rls r q1
        have := h2.sh hs
        subst this
        exact ⟨v, G, xIx_kd e hk h1, nv_old h2⟩
      · cases q
    · cases q
  · rename_i z i
    unfold A2 at q
    obtain ⟨⟨v, G'⟩, q1, q⟩ := bnd' q
    split at q
    · rename_i hv
      cases q
      obtain ⟨rfl, _, _⟩ := r1
      obtain ⟨rfl, _, _⟩ := r2
      exact ⟨v, G, fl_ixS z i v G' q1, nv_old ⟨rfl, hv, rfl⟩⟩
    · cases q
  · cases q
def valG {α : Type} (kvs : List (Key × α)) (k : Key) : Option α := (kvs.find? fun kv => decide (kv.1 = k)).map (·.2)
def dK1 (ks : List Key) (xs : List Tr) (k : Key) : Option Tr := (valG (ks.zip xs) k).bind shT
def pDK : P2 := fun t1 t2 => match t1, t2 with
  | .nd _ (.dct ks) xs, .av w => (keyOf w).bind (dK1 ks xs)
  | _, _ => none
/-! ### unary -/
def isNonT : Tr → Bool
  | .av .non => true
  | _ => false
def pIsN : P1 := fun t => some (.av (.bl (isNonT t)))
def pNotN : P1 := fun t => some (.av (.bl (!isNonT t)))
def pRev : P1 := fun t => match t with
  | .nd _ .lst xs => newL xs.reverse
  | _ => none
def intsT : List Tr → Option (List Int) := mapO asI
def blsT : List Tr → Option (List Bool) := mapO asB
theorem asI_inv {t : Tr} {i : Int} (h : asI t = some i) : t = .av (.int i) := by
  unfold asI at h
  split at h <;> cases h
  rfl
theorem intsT_ok {xs : List Tr} {vs : List V} {as : List Nat} {ns : List Int} (r : Rls A F G xs vs as) (h : intsT xs = some ns) : ints? vs = some ns :=
  mapO_rls (fun t v bs d r q => by
    rw [asI_inv q] at r
    rw [r.1]) r h
def lsT1 (ns : List Int) : Option Tr := if ns.length ≤ 4000 then some (.av (.int (nDist ns))) else none
def pLenSet : P1 := fun t => match t with
  | .nd _ .lst xs => (intsT xs).bind lsT1
  | _ => none
/-! ### built-ins -/
theorem ars1 {t : Tr} {vs : List V} (h : Ars A F G [t] vs) : ∃ v as, vs = [v] ∧ Rl A F G t v as := by
  obtain ⟨v, ws, as, rfl, r, h⟩ := h
  rw [show ws = [] from h]
  exact ⟨v, as, rfl, r⟩
theorem ars2 {t u : Tr} {vs : List V} (h : Ars A F G [t, u] vs) : ∃ v w as bs, vs = [v, w] ∧ Rl A F G t v as ∧ Rl A F G u w bs := by
  obtain ⟨v, ws, as, rfl, r, h⟩ := h
  obtain ⟨w, bs, rfl, r2⟩ := ars1 h
  exact ⟨v, w, as, bs, rfl, r, r2⟩
def isSt : Kd → Bool
  | .st _ _ => true
  | .ex _ => true
  | .dt _ => true
  | .ld _ _ => true
  | .lK _ _ => true
  | _ => false
def pLen : PL := fun ts => match ts with
  | [.nd _ k xs] => if isSt k = true then none else some (.av (.int xs.length))
  | [.av (.str z)] => if z.length ≤ sizeLine then some (.av (.int z.length)) else none
  | _ => none
theorem op_len : OpL fLen pLen := fun A F G vs ts t r q => by
  unfold pLen at q
  split at q
  · rename_i f k xs
    split at q
    case isTrue => cases q
    rename_i ns
    cases q
    obtain ⟨v, as, rfl, a, us, cs, rfl, e, l, rr, _⟩ := ars1 r
    refine ⟨.int xs.length, G, ?_, nv_old ⟨rfl, rfl, rfl⟩⟩
    unfold fLen
    dsimp only
    rw [e]
    cases k with
    | st ms m => exact absurd rfl ns
    | ex k => exact absurd rfl ns
    | dt kvs => exact absurd rfl ns
    | ld a kvs => exact absurd rfl ns
    | lK a kvs => exact absurd rfl ns
    | dct ks =>
      show some (V.int (ks.zip us).length, G) = _
      rw [List.length_zip, show ks.length = us.length from l, Nat.min_self, rr.length]
    | _ =>
      show some (V.int us.length, G) = _
      rw [rr.length]
  · rename_i z
    split at q
    · cases q
      obtain ⟨v, as, rfl, rfl, _, _⟩ := ars1 r
      exact ⟨_, G, by unfold fLen; dsimp only; rw [if_pos ‹_›], nv_old ⟨rfl, rfl, rfl⟩⟩
    · cases q
  · cases q
def intR : Int → Option Tr := fun m => some (.av (.int m))
def maxR (ns : List Int) : Option Tr := (maxL ns).bind intR
def minR (ns : List Int) : Option Tr := (minL ns).bind intR
def pMax : PL := fun ts => match ts with
  | [.av (.int i), .av (.int j)] => some (.av (.int (if j > i then j else i)))
  | [.nd _ .lst xs] => (intsT xs).bind maxR
  | _ => none
def pMin : PL := fun ts => match ts with
  | [.av (.int i), .av (.int j)] => some (.av (.int (if j < i then j else i)))
  | [.nd _ .lst xs] => (intsT xs).bind minR
  | _ => none
theorem op_max : OpL fMax pMax := fun A F G vs ts t r q => by
  unfold pMax at q
  split at q
  · cases q
    obtain ⟨v, w, as, bs, rfl, ⟨rfl, _⟩, ⟨rfl, _⟩⟩ := ars2 r
    exact ⟨_, G, rfl, nv_old ⟨rfl, rfl, rfl⟩⟩
  · obtain ⟨ns, q1, q⟩ := bnd' q
    obtain ⟨m, q2, q⟩ := bnd' q
    cases q
    obtain ⟨v, as, rfl, r1⟩ := ars1 r
    obtain ⟨a, us, cs, rfl, e1, h1⟩ := r1.lst
    refine ⟨.int m, G, ?_, nv_old ⟨rfl, rfl, rfl⟩⟩
    rw [fMax_r, e1]
    show (ints? us).bind _ = _
    rw [intsT_ok h1 q1]
    show (maxL ns).bind _ = _
    rw [q2]
    rfl
  · cases q
theorem op_min : OpL fMin pMin := fun A F G vs ts t r q => by
  unfold pMin at q
  split at q
  · cases q
    obtain ⟨v, w, as, bs, rfl, ⟨rfl, _⟩, ⟨rfl, _⟩⟩ := ars2 r
    exact ⟨_, G, rfl, nv_old ⟨rfl, rfl, rfl⟩⟩
  · obtain ⟨ns, q1, q⟩ := bnd' q
    obtain ⟨m, q2, q⟩ := bnd' q
    cases q
    obtain ⟨v, as, rfl, r1⟩ := ars1 r
    obtain ⟨a, us, cs, rfl, e1, h1⟩ := r1.lst
    refine ⟨.int m, G, ?_, nv_old ⟨rfl, rfl, rfl⟩⟩
    rw [fMin_r, e1]
    show (ints? us).bind _ = _
    rw [intsT_ok h1 q1]
    show (minL ns).bind _ = _
    rw [q2]
    rfl
  · cases q
def sumR (ns : List Int) : Option Tr := some (.av (.int ns.sum))
def pSum : PL := fun ts => match ts with
  | [.nd _ .lst xs] => (intsT xs).bind sumR
  | _ => none
def allR (ns : List Bool) : Option Tr := some (.av (.bl (ns.all id)))
def anyR (ns : List Bool) : Option Tr := some (.av (.bl (ns.any id)))
def pAll : PL := fun ts => match ts with
  | [.nd _ .lst xs] => (blsT xs).bind allR
  | _ => none
def pAny : PL := fun ts => match ts with
  | [.nd _ .lst xs] => (blsT xs).bind anyR
  | _ => none
theorem rls_ints : ∀ (ns : List Int), Rls A F G (ns.map I) (ns.map V.int) []
  | [] => ⟨rfl, rfl⟩
  | n :: ns => ⟨.int n, ns.map V.int, [], [], rfl, rfl, ⟨rfl, rfl, rfl⟩, rls_ints ns⟩
def srtR (ns : List Int) : Option Tr := some (.nd .own .lst ((isort ns).map I))
def pSorted : PL := fun ts => match ts with
  | [.nd _ .lst xs] => (intsT xs).bind srtR
  | _ => none
def pList : PL := fun ts => match ts with
  | [.nd _ .lst xs] => newL xs
  | [.nd _ .tup xs] => newL xs
  | _ => none
def pAbs : PL := fun ts => match ts with
  | [.av (.int i)] => some (.av (.int (if i < 0 then -i else i)))
  | _ => none
theorem op_abs : OpL fAbs pAbs := fun A F G vs ts t r q => by
  unfold pAbs at q
  split at q
  · cases q
    obtain ⟨v, as, rfl, rfl, _⟩ := ars1 r
    exact ⟨_, G, rfl, nv_old ⟨rfl, rfl, rfl⟩⟩
  · cases q
def pInt : PL := fun ts => match ts with
  | [.av (.int i)] => some (.av (.int i))
  | [.av (.bl k)] => some (.av (.int (if k then 1 else 0)))
  | _ => none
def tyT : Tr → Option String
  | .av .non => some "NoneType"
  | .av (.bl _) => some "bool"
  | .av (.int _) => some "int"
  | .av (.str _) => some "str"
  | .nd _ .lst _ => some "list"
  | .nd _ .fz _ => some "list"
  | .nd _ .tup _ => some "tuple"
  | .nd _ (.dct _) _ => some "dict"
  | _ => none
def isiR : Bool → Option Tr := fun b => some (.av (.bl b))
def isiR2 (n : String) : String → Option Tr := fun s => (isiT s n).bind isiR
def pIsi : PL := fun ts => match ts with
  | [t, .av (.ty n)] => (tyT t).bind (isiR2 n)
  | _ => none
/-- the text of a thing -/
def showT (d : PyData) : Option Tr := if d.showable = true ∧ d.shown.length ≤ sizeLine ∧ d.depth ≤ 30 ∧ d.hasDict = false then some (.av (.str d.shown)) else none
def pRepr : PL := fun ts => match ts with
  | [t] => (rdT dep t).bind showT
  | _ => none
end
end Pl

/-! Pl, part 11: methods, stores, slices, dicts. -/
namespace Pl
open PySem L2 Zl
section
variable {A F : Nat → Prop} {G : Hz}
def uApp : PM := fun t ts => match t, ts with
  | .nd .own .lst xs, [y] => if xs.length < sizeLine then some (.av .non, .nd .own .lst (xs ++ [y])) else none
  | _, _ => none
def uPop : PM := fun t ts => match t, ts with
  | .nd .own .lst xs, [] => (xs.getLast?).map fun y => (y, .nd .own .lst xs.dropLast)
  | .nd .own .lst xs, [.av (.int i)] => if i.natAbs ≤ 1000000 then (seqIndex? i xs.length).bind fun k => (xs[k]?).map fun y => (y, .nd .own .lst (xs.eraseIdx k)) else none
  | _, _ => none
theorem Rls.erase : ∀ {xs : List Tr} {vs : List V} {as : List Nat} {k : Nat} {y : Tr}, Rls A F G xs vs as → xs[k]? = some y → ∃ w cs bs, vs[k]? = some w ∧ Rl A F G y w cs ∧ Rls A F G (xs.eraseIdx k) (vs.eraseIdx k) bs ∧ (bs ++ cs).Perm as
  | [], _, _, k, y, _, h => by cases h
  | x :: xs, vs, as, 0, y, r, h => by
    obtain ⟨v, ws, bs, cs, rfl, rfl, h1, h2⟩ := r
    cases h
    exact ⟨v, bs, cs, rfl, h1, h2, List.perm_append_comm⟩
  | x :: xs, vs, as, k + 1, y, r, h => by
    obtain ⟨v, ws, bs, cs, rfl, rfl, h1, h2⟩ := r
    obtain ⟨w, c1, b1, e1, g1, g2, g3⟩ := Rls.erase h2 h
    exact ⟨w, c1, bs ++ b1, e1, g1, ⟨v, _, bs, b1, rfl, rfl, h1, g2⟩, by rw [List.append_assoc]; exact g3.append_left bs⟩
def uClr : PM := fun t ts => match t, ts with
  | .nd .own .lst _, [] => some (.av .non, .nd .own .lst [])
  | _, _ => none
def uRev : PM := fun t ts => match t, ts with
  | .nd .own .lst xs, [] => some (.av .non, .nd .own .lst xs.reverse)
  | _, _ => none
def uIns : PM := fun t ts => match t, ts with
  | .nd .own .lst xs, [.av (.int i), y] => if xs.length < sizeLine ∧ 0 ≤ i ∧ i ≤ 1000000 then some (.av .non, .nd .own .lst (xs.take i.toNat ++ [y] ++ xs.drop i.toNat)) else none
  | _, _ => none
theorem Rls.split {xs : List Tr} {vs : List V} {as : List Nat} (n : Nat) (r : Rls A F G xs vs as) : ∃ a1 a2, as = a1 ++ a2 ∧ Rls A F G (xs.take n) (vs.take n) a1 ∧ Rls A F G (xs.drop n) (vs.drop n) a2 := by
  have r' := r
  rw [← List.take_append_drop n xs] at r'
  obtain ⟨v1, v2, a1, a2, e1, e2, h1, h2⟩ := r'.app_inv
  have l1 := h1.length
  have hl := r.length
  have ht : v1 = vs.take n ∧ v2 = vs.drop n := by
    rw [List.length_take] at l1
    rcases Nat.le_total n xs.length with z | z
    · rw [Nat.min_eq_left z] at l1
      rw [e1]
      exact ⟨by rw [← l1, List.take_left], by rw [← l1, List.drop_left]⟩
    · rw [Nat.min_eq_right z] at l1
      have l2 := h2.length
      rw [List.length_drop] at l2
      have : v2 = [] := List.length_eq_zero_iff.mp (by omega)
      subst this
      rw [e1, List.append_nil]
      exact ⟨(List.take_of_length_le (by omega)).symm, (List.drop_of_length_le (by omega)).symm⟩
  obtain ⟨rfl, rfl⟩ := ht
  exact ⟨a1, a2, e2, h1, h2⟩
def uExt : PM := fun t ts => match t, ts with
  | .nd .own .lst xs, [.nd _ .lst ys] => if shL ys = true ∧ xs.length + ys.length ≤ sizeLine then some (.av .non, .nd .own .lst (xs ++ ys)) else none
  | _, _ => none
def uDClr : PM := fun t ts => match t, ts with
  | .nd .own (.dct _) _, [] => some (.av .non, .nd .own (.dct []) [])
  | _, _ => none
/-! ### stores -/
def sPutL : PP := fun t i v => match t, i with
  | .nd .own .lst xs, .av (.int k) => (ixN xs.length k).map fun j => .nd .own .lst (xs.set j v)
  | _, _ => none
theorem Rls.set : ∀ {xs : List Tr} {vs : List V} {as : List Nat} (j : Nat) {t : Tr} {v : V}, Rls A F G xs vs as → Rl A F G t v [] → ∃ bs cs, Rls A F G (xs.set j t) (vs.set j v) bs ∧ (bs ++ cs).Perm as
  | [], vs, as, j, t, v, r, h => by
    rw [r.1, r.2]
    exact ⟨[], [], ⟨rfl, rfl⟩, .nil⟩
  | x :: xs, vs, as, 0, t, v, r, h => by
    obtain ⟨w, ws, bs, cs, rfl, rfl, h1, h2⟩ := r
    exact ⟨cs, bs, ⟨v, ws, [], cs, rfl, rfl, h, h2⟩, List.perm_append_comm⟩
  | x :: xs, vs, as, j + 1, t, v, r, h => by
    obtain ⟨w, ws, bs, cs, rfl, rfl, h1, h2⟩ := r
    obtain ⟨b1, c1, g1, g2⟩ := Rls.set j h2 h
    exact ⟨bs ++ b1, c1, ⟨w, _, bs, b1, rfl, rfl, h1, g1⟩, by rw [List.append_assoc]; exact g2.append_left bs⟩
theorem pu_list : PutOp pLst sPutL := by
  refine ⟨fun t i v r q => ?_, fun k A F G a vs xs bs js ti tv t' i v e l rx ri rv q => ?_⟩
  · unfold sPutL at q
    split at q
    · exact ⟨_, _, rfl⟩
    · cases q
  · unfold sPutL at q
    split at q
    · rename_i ys k e1
      cases e1
      obtain ⟨j, q1, q2⟩ := Option.map_eq_some_iff.mp q
      cases q2
      obtain ⟨rfl, _, _⟩ := ri
      obtain ⟨b1, c1, g1, g2⟩ := rx.set j rv
      have e' : G[a]? = some (.lst vs) := e
      refine ⟨vs.set j v, .lst, _, b1, c1, rfl, ?_, trivial, g1, g2⟩
      unfold pLst
      dsimp only
      rw [e']
      show (ixN vs.length k).bind _ = _
      rw [rx.length, q1]
      rfl
    · cases q
def putG {α : Type} (kvs : List (Key × α)) (k : Key) (v : α) : List (Key × α) :=
  if (kvs.any fun kv => decide (kv.1 = k)) = true then kvs.map (fun kv => if kv.1 = k then (kv.1, v) else kv) else kvs ++ [(k, v)]
def dK2 (ks : List Key) (xs : List Tr) (v : Tr) (k : Key) : Option Tr := if ks.length < sizeLine then some (.nd .own (.dct ((putG (ks.zip xs) k v).map (·.1))) ((putG (ks.zip xs) k v).map (·.2))) else none
def sPutD : PP := fun t i v => match t, i with
  | .nd .own (.dct ks) xs, .av w => (keyOf w).bind (dK2 ks xs v)
  | _, _ => none
end
end Pl

/-! Pl, part 12: slices, ranges as lists, dict displays, two-for comprehensions, dict comprehensions. -/
namespace Pl
open PySem L2 Zl
abbrev PO := PSt → Option (Option Int × PSt)
def oNo : PO := fun ρ => some (none, ρ)
def oSo3 (ρ : PSt) : Int → Option (Option Int × PSt) := fun i => some (some i, ρ)
def oSo2 (ρ : PSt) : Tr → Option (Option Int × PSt) := fun t => (asI t).bind (oSo3 ρ)
def oSo1 : E × PSt → Option (Option Int × PSt) := fun p => (dr p.2 p.1).bind (oSo2 p.2)
def oSo (a : PE) : PO := fun ρ => (a ρ).bind oSo1
def cutG {α : Type} (xs : List α) (lo hi : Option Int) : List α := (xs.drop (HT.sIx xs.length 0 lo)).take (HT.sIx xs.length xs.length hi - HT.sIx xs.length 0 lo)
def pCutT (lo hi : Option Int) : Tr → Option Tr
  | .nd _ .lst xs => newL (cutG xs lo hi)
  | _ => none
def pSl3 (lo hi : Option Int) (ρ : PSt) : Tr → Option (E × PSt) := fun t => (pCutT lo hi t).bind (retT ρ)
def pSl2 (e : E) (lo : Option Int) : Option Int × PSt → Option (E × PSt) := fun p => (dr p.2 e).bind (pSl3 lo p.1 p.2)
def pSl1 (h : PO) (e : E) : Option Int × PSt → Option (E × PSt) := fun p => (h p.2).bind (pSl2 e p.1)
def pSl0 (l h : PO) : E × PSt → Option (E × PSt) := fun p => (l p.2).bind (pSl1 h p.1)
def pSl (a : PE) (l h : PO) : PE := fun ρ => (a ρ).bind (pSl0 l h)
section
variable {N N1 N2 F A A' : Nat → Prop} {σ σ' σ1 σ2 : St} {G G' G1 G2 G3 : Hz} {ρ ρ' ρ1 ρ2 ρ3 : PSt} {os os' os1 os2 os3 : Nat → List Nat} {M M1 M2 M3 Mt Me Mw Mw1 Mt1 Rb R1 R2 Rg Rg1 W W1 W2 vv vv1 : List Nat} {as as1 as2 bs cs aA : List Nat} {e e1 : E} {es : List E} {v v1 w : V} {vs : List V} {t u : Tr} {ts acc acc' : List Tr} {D : Nat}
theorem Rls.cut {xs : List Tr} {vs : List V} {lo hi : Option Int} (r : Rls A F G xs vs []) : Rls A F G (cutG xs lo hi) (cutV vs lo hi) [] := by
  unfold cutG cutV
  rw [r.length]
  obtain ⟨a1, a2, e, _, h2⟩ := r.split (HT.sIx xs.length 0 lo)
  obtain ⟨rfl, rfl⟩ := List.append_eq_nil_iff.mp e.symm
  obtain ⟨b1, b2, e, h3, _⟩ := h2.split (HT.sIx xs.length xs.length hi - HT.sIx xs.length 0 lo)
  obtain ⟨rfl, rfl⟩ := List.append_eq_nil_iff.mp e.symm
  exact h3
/-! ### list(range(..)) -/
def lrT (i j : Int) : Option Tr := if okRg i j = true then some (.nd .own .lst (rgT i j)) else none
def pLR1b (ρ : PSt) : Int → Option (E × PSt) := fun j => (lrT 0 j).bind (retT ρ)
def pLR1a : E × PSt → Option (E × PSt) := fun p => ((dr p.2 p.1).bind asI).bind (pLR1b p.2)
def pLR1 (a : PE) : PE := fun ρ => (a ρ).bind pLR1a
def pLR2c (i : Int) (ρ : PSt) : Int → Option (E × PSt) := fun j => (lrT i j).bind (retT ρ)
def pLR2b (e2 : E) (ρ : PSt) : Int → Option (E × PSt) := fun i => ((dr ρ e2).bind asI).bind (pLR2c i ρ)
def pLR2a (e1 : E) : E × PSt → Option (E × PSt) := fun p => ((dr p.2 e1).bind asI).bind (pLR2b p.1 p.2)
def pLR20 (b : PE) : E × PSt → Option (E × PSt) := fun p => (b p.2).bind (pLR2a p.1)
def pLR2 (a b : PE) : PE := fun ρ => (a ρ).bind (pLR20 b)
def ldT (i j : Int) : Option Tr := if small62 i = true ∧ small62 j = true ∧ (i - j).toNat ≤ 2 ^ 24 then some (.nd .own .lst (dgT i j)) else none
def pLDc (i : Int) (ρ : PSt) : Int → Option (E × PSt) := fun j => (ldT i j).bind (retT ρ)
def pLDb (e2 : E) (ρ : PSt) : Int → Option (E × PSt) := fun i => ((dr ρ e2).bind asI).bind (pLDc i ρ)
def pLDa (e1 : E) : E × PSt → Option (E × PSt) := fun p => ((dr p.2 e1).bind asI).bind (pLDb p.1 p.2)
def pLD0 (b : PE) : E × PSt → Option (E × PSt) := fun p => (b p.2).bind (pLDa p.1)
def pLD (a b : PE) : PE := fun ρ => (a ρ).bind (pLD0 b)
/-! ### dict displays, .get -/
def pDct0 : PE := fun ρ => some (.t (.nd .own (.dct []) []), ρ)
def g2f (ks : List Key) (xs : List Tr) (tx : Tr) (k : Key) : Option Tr := match valG (ks.zip xs) k with
  | some t => shT t
  | none => shT tx
def g2T (tk tx : Tr) : Tr → Option Tr
  | .nd _ (.dct ks) xs => ((atT tk).bind keyOf).bind (g2f ks xs tx)
  | _ => none
def pG6 (tk tx : Tr) (ρ : PSt) : Tr → Option (E × PSt) := fun o => (g2T tk tx o).bind (retT ρ)
def pG5 (e1 : E) (tk : Tr) (ρ : PSt) : Tr → Option (E × PSt) := fun tx => (dr ρ e1).bind (pG6 tk tx ρ)
def pG4 (e1 e3 : E) (ρ : PSt) : Tr → Option (E × PSt) := fun tk => (dr ρ e3).bind (pG5 e1 tk ρ)
def pG3 (e1 e2 : E) : E × PSt → Option (E × PSt) := fun p => (dr p.2 e2).bind (pG4 e1 p.1 p.2)
def pG2 (x : PE) (e1 : E) : E × PSt → Option (E × PSt) := fun p => (x p.2).bind (pG3 e1 p.1)
def pG1b (k x : PE) (e1 : E) (ρ : PSt) : Tr → Option (E × PSt) := fun t => if isDT t = true then (k ρ).bind (pG2 x e1) else none
def pG1 (k x : PE) : E × PSt → Option (E × PSt) := fun p => (dr p.2 p.1).bind (pG1b k x p.1 p.2)
/-- d.get(k, x) -/
def pGet2 (a k x : PE) : PE := fun ρ => (a ρ).bind (pG1 k x)
end
end Pl

/-! Pl, part 13: comprehensions with two fors, dict comprehensions. -/
namespace Pl
open PySem L2 Zl
section
variable {N N1 N2 F A A' : Nat → Prop} {σ σ' σ1 σ2 : St} {G G' G1 G2 G3 : Hz} {ρ ρ' ρ1 ρ2 ρ3 : PSt} {os os' os1 os2 os3 : Nat → List Nat} {M M1 M2 M3 Mt Me Mk Mw Mw1 Mt1 Rb R1 R2 Rg Rg1 W W1 W2 vv vs1 : List Nat} {as as1 as2 bs cs aA : List Nat} {e e1 : E} {es : List E} {v v1 w : V} {vs : List V} {t u : Tr} {ts acc acc' : List Tr} {D : Nat} {kd : Kd}
theorem CI.back (c : CI N F σ1 G ρ os D kd acc aA) (lσ : σ1.length = σ.length) (hr : ∀ (i : Nat), i ∉ Rg → σ1[i]? = σ[i]?) (hvv : ∀ i ∈ Rg, i ∈ vv) : ∃ os', CI N F σ G (kills ρ vv) os' D kd acc aA ∧ CC vv D G ρ os aA G (kills ρ vv) os' aA := by
  obtain ⟨os', sk, _⟩ := Inv.kills vv c.inv
  have c4 := c.step sk
  refine ⟨os', ⟨c4.inv.swap lσ.symm fun i t hi => ?_, c4.at_, c4.nd, c4.fr⟩, sk.chg.cc⟩
  have hn : i ∉ vv := fun z => by
    rw [kills_none vv ρ (.inl z)] at hi
    cases hi
  exact (hr i fun z => hn (hvv i z)).symm
/-! ### a method that only looks -/
def pMe3 (g : Tr → PL) (ts : List Tr) (ρ : PSt) : Tr → Option (E × PSt) := fun o => (g o ts).bind (retT ρ)
def pMe2 (g : Tr → PL) (e1 : E) (ρ : PSt) : List Tr → Option (E × PSt) := fun ts => (dr ρ e1).bind (pMe3 g ts ρ)
def pMe1 (g : Tr → PL) (e1 : E) : List E × PSt → Option (E × PSt) := fun p => (drs p.2 p.1).bind (pMe2 g e1 p.2)
def pMe0 (ck : Tr → Bool) (g : Tr → PL) (r : PA) (e1 : E) (ρ : PSt) : Tr → Option (E × PSt) := fun t => if ck t = true then (r ρ).bind (pMe1 g e1) else none
def pMeA (ck : Tr → Bool) (g : Tr → PL) (r : PA) : E × PSt → Option (E × PSt) := fun p => (dr p.2 p.1).bind (pMe0 ck g r p.1 p.2)
def pMe (ck : Tr → Bool) (g : Tr → PL) (a : PE) (r : PA) : PE := fun ρ => (a ρ).bind (pMeA ck g r)
def idxR (k : Int) (ns : List Int) : Option Tr := if k ∈ ns then some (.av (.int ((ns.idxOf k : Nat) : Int))) else none
def pIdx : Tr → PL := fun o ts => match o, ts with
  | .nd _ .lst xs, [.av (.int k)] => (intsT xs).bind (idxR k)
  | _, _ => none
/-! ### dict comprehensions -/
abbrev KX := List Key × List Tr
def putX (acc : KX) (k : Key) (t : Tr) : KX := ((putG (acc.1.zip acc.2) k t).map (·.1), (putG (acc.1.zip acc.2) k t).map (·.2))
def dAc (vs : List Nat) (acc : KX) (k : Key) (ρ : PSt) : Tr → Option (KX × PSt) := fun t => if acc.1.length < sizeLine then some (putX acc k t, kills ρ vs) else none
def dVl (vs : List Nat) (acc : KX) (k : Key) : E × PSt → Option (KX × PSt) := fun p => (tk p.1).bind (dAc vs acc k p.2)
def dKy (vs : List Nat) (ev : PE) (acc : KX) (ρ : PSt) : Key → Option (KX × PSt) := fun k => (ev ρ).bind (dVl vs acc k)
def keyT (t : Tr) : Option Key := (atT t).bind keyOf
def dEk2 (vs : List Nat) (ev : PE) (acc : KX) (ρ : PSt) : Tr → Option (KX × PSt) := fun t => (keyT t).bind (dKy vs ev acc ρ)
def dEk (vs : List Nat) (ev : PE) (acc : KX) : E × PSt → Option (KX × PSt) := fun p => (dr p.2 p.1).bind (dEk2 vs ev acc p.2)
def dIt (vs : List Nat) (ek ev : PE) (acc : KX) : Bool × PSt → Option (KX × PSt) := fun p => if p.1 = true then (ek p.2).bind (dEk vs ev acc) else some (acc, kills p.2 vs)
def dTu (vs : List Nat) (t : PT) (ek ev : PE) (acc : KX) : PSt → Option (KX × PSt) := fun ρ => (t ρ).bind (dIt vs ek ev acc)
def dLp1 (k : KX → PSt → Option (KX × PSt)) : KX × PSt → Option (KX × PSt) := fun p => k p.1 p.2
def dLp (vs : List Nat) (g : PG) (t : PT) (ek ev : PE) : List Tr → KX → PSt → Option (KX × PSt)
  | [], acc, ρ => some (acc, ρ)
  | x :: xs, acc, ρ => ((g x ρ).bind (dTu vs t ek ev acc)).bind (dLp1 (dLp vs g t ek ev xs))
def mkD : KX × PSt → Option (E × PSt) := fun p => some (.t (.nd .own (.dct p.1.1) p.1.2), p.2)
/-! ### dicts as a whole -/
def kT : Key → Tr
  | .inl i => I i
  | .inr s => S s
def pListK : PL := fun ts => match ts with
  | [.nd _ (.dct ks) _] => some (.nd .own .lst (ks.map kT))
  | _ => none
def flatT : List Key → List Tr → Option (List (PyData × PyData))
  | [], [] => some []
  | k :: ks, .av v :: xs => (scalD v).bind fun d => (flatT ks xs).bind fun ds => some ((keyD k, d) :: ds)
  | _, _ => none
def showK (ds : List (PyData × PyData)) : Option Tr := if (PyData.dict ds).showable = true ∧ (PyData.dict ds).shown.length ≤ sizeLine ∧ (PyData.dict ds).depth ≤ 30 then some (.av (.str (PyData.dict ds).shown)) else none
def pReprK : PL := fun ts => match ts with
  | [.nd _ (.dct ks) xs] => (flatT ks xs).bind showK
  | _ => none
def sameR (b : Bool) (ks : List Key) (ls : List Key) (us : List V) (ws : List V) : Option Tr := if sameK (ks.zip us) (ls.zip ws) = true then some (.av (.bl b)) else none
def sameQ (b : Bool) (ks : List Key) (ls : List Key) (ys : List Tr) : List V → Option Tr := fun us => (avs ys).bind (sameR b ks ls us)
/-- repr([a, b, ..]): the things only seen -/
def rpL (ts : List Tr) : Option Tr := (mapO (rdT 19) ts).bind fun ds => if ts.length ≤ sizeLine ∧ (PyData.list ds).showable = true ∧ (PyData.list ds).shown.length ≤ sizeLine ∧ (PyData.list ds).depth ≤ 30 ∧ (PyData.list ds).hasDict = false then some (.av (.str (PyData.list ds).shown)) else none
def pRpL2 (ρ : PSt) : List Tr → Option (E × PSt) := fun ts => (rpL ts).bind (retT ρ)
def pRpL1 : List E × PSt → Option (E × PSt) := fun p => (drs p.2 p.1).bind (pRpL2 p.2)
def pReprL (r : PA) : PE := fun ρ => (r ρ).bind pRpL1
theorem mapO_mono {α β : Type} {f g : α → Option β} : ∀ (xs : List α) (ys : List β), (∀ x y, f x = some y → g x = some y) → mapO f xs = some ys → mapO g xs = some ys
  | [], ys, _, h => h
  | x :: xs, ys, m, h => by
    obtain ⟨y, h1, h⟩ := bnd' h
    obtain ⟨zs, h2, h⟩ := bnd' h
    cases h
    show (g x).bind _ = _
    rw [m x y h1]
    show (mapO g xs).bind _ = _
    rw [mapO_mono xs zs m h2]
    rfl
end
end Pl

/-! Zl, part 10: data. -/
namespace Zl
open PySem L2
/-- data that can be shown and compared: its text has at most L signs, depth at most k -/
structure Tame (d : PyData) (L k : Nat) : Prop where
  len : d.shown.length ≤ L
  sh : d.showable = true
  dp : d.depth ≤ k
  nd : d.hasDict = false
  cl : d.canLay0 = true
theorem Tame.mono {d : PyData} {L M j k : Nat} (h : Tame d L j) (l : L ≤ M) (m : j ≤ k) : Tame d M k := ⟨Nat.le_trans h.len l, h.sh, Nat.le_trans h.dp m, h.nd, h.cl⟩
theorem Tame.non : Tame .none 5 0 := ⟨by decide, rfl, Nat.le_refl _, rfl, rfl⟩
theorem Tame.bl (b : Bool) : Tame (.bool b) 5 0 := ⟨by cases b <;> decide, rfl, Nat.le_refl _, rfl, rfl⟩
theorem Tame.int {i : Int} (h : i.natAbs < 10 ^ 150) : Tame (.int i) 152 0 := by
  refine ⟨?_, ?_, Nat.le_refl _, rfl, rfl⟩
  · have e := int_text_length_le10 (k := 150) (by decide) h
    show (Str.ofString (toString i)).length ≤ 152
    rw [ofString_length]
    omega
  · show decide (i.natAbs.log2 < 1920) = true
    have e : (10 : Nat) ^ 150 ≤ 2 ^ 1920 := by decide +kernel
    exact decide_eq_true (PySem.Flt.log2_lt_of (by decide) (Nat.lt_of_lt_of_le h e))
theorem sum_le {ts : List Nat} {L : Nat} (h : ∀ t ∈ ts, t ≤ L) : ts.sum ≤ ts.length * L := by
  induction ts with
  | nil => simp [-Option.bind_some]
  | cons t ts ih =>
    have h1 := h t (List.mem_cons_self ..)
    have h2 := ih fun t ht => h t (List.mem_cons_of_mem _ ht)
    rw [List.sum_cons, List.length_cons, Nat.succ_mul]
    omega
theorem shownAll_map : ∀ xs : List PyData, PyData.shownAll xs = xs.map PyData.shown
  | [] => rfl
  | x :: xs => by simp [-Option.bind_some, PyData.shownAll, shownAll_map xs]
theorem tame_all {xs : List PyData} {L k : Nat} (h : ∀ x ∈ xs, Tame x L k) : ((PyData.shownAll xs).map (·.length)).sum ≤ xs.length * L ∧ PyData.showableAll xs = true ∧ PyData.depthAll xs ≤ k ∧ PyData.hasDictAll xs = false ∧ PyData.canLayAll0 xs = true := by
  refine ⟨?_, ?_⟩
  · have := sum_le (ts := (PyData.shownAll xs).map (·.length)) (L := L) fun t ht => by
      rw [shownAll_map, List.map_map] at ht
      obtain ⟨x, hx, rfl⟩ := List.mem_map.mp ht
      exact (h x hx).len
    rwa [List.length_map, shownAll_map, List.length_map, ← shownAll_map] at this
  · induction xs with
    | nil => simp [-Option.bind_some, PyData.showableAll, PyData.depthAll, PyData.hasDictAll, PyData.canLayAll0]
    | cons x xs ih =>
      obtain ⟨h2, h3, h4, h5⟩ := ih fun y hy => h y (List.mem_cons_of_mem _ hy)
      have hx := h x (List.mem_cons_self ..)
      have := hx.dp
      simp [-Option.bind_some, PyData.showableAll, PyData.depthAll, PyData.hasDictAll, PyData.canLayAll0, hx.sh, hx.nd, hx.cl, h2, h4, h5]
      omega
theorem Tame.list {xs : List PyData} {L k : Nat} (h : ∀ x ∈ xs, Tame x L k) : Tame (.list xs) (xs.length * (L + 2) + 3) (k + 1) := by
  obtain ⟨h1, h2, h3, h4, h5⟩ := tame_all h
  refine ⟨?_, h2, Nat.succ_le_succ h3, h4, h5⟩
  have := listText_len_le (PyData.shownAll xs)
  show (listText _).length ≤ _
  rw [shownAll_map, List.length_map, ← shownAll_map] at this
  rw [Nat.mul_add]
  omega
theorem Tame.tup {xs : List PyData} {L k : Nat} (h : ∀ x ∈ xs, Tame x L k) : Tame (.tuple xs) (xs.length * (L + 2) + 3) (k + 1) := by
  obtain ⟨h1, h2, h3, h4, h5⟩ := tame_all h
  refine ⟨?_, h2, Nat.succ_le_succ h3, h4, h5⟩
  have := tupleText_len_le (PyData.shownAll xs)
  show (tupleText _).length ≤ _
  rw [shownAll_map, List.length_map, ← shownAll_map] at this
  rw [Nat.mul_add]
  omega
theorem Tame.shaped {d : PyData} {L k : Nat} (h : Tame d L k) (l : k ≤ 64) : SeqAt.shaped d = true := by
  unfold SeqAt.shaped
  rw [h.cl, Bool.true_and]
  exact decide_eq_true (Nat.le_trans h.dp l)
@[simp] theorem rd_int (k : Nat) (G : Hz) (i : Int) : rdD k G (.int i) = some (.int i) := by cases k <;> rfl
@[simp] theorem rd_bl (k : Nat) (G : Hz) (b : Bool) : rdD k G (.bl b) = some (.bool b) := by cases k <;> rfl
@[simp] theorem rd_non (k : Nat) (G : Hz) : rdD k G .non = some .none := by cases k <;> rfl
@[simp] theorem rd_str (k : Nat) (G : Hz) (x : Str) : rdD k G (.str x) = some (.str x) := by cases k <;> rfl
theorem rd_lst {k : Nat} {G : Hz} {a : Nat} {xs : List V} {ds : List PyData} (h : G[a]? = some (.lst xs)) (e : mapO (rdD k G) xs = some ds) : rdD (k + 1) G (.ref a) = some (.list ds) := by
  unfold rdD
  rw [h]
  simp only [e]
  rfl
theorem rd_tup {k : Nat} {G : Hz} {a : Nat} {xs : List V} {ds : List PyData} (h : G[a]? = some (.tup xs)) (e : mapO (rdD k G) xs = some ds) : rdD (k + 1) G (.ref a) = some (.tuple ds) := by
  unfold rdD
  rw [h]
  simp only [e]
  rfl
@[simp] theorem mapO_nil {α β : Type} (f : α → Option β) : mapO f [] = some [] := rfl
@[simp] theorem mapO_cons {α β : Type} (f : α → Option β) (x : α) (xs : List α) : mapO f (x :: xs) = (f x).bind fun y => (mapO f xs).bind fun ys => some (y :: ys) := rfl
theorem mapO_of {α β γ : Type} (f : α → Option β) (g : γ → α) (h : γ → β) : ∀ xs : List γ, (∀ x ∈ xs, f (g x) = some (h x)) → mapO f (xs.map g) = some (xs.map h)
  | [], _ => rfl
  | x :: xs, q => by
    rw [List.map_cons, mapO_cons, q x (List.mem_cons_self ..), mapO_of f g h xs fun y hy => q y (List.mem_cons_of_mem _ hy)]
    rfl
@[simp] theorem mapO_ints (k : Nat) (G : Hz) (ns : List Int) : mapO (rdD k G) (ns.map V.int) = some (ns.map PyData.int) := mapO_of _ _ _ ns fun x _ => rd_int k G x
@[simp] theorem mapO_intf {α : Type} (k : Nat) (G : Hz) (f : α → Int) (ns : List α) : mapO (rdD k G) (ns.map fun x => V.int (f x)) = some (ns.map fun x => PyData.int (f x)) := mapO_of _ _ _ ns fun x _ => rd_int k G (f x)
def Small (ns : List Int) : Prop := ns.length ≤ 50000 ∧ ∀ n ∈ ns, n.natAbs < 10 ^ 150
theorem tame_ints {ns : List Int} (h : Small ns) : Tame (.list (ns.map PyData.int)) 7700003 1 := by
  refine (Tame.list (L := 152) (k := 0) fun x hx => ?_).mono ?_ (Nat.le_refl _)
  · obtain ⟨n, hn, rfl⟩ := List.mem_map.mp hx
    exact .int (h.2 n hn)
  · rw [List.length_map]
    have := h.1
    omega
/-! equality -/
mutual
theorem eqv_refl : ∀ d : PyData, d.hasDict = false → PyData.eqv d d = true
  | .none, _ => by simp [-Option.bind_some, PyData.eqv]
  | .bool b, _ => by simp [-Option.bind_some, PyData.eqv]
  | .int i, _ => by simp [-Option.bind_some, PyData.eqv]
  | .str x, _ => by simp [-Option.bind_some, PyData.eqv]
  | .list xs, h => by
    simp only [PyData.eqv]
    exact eqvAll_refl xs (by simpa [-Option.bind_some, PyData.hasDict] using h)
  | .tuple xs, h => by
    simp only [PyData.eqv]
    exact eqvAll_refl xs (by simpa [-Option.bind_some, PyData.hasDict] using h)
  | .dict _, h => by simp [-Option.bind_some, PyData.hasDict] at h
theorem eqvAll_refl : ∀ xs : List PyData, PyData.hasDictAll xs = false → PyData.eqvAll xs xs = true
  | [], _ => by simp [-Option.bind_some, PyData.eqvAll]
  | x :: xs, h => by
    simp only [PyData.hasDictAll, Bool.or_eq_false_iff] at h
    simp [-Option.bind_some, PyData.eqvAll, eqv_refl x h.1, eqvAll_refl xs h.2]
end
theorem eqvAll_ints : ∀ xs ys : List Int, PyData.eqvAll (xs.map .int) (ys.map .int) = decide (xs = ys)
  | [], [] => by simp [-Option.bind_some, PyData.eqvAll]
  | [], _ :: _ => by simp [-Option.bind_some, PyData.eqvAll]
  | _ :: _, [] => by simp [-Option.bind_some, PyData.eqvAll]
  | x :: xs, y :: ys => by
    have := eqvAll_ints xs ys
    simp only [List.map_cons, PyData.eqvAll, this, PyData.eqv]
    rw [Bool.eq_iff_iff]
    simp [-Option.bind_some]
theorem tameW_all : ∀ ns : List Int, PyData.canLayAll0 (ns.map .int) = true ∧ PyData.depthAll (ns.map .int) = 0
  | [] => ⟨rfl, rfl⟩
  | n :: ns => by
    obtain ⟨h1, h2⟩ := tameW_all ns
    simp [-Option.bind_some, PyData.canLayAll0, PyData.canLay0, PyData.depthAll, PyData.depth, h1, h2]
theorem shaped_ints (ns : List Int) : SeqAt.shaped (.list (ns.map .int)) = true := by
  obtain ⟨h1, h2⟩ := tameW_all ns
  simp [-Option.bind_some, SeqAt.shaped, PyData.canLay0, PyData.depth, h1, h2]
@[simp] theorem cEq_int (i j : Int) (G : Hz) : cEq (.int i) (.int j) G = some (.bl (decide (i = j)), G) := by simp [-Option.bind_some, cEq, scal]
@[simp] theorem cNe_int (i j : Int) (G : Hz) : cNe (.int i) (.int j) G = some (.bl (!decide (i = j)), G) := by simp [-Option.bind_some, cNe, scal]
@[simp] theorem cEq_str (i j : Str) (G : Hz) : cEq (.str i) (.str j) G = some (.bl (decide (i = j)), G) := by simp [-Option.bind_some, cEq, scal]
@[simp] theorem cNe_str (i j : Str) (G : Hz) : cNe (.str i) (.str j) G = some (.bl (!decide (i = j)), G) := by simp [-Option.bind_some, cNe, scal]
@[simp] theorem cEq_bl (i j : Bool) (G : Hz) : cEq (.bl i) (.bl j) G = some (.bl (decide (i = j)), G) := by simp [-Option.bind_some, cEq, scal]
@[simp] theorem cNe_bl (i j : Bool) (G : Hz) : cNe (.bl i) (.bl j) G = some (.bl (!decide (i = j)), G) := by simp [-Option.bind_some, cNe, scal]
/-! branches -/
@[simp] theorem ite_bind {α β : Type} {c : Prop} [Decidable c] {a b : Option α} {f : α → Option β} : (if c then a else b).bind f = if c then a.bind f else b.bind f := by split <;> rfl
@[simp] theorem ite_some_bl {c : Prop} [Decidable c] {a b : Bool} {G : Hz} : (if c then some (a, G) else some (b, G)) = some (if c then a else b, G) := by split <;> rfl
@[simp] theorem ite_some_v {c : Prop} [Decidable c] {a b : V} {G : Hz} : (if c then some (a, G) else some (b, G)) = some (if c then a else b, G) := by split <;> rfl
@[simp] theorem ite_bl {c : Prop} [Decidable c] {a b : Bool} : (if c then V.bl a else V.bl b) = V.bl (if c then a else b) := by split <;> rfl
@[simp] theorem ite_int {c : Prop} [Decidable c] {a b : Int} : (if c then V.int a else V.int b) = V.int (if c then a else b) := by split <;> rfl
end Zl

/-! Zl, part 11: lists of ints under the map. -/
namespace Zl
open PySem L2
@[simp] theorem gc_zero {α : Type} (x : α) (xs : List α) : (x :: xs)[0]? = some x := nr rfl
@[simp] theorem gc_nil {α : Type} (i : Nat) : ([] : List α)[i]? = none := nr rfl
@[simp] theorem sizeLine_v : sizeLine = 16777216 := nr sizeLine_eq
@[simp] theorem After_nx (N B : St → Hz → Prop) (Rt : V → Hz → Prop) (σ : St) (G : Hz) : After N B Rt (.nx σ G) = N σ G := nr rfl
@[simp] theorem After_ct (N B : St → Hz → Prop) (Rt : V → Hz → Prop) (σ : St) (G : Hz) : After N B Rt (.ct σ G) = N σ G := nr rfl
@[simp] theorem After_bk (N B : St → Hz → Prop) (Rt : V → Hz → Prop) (σ : St) (G : Hz) : After N B Rt (.bk σ G) = B σ G := nr rfl
@[simp] theorem After_rt (N B : St → Hz → Prop) (Rt : V → Hz → Prop) (v : V) (G : Hz) : After N B Rt (.rt v G) = Rt v G := nr rfl
section
variable {α β : Type}
@[simp] theorem take_map (f : α → β) (xs : List α) (k : Nat) : (xs.map f).take k = (xs.take k).map f := List.map_take.symm
@[simp] theorem drop_map (f : α → β) (xs : List α) (k : Nat) : (xs.map f).drop k = (xs.drop k).map f := List.map_drop.symm
@[simp] theorem append_map (f : α → β) (xs ys : List α) : xs.map f ++ ys.map f = (xs ++ ys).map f := List.map_append.symm
@[simp] theorem append_int (xs : List Int) (i : Int) : xs.map V.int ++ [V.int i] = (xs ++ [i]).map V.int := by rw [List.map_append]; rfl
@[simp] theorem reverse_map (f : α → β) (xs : List α) : (xs.map f).reverse = xs.reverse.map f := List.map_reverse.symm
@[simp] theorem dropLast_map (f : α → β) (xs : List α) : (xs.map f).dropLast = xs.dropLast.map f := List.map_dropLast.symm
@[simp] theorem erase_map (f : α → β) (xs : List α) (k : Nat) : (xs.map f).eraseIdx k = (xs.eraseIdx k).map f := (map_eraseIdx f xs k).symm
@[simp] theorem set_int (xs : List Int) (k : Nat) (i : Int) : (xs.map V.int).set k (V.int i) = (xs.set k i).map V.int := List.map_set.symm
@[simp] theorem getLast_map (f : α → β) (xs : List α) : (xs.map f).getLast? = xs.getLast?.map f := List.getLast?_map
@[simp] theorem atI_cast (xs : List α) (k : Nat) : atI xs ((k : Nat) : Int) = xs[k]? := by
  unfold atI ixN
  rw [if_pos (by omega)]
  by_cases h : k < xs.length
  · rw [if_pos (by omega)]
    rfl
  · rw [if_neg (by omega), List.getElem?_eq_none (by omega)]
    rfl
@[simp] theorem atI_zero (xs : List α) : atI xs 0 = xs[0]? := atI_cast xs 0
@[simp] theorem atI_one (xs : List α) : atI xs 1 = xs[1]? := atI_cast xs 1
@[simp] theorem atI_two (xs : List α) : atI xs 2 = xs[2]? := atI_cast xs 2
@[simp] theorem atI_three (xs : List α) : atI xs 3 = xs[3]? := atI_cast xs 3
@[simp] theorem atI_neg1 (xs : List α) : atI xs (-1) = xs.getLast? := by
  unfold atI ixN
  rw [if_neg (by omega), List.getLast?_eq_getElem?]
  cases xs with
  | nil => rfl
  | cons x xs =>
    rw [if_pos (by simp only [List.length_cons]; omega)]
    simp only [Option.bind_some]
    congr 1
    omega
@[simp] theorem ixN_cast (n k : Nat) : ixN n ((k : Nat) : Int) = if k < n then some k else none := by
  unfold ixN
  rw [if_pos (by omega)]
  by_cases h : k < n
  · rw [if_pos (by omega), if_pos h]; rfl
  · rw [if_neg (by omega), if_neg h]
@[simp] theorem ixN_zero (n : Nat) : ixN n 0 = if 0 < n then some 0 else none := ixN_cast n 0
@[simp] theorem ixN_one (n : Nat) : ixN n 1 = if 1 < n then some 1 else none := ixN_cast n 1
@[simp] theorem ixN_two (n : Nat) : ixN n 2 = if 2 < n then some 2 else none := ixN_cast n 2
@[simp] theorem ixN_neg1 (n : Nat) : ixN n (-1) = if 0 < n then some (n - 1) else none := by
  unfold ixN
  rw [if_neg (by omega)]
  by_cases h : 0 < n
  · rw [if_pos (by omega), if_pos h]
    congr 1
    omega
  · rw [if_neg (by omega), if_neg h]
theorem sIx_nn {n d : Nat} {i : Int} (h : 0 ≤ i) : HT.sIx n d (some i) = min i.toNat n := by
  obtain ⟨k, rfl⟩ := Int.eq_ofNat_of_zero_le h
  rw [HT.sIx_nat]
  rfl
theorem cutV_to (xs : List V) {i : Int} (h : 0 ≤ i) : cutV xs none (some i) = xs.take i.toNat := by
  unfold cutV
  rw [sIx_nn h, HT.sIx_none, List.drop_zero, Nat.sub_zero]
  by_cases q : i.toNat ≤ xs.length
  · rw [Nat.min_eq_left q]
  · rw [Nat.min_eq_right (by omega), List.take_length, List.take_of_length_le (by omega)]
theorem cutV_from (xs : List V) {i : Int} (h : 0 ≤ i) : cutV xs (some i) none = xs.drop i.toNat := by
  unfold cutV
  rw [sIx_nn h, HT.sIx_none]
  by_cases q : i.toNat ≤ xs.length
  · rw [Nat.min_eq_left q, List.take_of_length_le (by rw [List.length_drop]; omega)]
  · rw [Nat.min_eq_right (by omega), Nat.sub_self, List.drop_of_length_le (by omega), List.drop_of_length_le (by omega)]
    rfl
theorem cutV_mid (xs : List V) {i j : Int} (h : 0 ≤ i) (k : 0 ≤ j) : cutV xs (some i) (some j) = (xs.drop i.toNat).take (j.toNat - i.toNat) := by
  unfold cutV
  rw [sIx_nn h, sIx_nn k]
  by_cases q : i.toNat ≤ xs.length
  · rw [Nat.min_eq_left q]
    by_cases r : j.toNat ≤ xs.length
    · rw [Nat.min_eq_left r]
    · rw [Nat.min_eq_right (by omega), List.take_of_length_le (by rw [List.length_drop]; omega), List.take_of_length_le (by rw [List.length_drop]; omega)]
  · rw [Nat.min_eq_right (show xs.length ≤ i.toNat by omega), List.drop_of_length_le (Nat.le_refl _), List.drop_of_length_le (show xs.length ≤ i.toNat by omega), List.take_nil, List.take_nil]
@[simp] theorem cutV_to_cast (xs : List V) (k : Nat) : cutV xs none (some ((k : Nat) : Int)) = xs.take k := cutV_to xs (by omega)
@[simp] theorem cutV_from_cast (xs : List V) (k : Nat) : cutV xs (some ((k : Nat) : Int)) none = xs.drop k := cutV_from xs (by omega)
@[simp] theorem cutV_from_one (xs : List V) : cutV xs (some 1) none = xs.drop 1 := cutV_from xs (by omega)
@[simp] theorem cutV_mid_cast (xs : List V) (i j : Nat) : cutV xs (some ((i : Nat) : Int)) (some ((j : Nat) : Int)) = (xs.drop i).take (j - i) := cutV_mid xs (by omega) (by omega)
@[simp] theorem cutV_all (xs : List V) : cutV xs none none = xs := by
  unfold cutV
  rw [HT.sIx_none, HT.sIx_none, List.drop_zero, Nat.sub_zero, List.take_length]
@[simp] theorem cutV_butlast (xs : List V) : cutV xs none (some (-1)) = xs.dropLast := by
  unfold cutV
  have e : HT.sIx xs.length xs.length (some (-1)) = xs.length - 1 := by
    show (if (-1 : Int) < 0 then ((-1 : Int) + (xs.length : Int)).toNat else min (-1 : Int).toNat xs.length) = _
    rw [if_pos (by omega)]
    omega
  rw [HT.sIx_none, e, List.drop_zero, Nat.sub_zero, List.dropLast_eq_take]
end
@[simp] theorem fMax_two (i j : Int) (G : Hz) : fMax [.int i, .int j] G = some (.int (max i j), G) := by
  show some (V.int (if j > i then j else i), G) = _
  congr 3
  omega
@[simp] theorem fMin_two (i j : Int) (G : Hz) : fMin [.int i, .int j] G = some (.int (min i j), G) := by
  show some (V.int (if j < i then j else i), G) = _
  congr 3
  omega
@[simp] theorem lt_addR {a n k : Nat} (h : a < n) : (a < n + k) = True := eq_true (Nat.lt_add_right k h)
theorem kept_app2 (n : Nat) : ∀ (G H A B : Hz), G.length = H.length → keptB n (G ++ A) (H ++ B) = (keptB n G H && keptB n A B)
  | [], [], _, _, _ => by simp [-Option.bind_some, -List.map_take, -List.map_drop, -List.map_append, -List.map_reverse, -List.map_set, -List.map_dropLast, -getElem?_pos]
  | [], _ :: _, _, _, h => by simp [-Option.bind_some, -List.map_take, -List.map_drop, -List.map_append, -List.map_reverse, -List.map_set, -List.map_dropLast, -getElem?_pos] at h
  | _ :: _, [], _, _, h => by simp [-Option.bind_some, -List.map_take, -List.map_drop, -List.map_append, -List.map_reverse, -List.map_set, -List.map_dropLast, -getElem?_pos] at h
  | o :: G, o' :: H, A, B, h => by
    have := kept_app2 n G H A B (by simpa [-Option.bind_some, -List.map_take, -List.map_drop, -List.map_append, -List.map_reverse, -List.map_set, -List.map_dropLast, -getElem?_pos] using h)
    simp [-Option.bind_some, -List.map_take, -List.map_drop, -List.map_append, -List.map_reverse, -List.map_set, -List.map_dropLast, -getElem?_pos, this, Bool.and_assoc]
@[simp] theorem kept_app1 (n : Nat) (G A B : Hz) : keptB n (G ++ A) (G ++ B) = keptB n A B := by rw [kept_app2 n G G A B rfl, kept_refl, Bool.true_and]
theorem kept_set2 (n : Nat) : ∀ (G H : Hz) (a : Nat) (o o' : O), okO n o' = true → keptB n G H = true → keptB n (G.set a o) (H.set a o') = true
  | [], _, _, _, _, _, _ => by simp [-Option.bind_some, -List.map_take, -List.map_drop, -List.map_append, -List.map_reverse, -List.map_set, -List.map_dropLast, -getElem?_pos]
  | _ :: _, [], _, _, _, _, h => by cases h
  | u :: G, u' :: H, 0, o, o', k, h => by
    simp only [kept_cons, Bool.and_eq_true, List.set_cons_zero] at h ⊢
    exact ⟨by rw [k, Bool.or_true], h.2⟩
  | u :: G, u' :: H, a + 1, o, o', k, h => by
    simp only [kept_cons, Bool.and_eq_true, List.set_cons_succ] at h ⊢
    exact ⟨h.1, kept_set2 n G H a o o' k h.2⟩
@[simp] theorem kept_set2' (n : Nat) (G : Hz) (a : Nat) (o o' : O) (k : okO n o' = true) : keptB n (G.set a o) (G.set a o') = true := kept_set2 n G G a o o' k (kept_refl n G)
@[simp] theorem kept_app3 (n : Nat) (G A B : Hz) (a : Nat) (o o' : O) (k : okO n o' = true) : keptB n (G.set a o ++ A) (G.set a o' ++ B) = keptB n A B := by
  rw [kept_app2 _ _ _ _ _ (by simp [-Option.bind_some, -List.map_take, -List.map_drop, -List.map_append, -List.map_reverse, -List.map_set, -List.map_dropLast, -getElem?_pos]), kept_set2' n G a o o' k, Bool.true_and]
@[simp] theorem kept_app4 (n : Nat) (G A B : Hz) (a : Nat) (o' : O) (k : okO n o' = true) : keptB n (G ++ A) (G.set a o' ++ B) = keptB n A B := by
  rw [kept_app2 _ _ _ _ _ (by simp [-Option.bind_some, -List.map_take, -List.map_drop, -List.map_append, -List.map_reverse, -List.map_set, -List.map_dropLast, -getElem?_pos]), kept_set n G G a o' k (kept_refl n G), Bool.true_and]
/-! ### places behind the old ones -/
section
variable {α : Type}
@[simp] theorem gn0 (G S : List α) : (G ++ S)[G.length]? = S[0]? := by rw [List.getElem?_append_right (Nat.le_refl _), Nat.sub_self]
@[simp] theorem gnk (G S : List α) (k : Nat) : (G ++ S)[G.length + k]? = S[k]? := by rw [List.getElem?_append_right (Nat.le_add_right _ _), Nat.add_sub_cancel_left]
@[simp] theorem gs0 (G S : List α) (a : Nat) (x : α) : (G.set a x ++ S)[G.length]? = S[0]? := by
  have := gn0 (G.set a x) S
  rwa [List.length_set] at this
@[simp] theorem gsk (G S : List α) (a : Nat) (x : α) (k : Nat) : (G.set a x ++ S)[G.length + k]? = S[k]? := by
  have := gnk (G.set a x) S k
  rwa [List.length_set] at this
@[simp] theorem sn0 (G S : List α) (o : α) : (G ++ S).set G.length o = G ++ S.set 0 o := by rw [List.set_append_right _ _ (Nat.le_refl _), Nat.sub_self]
@[simp] theorem snk (G S : List α) (k : Nat) (o : α) : (G ++ S).set (G.length + k) o = G ++ S.set k o := by rw [List.set_append_right _ _ (Nat.le_add_right _ _), Nat.add_sub_cancel_left]
@[simp] theorem ss0 (G S : List α) (a : Nat) (x o : α) : (G.set a x ++ S).set G.length o = G.set a x ++ S.set 0 o := by
  have := sn0 (G.set a x) S o
  rwa [List.length_set] at this
@[simp] theorem ssk (G S : List α) (a : Nat) (x : α) (k : Nat) (o : α) : (G.set a x ++ S).set (G.length + k) o = G.set a x ++ S.set k o := by
  have := snk (G.set a x) S k o
  rwa [List.length_set] at this
@[simp] theorem go (G S : List α) (a : Nat) (h : a < G.length) : (G ++ S)[a]? = G[a]? := List.getElem?_append_left h
@[simp] theorem gso (G S : List α) (b : Nat) (x : α) (a : Nat) (h : a < G.length) : (G.set b x ++ S)[a]? = (G.set b x)[a]? := List.getElem?_append_left (by rwa [List.length_set])
@[simp] theorem so (G S : List α) (a : Nat) (o : α) (h : a < G.length) : (G ++ S).set a o = G.set a o ++ S := List.set_append_left _ _ h
@[simp] theorem sso (G S : List α) (b : Nat) (x : α) (a : Nat) (o : α) (h : a < G.length) : (G.set b x ++ S).set a o = (G.set b x).set a o ++ S := List.set_append_left _ _ (by rwa [List.length_set])
end
section
variable {α : Type}
@[simp] theorem tn (G S : List α) (k : Nat) : (G ++ S).take (G.length + k) = G ++ S.take k := by rw [List.take_append, List.take_of_length_le (Nat.le_add_right _ _), Nat.add_sub_cancel_left]
@[simp] theorem ts (G S : List α) (a : Nat) (x : α) (k : Nat) : (G.set a x ++ S).take (G.length + k) = G.set a x ++ S.take k := by
  have := tn (G.set a x) S k
  rwa [List.length_set] at this
end
end Zl

/-! Zl, part 16: reckoning with ranges, dicts, packs of new objects. -/
namespace Zl
open PySem L2
section
variable {σ : St} {G : Hz} {α β : Type}
@[simp] theorem cIsB_bb (i j : Bool) : cIsB (.bl i) (.bl j) G = some (.bl (decide (i = j)), G) := nr rfl
@[simp] theorem cNotB_bb (i j : Bool) : cNotB (.bl i) (.bl j) G = some (.bl (!decide (i = j)), G) := nr rfl
def irange (a : Int) (n : Nat) : List Int := (List.range n).map fun (i : Nat) => a + (i : Int)
@[simp] theorem irange_length (a : Int) (n : Nat) : (irange a n).length = n := by simp [-Option.bind_some, -List.map_take, -List.map_drop, -List.map_append, -List.map_reverse, -List.map_set, -List.map_dropLast, -getElem?_pos, irange]
def lr1A : V × Hz → Option (V × Hz)
  | (.int n, H) => lrg 0 n H
  | _ => none
@[simp] theorem lr1A_ev (n : Int) (H : Hz) : lr1A (.int n, H) = lrg 0 n H := nr rfl
@[simp] theorem eListR1_ev (a : ME) : eListR1 a σ G = (a σ G).bind lr1A := by
  unfold eListR1
  congr 1
  funext p
  rcases p with ⟨v, H⟩
  cases v <;> rfl
def lr2B (x : V) : V × Hz → Option (V × Hz)
  | (.int j, H) => match x with
    | .int i => lrg i j H
    | _ => none
  | _ => none
@[simp] theorem lr2B_ev (i j : Int) (H : Hz) : lr2B (.int i) (.int j, H) = lrg i j H := nr rfl
def lr2A (b : ME) (σ : St) : V × Hz → Option (V × Hz) := fun p => (b σ p.2).bind (lr2B p.1)
@[simp] theorem lr2A_ev (b : ME) (σ : St) (x : V) (H : Hz) : lr2A b σ (x, H) = (b σ H).bind (lr2B x) := nr rfl
@[simp] theorem eListR2_ev (a b : ME) : eListR2 a b σ G = (a σ G).bind (lr2A b σ) := by
  unfold eListR2
  congr 1
  funext p
  rcases p with ⟨v, H⟩
  show _ = (b σ H).bind (lr2B v)
  congr 1
  funext q
  rcases q with ⟨u, H2⟩
  cases v <;> cases u <;> rfl
def rvA (H : Hz) : List V → Option (V × Hz) := fun xs => some (.ref H.length, H ++ [.lst xs.reverse])
@[simp] theorem rvA_ev (H : Hz) (xs : List V) : rvA H xs = some (.ref H.length, H ++ [.lst xs.reverse]) := nr rfl
@[simp] theorem fRev_r (a : Nat) : fRev (.ref a) G = (lstO G[a]?).bind (rvA G) := by
  show (match G[a]? with | some (.lst xs) => alloc (.lst xs.reverse) G | _ => none) = _
  cases G[a]? with
  | none => rfl
  | some o => cases o <;> rfl
def catB (xs : List V) (H : Hz) : List V → Option (V × Hz) := fun ys => if xs.length + ys.length ≤ sizeLine then some (.ref H.length, H ++ [.lst (xs ++ ys)]) else none
@[simp] theorem catB_ev (xs ys : List V) (H : Hz) : catB xs H ys = if xs.length + ys.length ≤ sizeLine then some (.ref H.length, H ++ [.lst (xs ++ ys)]) else none := nr rfl
def catA (b : Nat) (H : Hz) : List V → Option (V × Hz) := fun xs => (lstO H[b]?).bind (catB xs H)
@[simp] theorem catA_ev (b : Nat) (H : Hz) (xs : List V) : catA b H xs = (lstO H[b]?).bind (catB xs H) := nr rfl
@[simp] theorem bAdd_rr (a b : Nat) : bAdd (.ref a) (.ref b) G = (lstO G[a]?).bind (catA b G) := by
  show (match G[a]?, G[b]? with | some (.lst xs), some (.lst ys) => if xs.length + ys.length ≤ sizeLine then alloc (.lst (xs ++ ys)) G else none | _, _ => none) = _
  cases G[a]? with
  | none => rfl
  | some o =>
    cases o <;> try rfl
    rename_i xs
    show _ = (lstO G[b]?).bind (catB xs G)
    cases G[b]? with
    | none => rfl
    | some u => cases u <;> rfl
@[simp] theorem eDct0_ev : eDct0 σ G = some (.ref G.length, G ++ [.dK []]) := nr rfl
def dkO : Option O → Option (List (Key × V))
  | some (.dK kvs) => some kvs
  | _ => none
@[simp] theorem dkO_dK (kvs : List (Key × V)) : dkO (some (.dK kvs)) = some kvs := nr rfl
def xdkA (k : Key) (H : Hz) : List (Key × V) → Option (V × Hz) := fun kvs => (valV kvs k).bind (ixB H)
@[simp] theorem xdkA_ev (k : Key) (H : Hz) (kvs : List (Key × V)) : xdkA k H kvs = (valV kvs k).bind (ixB H) := nr rfl
@[simp] theorem xDK_ri (a : Nat) (i : Int) : xDK (.ref a) (.int i) G = (dkO G[a]?).bind (xdkA (.inl i) G) := by
  show (match G[a]? with | some (.dK kvs) => (keyOf (.int i)).bind fun k => (valV kvs k).bind fun v => some (v, G) | _ => none) = _
  cases G[a]? with
  | none => rfl
  | some o => cases o <;> rfl
@[simp] theorem xDK_rs (a : Nat) (i : Str) : xDK (.ref a) (.str i) G = (dkO G[a]?).bind (xdkA (.inr i) G) := by
  show (match G[a]? with | some (.dK kvs) => (keyOf (.str i)).bind fun k => (valV kvs k).bind fun v => some (v, G) | _ => none) = _
  cases G[a]? with
  | none => rfl
  | some o => cases o <;> rfl
def pdA (a : Nat) (k : Key) (v : V) (H : Hz) : List (Key × V) → Option Hz := fun kvs => if kvs.length < sizeLine then some (H.set a (.dK (putK kvs k v))) else none
@[simp] theorem pdA_ev (a : Nat) (k : Key) (v : V) (H : Hz) (kvs : List (Key × V)) : pdA a k v H kvs = if kvs.length < sizeLine then some (H.set a (.dK (putK kvs k v))) else none := nr rfl
@[simp] theorem pDct_ri (a : Nat) (i : Int) (v : V) : pDct (.ref a) (.int i) v G = (dkO G[a]?).bind (pdA a (.inl i) v G) := by
  show (match G[a]? with | some (.dK kvs) => (keyOf (.int i)).bind fun k => if kvs.length < sizeLine then some (G.set a (.dK (putK kvs k v))) else none | _ => none) = _
  cases G[a]? with
  | none => rfl
  | some o => cases o <;> rfl
def dpB (H : Hz) : List (Key × V) → Option (V × Hz) := fun kvs => some (.ref H.length, H ++ [.dK (mergeK [] kvs)])
@[simp] theorem dpB_ev (H : Hz) (kvs : List (Key × V)) : dpB H kvs = some (.ref H.length, H ++ [.dK (mergeK [] kvs)]) := nr rfl
def dpA (H : Hz) : List V → Option (V × Hz) := fun xs => (mapO (pairO H) xs).bind (dpB H)
@[simp] theorem dpA_ev (H : Hz) (xs : List V) : dpA H xs = (mapO (pairO H) xs).bind (dpB H) := nr rfl
@[simp] theorem fDictP_r (a : Nat) : fDictP [.ref a] G = (lstO G[a]?).bind (dpA G) := by
  show (match G[a]? with | some (.lst xs) => (mapO (pairO G) xs).bind fun kvs => alloc (.dK (mergeK [] kvs)) G | _ => none) = _
  cases G[a]? with
  | none => rfl
  | some o => cases o <;> rfl
end
@[simp] theorem cutV_to_succ (xs : List V) (k : Nat) : cutV xs none (some ((k : Int) + 1)) = xs.take (k + 1) := by
  have := cutV_to_cast xs (k + 1)
  rwa [Int.natCast_add] at this
@[simp] theorem cutV_from_succ (xs : List V) (k : Nat) : cutV xs (some ((k : Int) + 1)) none = xs.drop (k + 1) := by
  have := cutV_from_cast xs (k + 1)
  rwa [Int.natCast_add] at this
@[simp] theorem atI_succ {α : Type} (xs : List α) (k : Nat) : atI xs ((k : Int) + 1) = xs[k + 1]? := by
  have := atI_cast xs (k + 1)
  rwa [Int.natCast_add] at this
@[simp] theorem nlt_add (n k : Nat) : (n + k < n) = False := by
  have : ¬ n + k < n := by omega
  exact eq_false this
@[simp] theorem nlt_add2 (n k j : Nat) : (n + k + j < n) = False := by
  have : ¬ n + k + j < n := by omega
  exact eq_false this
@[simp] theorem gnkk {α : Type} (G S : List α) (k j : Nat) : (G ++ S)[G.length + k + j]? = S[k + j]? := by rw [Nat.add_assoc, gnk]
/-! ### dicts by int keys -/
/-! ### reading places that stay -/
theorem get_app {G S : Hz} {a : Nat} {o : O} (h : G[a]? = some o) : (G ++ S)[a]? = some o := by rw [List.getElem?_append_left (lt_get h), h]
theorem rd_app {G S : Hz} : ∀ {k : Nat} {v : V} {d : PyData}, rdD k G v = some d → rdD k (G ++ S) v = some d
  | 0, v, d, h => by cases v <;> first | exact h | cases h
  | k + 1, v, d, h => by
    have ih : ∀ {v d}, rdD k G v = some d → rdD k (G ++ S) v = some d := fun h => rd_app h
    have mp : ∀ {xs : List V} {ds : List PyData}, mapO (rdD k G) xs = some ds → mapO (rdD k (G ++ S)) xs = some ds := by
      intro xs
      induction xs with
      | nil => intro ds h; exact h
      | cons x xs ihx =>
        intro ds h
        obtain ⟨y, e1, h⟩ := bnd h
        obtain ⟨ys, e2, h⟩ := bnd h
        cases h
        rw [mapO_cons, ih e1, ihx e2]
        rfl
    have mpK : ∀ {xs : List (Key × V)} {ds : List (PyData × PyData)}, mapO (fun (p : Key × V) => (rdD k G p.2).bind fun d => some ((match p.1 with | .inl i => PyData.int i | .inr s => PyData.str s), d)) xs = some ds →
        mapO (fun (p : Key × V) => (rdD k (G ++ S) p.2).bind fun d => some ((match p.1 with | .inl i => PyData.int i | .inr s => PyData.str s), d)) xs = some ds := by
      intro xs
      induction xs with
      | nil => intro ds h; exact h
      | cons x xs ihx =>
        intro ds h
        obtain ⟨y, e1, h⟩ := bnd h
        obtain ⟨ys, e2, h⟩ := bnd h
        cases h
        obtain ⟨z, e3, e1⟩ := bnd e1
        cases e1
        rw [mapO_cons, ih e3, ihx e2]
        rfl
    cases v with
    | ref a =>
      unfold rdD at h ⊢
      split at h
      · rename_i q
        rw [get_app q]
        obtain ⟨ds, e1, h⟩ := bnd h
        cases h
        dsimp only
        rw [mp e1]
        rfl
      · rename_i q
        rw [get_app q]
        obtain ⟨ds, e1, h⟩ := bnd h
        cases h
        dsimp only
        rw [mp e1]
        rfl
      · rename_i q
        rw [get_app q]
        obtain ⟨ds, e1, h⟩ := bnd h
        cases h
        exact Eq.trans (congrArg (fun o => Option.bind o fun ds => some (PyData.dict ds)) (mpK e1)) rfl
      · cases h
    | _ => first | exact h | cases h
end Zl

/-! Pl, part 14: simp lemmas. -/
namespace Pl
open PySem L2 Zl
@[simp] theorem pVar_ev (i : Nat) (ρ : PSt) : pVar i ρ = (getT ρ[i]?).bind (varK i ρ) := nr rfl
@[simp] theorem mvK_ev (i : Nat) (ρ : PSt) (t : Tr) : mvK i ρ t = some (.t t, ρ.set i none) := nr rfl
@[simp] theorem pMv_ev (i : Nat) (ρ : PSt) : pMv i ρ = (getT ρ[i]?).bind (mvK i ρ) := nr rfl
@[simp] theorem fzK_ev (i : Nat) (ρ : PSt) (t : Tr) : fzK i ρ t = some (.t t.dem, ρ.set i (some t.dem)) := nr rfl
@[simp] theorem pFz_ev (i : Nat) (ρ : PSt) : pFz i ρ = (getT ρ[i]?).bind (fzK i ρ) := nr rfl
@[simp] theorem pC_ev (v : V) (ρ : PSt) : pC v ρ = some (.t (.av v), ρ) := nr rfl
@[simp] theorem retT_ev (ρ : PSt) (t : Tr) : retT ρ t = some (.t t, ρ) := nr rfl
@[simp] theorem pBin4_ev (g : P2) (t1 : Tr) (ρ : PSt) (t2 : Tr) : pBin4 g t1 ρ t2 = (g t1 t2).bind (retT ρ) := nr rfl
@[simp] theorem pBin3_ev (g : P2) (e2 : E) (ρ : PSt) (t1 : Tr) : pBin3 g e2 ρ t1 = (dr ρ e2).bind (pBin4 g t1 ρ) := nr rfl
@[simp] theorem pBin2_ev (g : P2) (e1 : E) (x0 : E) (y0 : PSt) : pBin2 g e1 (x0, y0) = (dr y0 e1).bind (pBin3 g x0 y0) := nr rfl
@[simp] theorem pBin1_ev (g : P2) (b : PE) (x0 : E) (y0 : PSt) : pBin1 g b (x0, y0) = (b y0).bind (pBin2 g x0) := nr rfl
@[simp] theorem pBin_ev (g : P2) (a b : PE) (ρ : PSt) : pBin g a b ρ = (a ρ).bind (pBin1 g b) := nr rfl
@[simp] theorem pUn2_ev (g : P1) (ρ : PSt) (t : Tr) : pUn2 g ρ t = (g t).bind (retT ρ) := nr rfl
@[simp] theorem pUn1_ev (g : P1) (x0 : E) (y0 : PSt) : pUn1 g (x0, y0) = (dr y0 x0).bind (pUn2 g y0) := nr rfl
@[simp] theorem pUn_ev (g : P1) (a : PE) (ρ : PSt) : pUn g a ρ = (a ρ).bind (pUn1 g) := nr rfl
@[simp] theorem tB2_ev (ρ : PSt) (b : Bool) : tB2 ρ b = some (b, ρ) := nr rfl
@[simp] theorem tB1_ev (ρ : PSt) (t : Tr) : tB1 ρ t = (asB t).bind (tB2 ρ) := nr rfl
@[simp] theorem tB0_ev (x0 : E) (y0 : PSt) : tB0  (x0, y0) = (dr y0 x0).bind (tB1 y0) := nr rfl
@[simp] theorem qE_ev (a : PE) (ρ : PSt) : qE a ρ = (a ρ).bind tB0 := nr rfl
@[simp] theorem qAnd1_ev (b : PT) (x0 : Bool) (y0 : PSt) : qAnd1 b (x0, y0) = if x0 = true then b y0 else some (false, y0) := nr rfl
@[simp] theorem qAnd_ev (a b : PT) (ρ : PSt) : qAnd a b ρ = (a ρ).bind (qAnd1 b) := nr rfl
@[simp] theorem qOr1_ev (b : PT) (x0 : Bool) (y0 : PSt) : qOr1 b (x0, y0) = if x0 = true then some (true, y0) else b y0 := nr rfl
@[simp] theorem qOr_ev (a b : PT) (ρ : PSt) : qOr a b ρ = (a ρ).bind (qOr1 b) := nr rfl
@[simp] theorem qNot1_ev (x0 : Bool) (y0 : PSt) : qNot1  (x0, y0) = some (!x0, y0) := nr rfl
@[simp] theorem qNot_ev (a : PT) (ρ : PSt) : qNot a ρ = (a ρ).bind qNot1 := nr rfl
@[simp] theorem qYes_ev (ρ : PSt) : qYes  ρ = some (true, ρ) := nr rfl
@[simp] theorem pAnd1_ev (b : PE) (x0 : Bool) (y0 : PSt) : pAnd1 b (x0, y0) = if x0 = true then b y0 else some (.t (B false), y0) := nr rfl
@[simp] theorem pAnd_ev (a b : PE) (ρ : PSt) : pAnd a b ρ = ((a ρ).bind tB0).bind (pAnd1 b) := nr rfl
@[simp] theorem pOr1_ev (b : PE) (x0 : Bool) (y0 : PSt) : pOr1 b (x0, y0) = if x0 = true then some (.t (B true), y0) else b y0 := nr rfl
@[simp] theorem pOr_ev (a b : PE) (ρ : PSt) : pOr a b ρ = ((a ρ).bind tB0).bind (pOr1 b) := nr rfl
@[simp] theorem pNot1_ev (x0 : Bool) (y0 : PSt) : pNot1  (x0, y0) = some (.t (B (!x0)), y0) := nr rfl
@[simp] theorem pNot_ev (a : PE) (ρ : PSt) : pNot a ρ = ((a ρ).bind tB0).bind pNot1 := nr rfl
@[simp] theorem pIf1_ev (a b : PE) (x0 : Bool) (y0 : PSt) : pIf1 a b (x0, y0) = if x0 = true then a y0 else b y0 := nr rfl
@[simp] theorem pIf_ev (t : PT) (a b : PE) (ρ : PSt) : pIf t a b ρ = (t ρ).bind (pIf1 a b) := nr rfl
@[simp] theorem pCh5_ev (g : P2) (w : V) (ρ : PSt) (t3 : Tr) : pCh5 g w ρ t3 = (g (.av w) t3).bind (retT ρ) := nr rfl
@[simp] theorem pCh4_ev (g : P2) (w : V) (x0 : E) (y0 : PSt) : pCh4 g w (x0, y0) = (dr y0 x0).bind (pCh5 g w y0) := nr rfl
@[simp] theorem pCh3_ev (g : P2) (c : PE) (w : V) (ρ : PSt) (b : Bool) : pCh3 g c w ρ b = if b = true then (c ρ).bind (pCh4 g w) else some (.t (B false), ρ) := nr rfl
@[simp] theorem pCh2b_ev (f g : P2) (c : PE) (t1 : Tr) (ρ : PSt) (w : V) : pCh2b f g c t1 ρ w = ((f t1 (.av w)).bind asB).bind (pCh3 g c w ρ) := nr rfl
@[simp] theorem pCh2_ev (f g : P2) (c : PE) (t1 : Tr) (ρ : PSt) (t2 : Tr) : pCh2 f g c t1 ρ t2 = (atT t2).bind (pCh2b f g c t1 ρ) := nr rfl
@[simp] theorem pCh1_ev (f g : P2) (c : PE) (e2 : E) (ρ : PSt) (t1 : Tr) : pCh1 f g c e2 ρ t1 = (dr ρ e2).bind (pCh2 f g c t1 ρ) := nr rfl
@[simp] theorem pCh0_ev (f g : P2) (c : PE) (e1 : E) (x0 : E) (y0 : PSt) : pCh0 f g c e1 (x0, y0) = (dr y0 e1).bind (pCh1 f g c x0 y0) := nr rfl
@[simp] theorem pChA_ev (f g : P2) (b c : PE) (x0 : E) (y0 : PSt) : pChA f g b c (x0, y0) = (b y0).bind (pCh0 f g c x0) := nr rfl
@[simp] theorem pChain_ev (f g : P2) (a b c : PE) (ρ : PSt) : pChain f g a b c ρ = (a ρ).bind (pChA f g b c) := nr rfl
@[simp] theorem aNilP_ev (ρ : PSt) : aNilP  ρ = some ([], ρ) := nr rfl
@[simp] theorem aC2_ev (e : E) (x0 : List E) (y0 : PSt) : aC2 e (x0, y0) = some (e :: x0, y0) := nr rfl
@[simp] theorem aC1_ev (r : PA) (x0 : E) (y0 : PSt) : aC1 r (x0, y0) = (r y0).bind (aC2 x0) := nr rfl
@[simp] theorem aConsP_ev (a : PE) (r : PA) (ρ : PSt) : aConsP a r ρ = (a ρ).bind (aC1 r) := nr rfl
@[simp] theorem tks2_ev (x : Tr) (x0 : List Tr) (y0 : PSt) : tks2 x (x0, y0) = some (x :: x0, y0) := nr rfl
@[simp] theorem mkL2_ev (k : Kd) (ρ : PSt) (ts : List Tr) : mkL2 k ρ ts = if ts.length ≤ sizeLine then some (.t (.nd .own k ts), ρ) else none := nr rfl
@[simp] theorem pDis1_ev (k : Kd) (x0 : List E) (y0 : PSt) : pDis1 k (x0, y0) = (tks x0).bind (mkL2 k y0) := nr rfl
@[simp] theorem pDis_ev (k : Kd) (r : PA) (ρ : PSt) : pDis k r ρ = (r ρ).bind (pDis1 k) := nr rfl
@[simp] theorem pKeep1_ev (k : Kd) (x0 : List E) (y0 : PSt) : pKeep1 k (x0, y0) = (kps x0).bind (mkL2 k y0) := nr rfl
@[simp] theorem pKeep_ev (k : Kd) (r : PA) (ρ : PSt) : pKeep k r ρ = (r ρ).bind (pKeep1 k) := nr rfl
@[simp] theorem pCall2_ev (g : PL) (ρ : PSt) (ts : List Tr) : pCall2 g ρ ts = (g ts).bind (retT ρ) := nr rfl
@[simp] theorem pCall1_ev (g : PL) (x0 : List E) (y0 : PSt) : pCall1 g (x0, y0) = (drs y0 x0).bind (pCall2 g y0) := nr rfl
@[simp] theorem pCall_ev (g : PL) (r : PA) (ρ : PSt) : pCall g r ρ = (r ρ).bind (pCall1 g) := nr rfl
@[simp] theorem cvR_ev (e : E) (x0 : List Tr) (y0 : PSt) : cvR e (x0, y0) = (dr y0 e).map fun t => (t.toB :: x0, y0) := nr rfl
@[simp] theorem pFn4_ev (t : Tr) (ρ : PSt) : pFn4 t ρ = some (.t t, ρ) := nr rfl
@[simp] theorem pFn3_ev (ms : List Md) (es : List E) (ρ : PSt) (x0 : Tr) (y0 : PSt) : pFn3 ms es ρ (x0, y0) = (back ρ ms es y0).bind (pFn4 x0) := nr rfl
@[simp] theorem pFn2_ev (g : PF) (ms : List Md) (dvs : List V) (es : List E) (x0 : List Tr) (y0 : PSt) : pFn2 g ms dvs es (x0, y0) = (g (x0 ++ dvs.map .av)).bind (pFn3 ms es y0) := nr rfl
@[simp] theorem pFn1_ev (g : PF) (ms : List Md) (dvs : List V) (x0 : List E) (y0 : PSt) : pFn1 g ms dvs (x0, y0) = (cv y0 ms x0).bind (pFn2 g ms dvs x0) := nr rfl
@[simp] theorem pFn_ev (g : PF) (ms : List Md) (dvs : List V) (r : PA) (ρ : PSt) : pFn g ms dvs r ρ = (r ρ).bind (pFn1 g ms dvs) := nr rfl
@[simp] theorem pMut4_ev (i : Nat) (ρ : PSt) (x0 : Tr) (y0 : Tr) : pMut4 i ρ (x0, y0) = some (.t x0, ρ.set i (some y0)) := nr rfl
@[simp] theorem pMut3_ev (g : PM) (i : Nat) (ts : List Tr) (ρ : PSt) (t : Tr) : pMut3 g i ts ρ t = (g t ts).bind (pMut4 i ρ) := nr rfl
@[simp] theorem pMut2_ev (g : PM) (i : Nat) (ρ : PSt) (ts : List Tr) : pMut2 g i ρ ts = (getT ρ[i]?).bind (pMut3 g i ts ρ) := nr rfl
@[simp] theorem pMut1_ev (tc : Nat) (g : PM) (i : Nat) (x0 : List E) (y0 : PSt) : pMut1 tc g i (x0, y0) = (argsT tc y0 x0).bind (pMut2 g i y0) := nr rfl
@[simp] theorem pMut0_ev (ck : Tr → Bool) (tc : Nat) (g : PM) (i : Nat) (r : PA) (ρ : PSt) (t : Tr) : pMut0 ck tc g i r ρ t = if ck t = true then (r ρ).bind (pMut1 tc g i) else none := nr rfl
@[simp] theorem pMut_ev (ck : Tr → Bool) (tc : Nat) (g : PM) (i : Nat) (r : PA) (ρ : PSt) : pMut ck tc g i r ρ = (getT ρ[i]?).bind (pMut0 ck tc g i r ρ) := nr rfl
@[simp] theorem zSeq1_ev (b : PS) (r : PR) : zSeq1 b r = r.then b := nr rfl
@[simp] theorem zSeq_ev (a b : PS) (ρ : PSt) : zSeq a b ρ = (a ρ).bind (zSeq1 b) := nr rfl
@[simp] theorem zPass_ev (ρ : PSt) : zPass  ρ = some (.nx ρ) := nr rfl
@[simp] theorem zNever_ev (ρ : PSt) : zNever ρ = none := nr rfl
@[simp] theorem zBreak_ev (ρ : PSt) : zBreak  ρ = some (.bk ρ) := nr rfl
@[simp] theorem zCont_ev (ρ : PSt) : zCont  ρ = some (.ct ρ) := nr rfl
@[simp] theorem zKill_ev (ds : List Nat) (b : PS) (ρ : PSt) : zKill ds b ρ = (b ρ).bind (zKill1 ds) := nr rfl
@[simp] theorem zExpr1_ev (x0 : E) (y0 : PSt) : zExpr1  (x0, y0) = some (.nx y0) := nr rfl
@[simp] theorem zExpr_ev (a : PE) (ρ : PSt) : zExpr a ρ = (a ρ).bind zExpr1 := nr rfl
@[simp] theorem zRet2_ev (ρ : PSt) (t : Tr) : zRet2 ρ t = some (.rt t ρ) := nr rfl
@[simp] theorem zRet1_ev (x0 : E) (y0 : PSt) : zRet1  (x0, y0) = (kp x0).bind (zRet2 y0) := nr rfl
@[simp] theorem zRet_ev (a : PE) (ρ : PSt) : zRet a ρ = (a ρ).bind zRet1 := nr rfl
@[simp] theorem zRetN_ev (ρ : PSt) : zRetN  ρ = some (.rt NN ρ) := nr rfl
@[simp] theorem zIf1_ev (a b : PS) (x0 : Bool) (y0 : PSt) : zIf1 a b (x0, y0) = if x0 = true then a y0 else b y0 := nr rfl
@[simp] theorem zIf_ev (t : PT) (a b : PS) (ρ : PSt) : zIf t a b ρ = (t ρ).bind (zIf1 a b) := nr rfl
@[simp] theorem zAsg2_ev (ρ : PSt) : zAsg2  ρ = some (.nx ρ) := nr rfl
@[simp] theorem zAsg1_ev (g : PG) (ρ : PSt) (t : Tr) : zAsg1 g ρ t = (g t ρ).bind zAsg2 := nr rfl
@[simp] theorem zAsg0_ev (g : PG) (x0 : E) (y0 : PSt) : zAsg0 g (x0, y0) = (kp x0).bind (zAsg1 g y0) := nr rfl
@[simp] theorem zAsg_ev (e : PE) (g : PG) (ρ : PSt) : zAsg e g ρ = (e ρ).bind (zAsg0 g) := nr rfl
@[simp] theorem zPut5_ev (x : Nat) (ρ : PSt) (t : Tr) : zPut5 x ρ t = some (.nx (ρ.set x (some t))) := nr rfl
@[simp] theorem zPut4_ev (f : PP) (x : Nat) (v : Tr) (ρ : PSt) (o : Tr) (i : Tr) : zPut4 f x v ρ o i = (f o i v).bind (zPut5 x ρ) := nr rfl
@[simp] theorem zPut3_ev (f : PP) (x : Nat) (v : Tr) (i : E) (ρ : PSt) (o : Tr) : zPut3 f x v i ρ o = (dr ρ i).bind (zPut4 f x v ρ o) := nr rfl
@[simp] theorem zPut2_ev (f : PP) (x : Nat) (v : Tr) (x0 : E) (y0 : PSt) : zPut2 f x v (x0, y0) = (getT y0[x]?).bind (zPut3 f x v x0 y0) := nr rfl
@[simp] theorem zPut1_ev (f : PP) (x : Nat) (i : PE) (ρ : PSt) (v : Tr) : zPut1 f x i ρ v = (i ρ).bind (zPut2 f x v) := nr rfl
@[simp] theorem zPut0_ev (f : PP) (x : Nat) (i : PE) (x0 : E) (y0 : PSt) : zPut0 f x i (x0, y0) = (tk x0).bind (zPut1 f x i y0) := nr rfl
@[simp] theorem zPut_ev (f : PP) (e : PE) (x : Nat) (i : PE) (ρ : PSt) : zPut f e x i ρ = (e ρ).bind (zPut0 f x i) := nr rfl
@[simp] theorem zPar1_ev (is : List Nat) (ρ : PSt) (ts : List Tr) : zPar1 is ρ ts = (setP is ts ρ).bind zAsg2 := nr rfl
@[simp] theorem zPar0_ev (is : List Nat) (x0 : List E) (y0 : PSt) : zPar0 is (x0, y0) = (kps x0).bind (zPar1 is y0) := nr rfl
@[simp] theorem zPar_ev (is : List Nat) (r : PA) (ρ : PSt) : zPar is r ρ = (r ρ).bind (zPar0 is) := nr rfl
@[simp] theorem zAug4_ev (i : Nat) (ρ : PSt) (t : Tr) : zAug4 i ρ t = some (.nx (ρ.set i (some t))) := nr rfl
@[simp] theorem zAug3_ev (g : P2) (i : Nat) (ρ : PSt) (w : V) (t2 : Tr) : zAug3 g i ρ w t2 = (g (.av w) t2).bind (zAug4 i ρ) := nr rfl
@[simp] theorem zAug2_ev (g : P2) (i : Nat) (w : V) (x0 : E) (y0 : PSt) : zAug2 g i w (x0, y0) = (dr y0 x0).bind (zAug3 g i y0 w) := nr rfl
@[simp] theorem zAug1_ev (g : P2) (i : Nat) (e : PE) (ρ : PSt) (w : V) : zAug1 g i e ρ w = (e ρ).bind (zAug2 g i w) := nr rfl
@[simp] theorem zAug_ev (i : Nat) (g : P2) (e : PE) (ρ : PSt) : zAug i g e ρ = ((getT ρ[i]?).bind atT).bind (zAug1 g i e ρ) := nr rfl
@[simp] theorem lp2_ev (b : PS) (k : PSt → Option PR) (ρ : PSt) : lp2 b k ρ = (b ρ).bind (lp3 k) := nr rfl
@[simp] theorem lpW1_ev (b : PS) (k : PSt → Option PR) (x0 : Bool) (y0 : PSt) : lpW1 b k (x0, y0) = if x0 = true then (b y0).bind (lp3 k) else some (.nx y0) := nr rfl
@[simp] theorem pT1_ev (x0 : E) (y0 : PSt) : pT1  (x0, y0) = (kp x0).bind (retT y0) := nr rfl
@[simp] theorem pT_ev (a : PE) (ρ : PSt) : pT a ρ = (a ρ).bind pT1 := nr rfl
@[simp] theorem wR1b_ev (ρ : PSt) (j : Int) : wR1b ρ j = some (rgT 0 j, ρ) := nr rfl
@[simp] theorem wR1a_ev (x0 : E) (y0 : PSt) : wR1a  (x0, y0) = ((dr y0 x0).bind small62T).bind (wR1b y0) := nr rfl
@[simp] theorem wR1_ev (a : PE) (ρ : PSt) : wR1 a ρ = (a ρ).bind wR1a := nr rfl
@[simp] theorem wR2c_ev (i : Int) (ρ : PSt) (j : Int) : wR2c i ρ j = some (rgT i j, ρ) := nr rfl
@[simp] theorem wR2b_ev (e2 : E) (ρ : PSt) (i : Int) : wR2b e2 ρ i = ((dr ρ e2).bind small62T).bind (wR2c i ρ) := nr rfl
@[simp] theorem wR2a_ev (e1 : E) (x0 : E) (y0 : PSt) : wR2a e1 (x0, y0) = ((dr y0 e1).bind small62T).bind (wR2b x0 y0) := nr rfl
@[simp] theorem wR20_ev (b : PE) (x0 : E) (y0 : PSt) : wR20 b (x0, y0) = (b y0).bind (wR2a x0) := nr rfl
@[simp] theorem wR2_ev (a b : PE) (ρ : PSt) : wR2 a b ρ = (a ρ).bind (wR20 b) := nr rfl
@[simp] theorem wRDc_ev (i : Int) (ρ : PSt) (j : Int) : wRDc i ρ j = some (dgT i j, ρ) := nr rfl
@[simp] theorem wRDb_ev (e2 : E) (ρ : PSt) (i : Int) : wRDb e2 ρ i = ((dr ρ e2).bind small62T).bind (wRDc i ρ) := nr rfl
@[simp] theorem wRDa_ev (e1 : E) (x0 : E) (y0 : PSt) : wRDa e1 (x0, y0) = ((dr y0 e1).bind small62T).bind (wRDb x0 y0) := nr rfl
@[simp] theorem wRD0_ev (b : PE) (x0 : E) (y0 : PSt) : wRD0 b (x0, y0) = (b y0).bind (wRDa x0) := nr rfl
@[simp] theorem wRD_ev (a b : PE) (ρ : PSt) : wRD a b ρ = (a ρ).bind (wRD0 b) := nr rfl
@[simp] theorem pairI_ev (ρ : PSt) (xs : List Tr) : pairI ρ xs = some (xs, ρ) := nr rfl
@[simp] theorem wL1_ev (x0 : E) (y0 : PSt) : wL1  (x0, y0) = ((dr y0 x0).bind seqT).bind (pairI y0) := nr rfl
@[simp] theorem wL_ev (a : PE) (ρ : PSt) : wL a ρ = (a ρ).bind wL1 := nr rfl
@[simp] theorem enI_ev (k : Int) (ρ : PSt) (xs : List Tr) : enI k ρ xs = some (enT k xs, ρ) := nr rfl
@[simp] theorem wEn1_ev (k : Int) (x0 : E) (y0 : PSt) : wEn1 k (x0, y0) = ((dr y0 x0).bind lsT).bind (enI k y0) := nr rfl
@[simp] theorem wEn_ev (k : Int) (a : PE) (ρ : PSt) : wEn k a ρ = (a ρ).bind (wEn1 k) := nr rfl
@[simp] theorem wZp3_ev (ρ : PSt) (xs : List Tr) (ys : List Tr) : wZp3 ρ xs ys = some (zpT xs ys, ρ) := nr rfl
@[simp] theorem wZp2_ev (e2 : E) (ρ : PSt) (xs : List Tr) : wZp2 e2 ρ xs = ((dr ρ e2).bind lsT).bind (wZp3 ρ xs) := nr rfl
@[simp] theorem wZp1_ev (e1 : E) (x0 : E) (y0 : PSt) : wZp1 e1 (x0, y0) = ((dr y0 e1).bind lsT).bind (wZp2 x0 y0) := nr rfl
@[simp] theorem wZp0_ev (b : PE) (x0 : E) (y0 : PSt) : wZp0 b (x0, y0) = (b y0).bind (wZp1 x0) := nr rfl
@[simp] theorem wZp_ev (a b : PE) (ρ : PSt) : wZp a b ρ = (a ρ).bind (wZp0 b) := nr rfl
@[simp] theorem cAcc_ev (vs : List Nat) (acc : List Tr) (ρ : PSt) (t : Tr) : cAcc vs acc ρ t = if acc.length < sizeLine then some (acc ++ [t], kills ρ vs) else none := nr rfl
@[simp] theorem cEl_ev (kk : Bool) (vs : List Nat) (acc : List Tr) (x0 : E) (y0 : PSt) : cEl kk vs acc (x0, y0) = (if kk = true then kp x0 else tk x0).bind (cAcc vs acc y0) := nr rfl
@[simp] theorem cIt_ev (kk : Bool) (vs : List Nat) (e : PE) (acc : List Tr) (x0 : Bool) (y0 : PSt) : cIt kk vs e acc (x0, y0) = if x0 = true then (e y0).bind (cEl kk vs acc) else some (acc, kills y0 vs) := nr rfl
@[simp] theorem cTu_ev (kk : Bool) (vs : List Nat) (t : PT) (e : PE) (acc : List Tr) (ρ : PSt) : cTu kk vs t e acc ρ = (t ρ).bind (cIt kk vs e acc) := nr rfl
@[simp] theorem c2In_ev (kk : Bool) (n : Nat) (vs1 : List Nat) (g1 : PG) (t1 : PT) (e : PE) (acc : List Tr) (x0 : List Tr) (y0 : PSt) : c2In kk n vs1 g1 t1 e acc (x0, y0) = if x0.length < n then cLp kk vs1 g1 t1 e x0 acc (kills y0 vs1) else none := nr rfl
@[simp] theorem c2Ki_ev (vs : List Nat) (x0 : List Tr) (y0 : PSt) : c2Ki vs (x0, y0) = some (x0, kills y0 vs) := nr rfl
@[simp] theorem c2It_ev (kk : Bool) (n : Nat) (vs : List Nat) (w1 : PI) (vs1 : List Nat) (g1 : PG) (t1 : PT) (e : PE) (acc : List Tr) (x0 : Bool) (y0 : PSt) : c2It kk n vs w1 vs1 g1 t1 e acc (x0, y0) = if x0 = true then ((w1 y0).bind (c2In kk n vs1 g1 t1 e acc)).bind (c2Ki vs) else some (acc, kills y0 vs) := nr rfl
@[simp] theorem c2Tu_ev (kk : Bool) (n : Nat) (vs : List Nat) (t : PT) (w1 : PI) (vs1 : List Nat) (g1 : PG) (t1 : PT) (e : PE) (acc : List Tr) (ρ : PSt) : c2Tu kk n vs t w1 vs1 g1 t1 e acc ρ = (t ρ).bind (c2It kk n vs w1 vs1 g1 t1 e acc) := nr rfl
@[simp] theorem oNo_ev (ρ : PSt) : oNo  ρ = some (none, ρ) := nr rfl
@[simp] theorem oSo3_ev (ρ : PSt) (i : Int) : oSo3 ρ i = some (some i, ρ) := nr rfl
@[simp] theorem oSo2_ev (ρ : PSt) (t : Tr) : oSo2 ρ t = (asI t).bind (oSo3 ρ) := nr rfl
@[simp] theorem oSo1_ev (x0 : E) (y0 : PSt) : oSo1  (x0, y0) = (dr y0 x0).bind (oSo2 y0) := nr rfl
@[simp] theorem oSo_ev (a : PE) (ρ : PSt) : oSo a ρ = (a ρ).bind oSo1 := nr rfl
@[simp] theorem pSl3_ev (lo hi : Option Int) (ρ : PSt) (t : Tr) : pSl3 lo hi ρ t = (pCutT lo hi t).bind (retT ρ) := nr rfl
@[simp] theorem pSl2_ev (e : E) (lo : Option Int) (x0 : Option Int) (y0 : PSt) : pSl2 e lo (x0, y0) = (dr y0 e).bind (pSl3 lo x0 y0) := nr rfl
@[simp] theorem pSl1_ev (h : PO) (e : E) (x0 : Option Int) (y0 : PSt) : pSl1 h e (x0, y0) = (h y0).bind (pSl2 e x0) := nr rfl
@[simp] theorem pSl0_ev (l h : PO) (x0 : E) (y0 : PSt) : pSl0 l h (x0, y0) = (l y0).bind (pSl1 h x0) := nr rfl
@[simp] theorem pSl_ev (a : PE) (l h : PO) (ρ : PSt) : pSl a l h ρ = (a ρ).bind (pSl0 l h) := nr rfl
@[simp] theorem pLR1b_ev (ρ : PSt) (j : Int) : pLR1b ρ j = (lrT 0 j).bind (retT ρ) := nr rfl
@[simp] theorem pLR1a_ev (x0 : E) (y0 : PSt) : pLR1a  (x0, y0) = ((dr y0 x0).bind asI).bind (pLR1b y0) := nr rfl
@[simp] theorem pLR1_ev (a : PE) (ρ : PSt) : pLR1 a ρ = (a ρ).bind pLR1a := nr rfl
@[simp] theorem pLR2c_ev (i : Int) (ρ : PSt) (j : Int) : pLR2c i ρ j = (lrT i j).bind (retT ρ) := nr rfl
@[simp] theorem pLR2b_ev (e2 : E) (ρ : PSt) (i : Int) : pLR2b e2 ρ i = ((dr ρ e2).bind asI).bind (pLR2c i ρ) := nr rfl
@[simp] theorem pLR2a_ev (e1 : E) (x0 : E) (y0 : PSt) : pLR2a e1 (x0, y0) = ((dr y0 e1).bind asI).bind (pLR2b x0 y0) := nr rfl
@[simp] theorem pLR20_ev (b : PE) (x0 : E) (y0 : PSt) : pLR20 b (x0, y0) = (b y0).bind (pLR2a x0) := nr rfl
@[simp] theorem pLR2_ev (a b : PE) (ρ : PSt) : pLR2 a b ρ = (a ρ).bind (pLR20 b) := nr rfl
@[simp] theorem pLDc_ev (i : Int) (ρ : PSt) (j : Int) : pLDc i ρ j = (ldT i j).bind (retT ρ) := nr rfl
@[simp] theorem pLDb_ev (e2 : E) (ρ : PSt) (i : Int) : pLDb e2 ρ i = ((dr ρ e2).bind asI).bind (pLDc i ρ) := nr rfl
@[simp] theorem pLDa_ev (e1 : E) (x0 : E) (y0 : PSt) : pLDa e1 (x0, y0) = ((dr y0 e1).bind asI).bind (pLDb x0 y0) := nr rfl
@[simp] theorem pLD0_ev (b : PE) (x0 : E) (y0 : PSt) : pLD0 b (x0, y0) = (b y0).bind (pLDa x0) := nr rfl
@[simp] theorem pLD_ev (a b : PE) (ρ : PSt) : pLD a b ρ = (a ρ).bind (pLD0 b) := nr rfl
@[simp] theorem pDct0_ev (ρ : PSt) : pDct0  ρ = some (.t (.nd .own (.dct []) []), ρ) := nr rfl
@[simp] theorem pG6_ev (tk tx : Tr) (ρ : PSt) (o : Tr) : pG6 tk tx ρ o = (g2T tk tx o).bind (retT ρ) := nr rfl
@[simp] theorem pG5_ev (e1 : E) (tk : Tr) (ρ : PSt) (tx : Tr) : pG5 e1 tk ρ tx = (dr ρ e1).bind (pG6 tk tx ρ) := nr rfl
@[simp] theorem pG4_ev (e1 e3 : E) (ρ : PSt) (tk : Tr) : pG4 e1 e3 ρ tk = (dr ρ e3).bind (pG5 e1 tk ρ) := nr rfl
@[simp] theorem pG3_ev (e1 e2 : E) (x0 : E) (y0 : PSt) : pG3 e1 e2 (x0, y0) = (dr y0 e2).bind (pG4 e1 x0 y0) := nr rfl
@[simp] theorem pG2_ev (x : PE) (e1 : E) (x0 : E) (y0 : PSt) : pG2 x e1 (x0, y0) = (x y0).bind (pG3 e1 x0) := nr rfl
@[simp] theorem pG1b_ev (k x : PE) (e1 : E) (ρ : PSt) (t : Tr) : pG1b k x e1 ρ t = if isDT t = true then (k ρ).bind (pG2 x e1) else none := nr rfl
@[simp] theorem pG1_ev (k x : PE) (x0 : E) (y0 : PSt) : pG1 k x (x0, y0) = (dr y0 x0).bind (pG1b k x x0 y0) := nr rfl
@[simp] theorem pGet2_ev (a k x : PE) (ρ : PSt) : pGet2 a k x ρ = (a ρ).bind (pG1 k x) := nr rfl
@[simp] theorem pMe3_ev (g : Tr → PL) (ts : List Tr) (ρ : PSt) (o : Tr) : pMe3 g ts ρ o = (g o ts).bind (retT ρ) := nr rfl
@[simp] theorem pMe2_ev (g : Tr → PL) (e1 : E) (ρ : PSt) (ts : List Tr) : pMe2 g e1 ρ ts = (dr ρ e1).bind (pMe3 g ts ρ) := nr rfl
@[simp] theorem pMe1_ev (g : Tr → PL) (e1 : E) (x0 : List E) (y0 : PSt) : pMe1 g e1 (x0, y0) = (drs y0 x0).bind (pMe2 g e1 y0) := nr rfl
@[simp] theorem pMe0_ev (ck : Tr → Bool) (g : Tr → PL) (r : PA) (e1 : E) (ρ : PSt) (t : Tr) : pMe0 ck g r e1 ρ t = if ck t = true then (r ρ).bind (pMe1 g e1) else none := nr rfl
@[simp] theorem pMeA_ev (ck : Tr → Bool) (g : Tr → PL) (r : PA) (x0 : E) (y0 : PSt) : pMeA ck g r (x0, y0) = (dr y0 x0).bind (pMe0 ck g r x0 y0) := nr rfl
@[simp] theorem pMe_ev (ck : Tr → Bool) (g : Tr → PL) (a : PE) (r : PA) (ρ : PSt) : pMe ck g a r ρ = (a ρ).bind (pMeA ck g r) := nr rfl
@[simp] theorem intR_ev (m : Int) : intR  m = some (.av (.int m)) := nr rfl
@[simp] theorem isiR_ev (b : Bool) : isiR  b = some (.av (.bl b)) := nr rfl
@[simp] theorem isiR2_ev (n : String) (s : String) : isiR2 n s = (isiT s n).bind isiR := nr rfl
@[simp] theorem av_int (i : Int) : Tr.av (.int i) = I i := nr rfl
@[simp] theorem av_bl (b : Bool) : Tr.av (.bl b) = B b := nr rfl
@[simp] theorem av_str (s : Str) : Tr.av (.str s) = S s := nr rfl
@[simp] theorem av_non : Tr.av .non = NN := nr rfl
@[simp] theorem getT_ss (x : Tr) : getT (some (some x)) = some x := nr rfl
@[simp] theorem getT_sn : getT (some none) = none := nr rfl
@[simp] theorem getT_n : getT none = none := nr rfl
@[simp] theorem varK_I (i : Nat) (ρ : PSt) (k : Int) : varK i ρ (I k) = some (.t (I k), ρ) := nr rfl
@[simp] theorem varK_B (i : Nat) (ρ : PSt) (k : Bool) : varK i ρ (B k) = some (.t (B k), ρ) := nr rfl
@[simp] theorem varK_S (i : Nat) (ρ : PSt) (k : Str) : varK i ρ (S k) = some (.t (S k), ρ) := nr rfl
@[simp] theorem varK_N (i : Nat) (ρ : PSt) : varK i ρ NN = some (.t NN, ρ) := nr rfl
@[simp] theorem varK_own (i : Nat) (ρ : PSt) (k : Kd) (xs : List Tr) : varK i ρ (.nd .own k xs) = some (.al i, ρ) := nr rfl
@[simp] theorem varK_bor (i : Nat) (ρ : PSt) (k : Kd) (xs : List Tr) : varK i ρ (.nd .bor k xs) = some (.t (.nd .bor k xs), ρ) := nr rfl
@[simp] theorem varK_frz (i : Nat) (ρ : PSt) (k : Kd) (xs : List Tr) : varK i ρ (.nd .frz k xs) = some (.t (.nd .frz k xs), ρ) := nr rfl
@[simp] theorem dr_t (ρ : PSt) (x : Tr) : dr ρ (.t x) = some x := nr rfl
@[simp] theorem dr_al (ρ : PSt) (i : Nat) : dr ρ (.al i) = getT ρ[i]? := nr rfl
@[simp] theorem asB_B (b : Bool) : asB (B b) = some b := nr rfl
@[simp] theorem asI_I (b : Int) : asI (I b) = some b := nr rfl
@[simp] theorem atT_I (b : Int) : atT (I b) = some (.int b) := nr rfl
@[simp] theorem atT_B (b : Bool) : atT (B b) = some (.bl b) := nr rfl
@[simp] theorem atT_S (b : Str) : atT (S b) = some (.str b) := nr rfl
@[simp] theorem atT_N : atT NN = some .non := nr rfl
@[simp] theorem drs_nil (ρ : PSt) : drs ρ [] = some [] := nr rfl
def dMap (t : Tr) : List Tr → Option (List Tr) := fun ts => some (t :: ts)
@[simp] theorem dMap_ev (t : Tr) (ts : List Tr) : dMap t ts = some (t :: ts) := nr rfl
def dCons (ρ : PSt) (es : List E) : Tr → Option (List Tr) := fun t => (drs ρ es).bind (dMap t)
@[simp] theorem dCons_ev (ρ : PSt) (es : List E) (t : Tr) : dCons ρ es t = (drs ρ es).bind (dMap t) := nr rfl
@[simp] theorem drs_cons (ρ : PSt) (e : E) (es : List E) : drs ρ (e :: es) = (dr ρ e).bind (dCons ρ es) := by
  show (dr ρ e).bind (fun t => (drs ρ es).map (t :: ·)) = _
  congr 1
  funext t
  show _ = (drs ρ es).bind (dMap t)
  cases drs ρ es <;> rfl
@[simp] theorem tk_t (x : Tr) : tk (.t x) = some x.dem := nr rfl
@[simp] theorem kp_t (x : Tr) : kp (.t x) = some x := nr rfl
@[simp] theorem tks_nil : tks [] = some [] := nr rfl
@[simp] theorem kps_nil : kps [] = some [] := nr rfl
def tCons (es : List E) : Tr → Option (List Tr) := fun t => (tks es).bind (dMap t)
@[simp] theorem tCons_ev (es : List E) (t : Tr) : tCons es t = (tks es).bind (dMap t) := nr rfl
@[simp] theorem tks_cons (e : E) (es : List E) : tks (e :: es) = (tk e).bind (tCons es) := by
  show (tk e).bind (fun t => (tks es).map (t :: ·)) = _
  congr 1
  funext t
  show _ = (tks es).bind (dMap t)
  cases tks es <;> rfl
def kCons (es : List E) : Tr → Option (List Tr) := fun t => (kps es).bind (dMap t)
@[simp] theorem kCons_ev (es : List E) (t : Tr) : kCons es t = (kps es).bind (dMap t) := nr rfl
@[simp] theorem kps_cons (e : E) (es : List E) : kps (e :: es) = (kp e).bind (kCons es) := by
  show (kp e).bind (fun t => (kps es).map (t :: ·)) = _
  congr 1
  funext t
  show _ = (kps es).bind (dMap t)
  cases kps es <;> rfl
@[simp] theorem argsT_0 (ρ : PSt) (es : List E) : argsT 0 ρ es = drs ρ es := nr rfl
@[simp] theorem argsT_1 (ρ : PSt) (es : List E) : argsT 1 ρ es = tks es := nr rfl
@[simp] theorem argsT_2 (ρ : PSt) (es : List E) : argsT 2 ρ es = kps es := nr rfl
@[simp] theorem isLT_l (f : Fl) (xs : List Tr) : isLT (.nd f .lst xs) = true := nr rfl
@[simp] theorem isDT_l (f : Fl) (ks : List Key) (xs : List Tr) : isDT (.nd f (.dct ks) xs) = true := nr rfl
/-! calls -/
@[simp] theorem cvM_t (i : Nat) (ρ : PSt) (x : Tr) : cvM i ρ (.t x) = some (x, ρ) := nr rfl
def cvMk (i : Nat) (ρ : PSt) : Tr → Option (Tr × PSt) := fun t => some (t, ρ.set i none)
@[simp] theorem cvMk_ev (i : Nat) (ρ : PSt) (t : Tr) : cvMk i ρ t = some (t, ρ.set i none) := nr rfl
@[simp] theorem cvM_al (i : Nat) (ρ : PSt) : cvM i ρ (.al i) = (getT ρ[i]?).bind (cvMk i ρ) := by
  show (if i = i then (getT ρ[i]?).map fun t => (t, ρ.set i none) else none) = _
  rw [if_pos rfl]
  cases getT ρ[i]? <;> rfl
def cvRk (ts : List Tr) (ρ : PSt) : Tr → Option (List Tr × PSt) := fun t => some (t.toB :: ts, ρ)
@[simp] theorem cvRk_ev (ts : List Tr) (ρ : PSt) (t : Tr) : cvRk ts ρ t = some (t.toB :: ts, ρ) := nr rfl
@[simp] theorem cvR_ev' (e : E) (ts : List Tr) (ρ : PSt) : cvR e (ts, ρ) = (dr ρ e).bind (cvRk ts ρ) := by
  show (dr ρ e).map _ = _
  cases dr ρ e <;> rfl
@[simp] theorem cv_nil (ρ : PSt) : cv ρ [] [] = some ([], ρ) := nr rfl
def cvFk (ts : List Tr) (ρ : PSt) : Tr → Option (List Tr × PSt) := fun t => some (t.toK :: ts, ρ)
@[simp] theorem cvFk_ev (ts : List Tr) (ρ : PSt) (t : Tr) : cvFk ts ρ t = some (t.toK :: ts, ρ) := nr rfl
@[simp] theorem cvF_ev (e : E) (ts : List Tr) (ρ : PSt) : cvF e (ts, ρ) = (dr ρ e).bind (cvFk ts ρ) := by
  show (dr ρ e).map _ = _
  cases dr ρ e <;> rfl
@[simp] theorem cv_f (ρ : PSt) (ms : List Md) (e : E) (es : List E) : cv ρ (.f :: ms) (e :: es) = (cv ρ ms es).bind (cvF e) := nr rfl
@[simp] theorem back_f (ρ : PSt) (ms : List Md) (e : E) (es : List E) (f : Option Tr) (fs : PSt) : back ρ (.f :: ms) (e :: es) (f :: fs) = back ρ ms es fs := by cases e <;> rfl
@[simp] theorem toK_av (v : V) : (Tr.av v).toK = .av v := by unfold Tr.toK; rfl
@[simp] theorem toK_I (i : Int) : (I i).toK = I i := toK_av _
@[simp] theorem toK_B (i : Bool) : (B i).toK = B i := toK_av _
@[simp] theorem toK_S (i : Str) : (S i).toK = S i := toK_av _
@[simp] theorem toK_N : NN.toK = NN := toK_av _
@[simp] theorem toK_own (k : Kd) (xs : List Tr) : (Tr.nd .own k xs).toK = .nd .bor k (toKs xs) := by rw [Tr.toK]
@[simp] theorem toK_bor (k : Kd) (xs : List Tr) : (Tr.nd .bor k xs).toK = .nd .bor k xs := by rw [Tr.toK]; exact fun z => nomatch z
@[simp] theorem toK_frz (k : Kd) (xs : List Tr) : (Tr.nd .frz k xs).toK = .nd .frz k xs := by rw [Tr.toK]; exact fun z => nomatch z
theorem toKs_map {α : Type} (f : α → Tr) (xs : List α) : toKs (xs.map f) = xs.map fun x => (f x).toK := by
  induction xs with
  | nil => rw [List.map_nil, List.map_nil, toKs]
  | cons x xs ih => rw [List.map_cons, List.map_cons, toKs, ih]
@[simp] theorem toKs_I (ns : List Int) : toKs (ns.map I) = ns.map I := by
  rw [toKs_map]
  exact List.map_congr_left fun _ _ => toK_I _
@[simp] theorem toKs_nil : toKs [] = [] := by rw [toKs]
@[simp] theorem toKs_cons (x : Tr) (xs : List Tr) : toKs (x :: xs) = x.toK :: toKs xs := by rw [toKs]
@[simp] theorem cv_r (ρ : PSt) (ms : List Md) (e : E) (es : List E) : cv ρ (.r :: ms) (e :: es) = (cv ρ ms es).bind (cvR e) := nr rfl
def cvS (ρ : PSt) (ms : List Md) (es : List E) : Tr → Option (List Tr × PSt) := fun t => (cv ρ ms es).bind (tks2 t)
@[simp] theorem cvS_ev (ρ : PSt) (ms : List Md) (es : List E) (t : Tr) : cvS ρ ms es t = (cv ρ ms es).bind (tks2 t) := nr rfl
@[simp] theorem cv_s (ρ : PSt) (ms : List Md) (e : E) (es : List E) : cv ρ (.s :: ms) (e :: es) = (tk e).bind (cvS ρ ms es) := nr rfl
def cvMm (ms : List Md) (es : List E) : Tr × PSt → Option (List Tr × PSt) := fun p => (cv p.2 ms es).bind (tks2 p.1)
@[simp] theorem cvMm_ev (ms : List Md) (es : List E) (x0 : Tr) (y0 : PSt) : cvMm ms es (x0, y0) = (cv y0 ms es).bind (tks2 x0) := nr rfl
@[simp] theorem cv_m (ρ : PSt) (i : Nat) (ms : List Md) (e : E) (es : List E) : cv ρ (.m i :: ms) (e :: es) = (cvM i ρ e).bind (cvMm ms es) := nr rfl
@[simp] theorem back_nil (ρ : PSt) (fs : PSt) : back ρ [] [] fs = some ρ := by cases fs <;> rfl
@[simp] theorem back_r (ρ : PSt) (ms : List Md) (e : E) (es : List E) (f : Option Tr) (fs : PSt) : back ρ (.r :: ms) (e :: es) (f :: fs) = back ρ ms es fs := by cases e <;> rfl
@[simp] theorem back_s (ρ : PSt) (ms : List Md) (e : E) (es : List E) (f : Option Tr) (fs : PSt) : back ρ (.s :: ms) (e :: es) (f :: fs) = back ρ ms es fs := by cases e <;> rfl
@[simp] theorem back_mt (ρ : PSt) (i : Nat) (ms : List Md) (x : Tr) (es : List E) (f : Option Tr) (fs : PSt) : back ρ (.m i :: ms) (.t x :: es) (f :: fs) = back ρ ms es fs := nr rfl
@[simp] theorem back_ma (ρ : PSt) (i : Nat) (ms : List Md) (es : List E) (t : Tr) (fs : PSt) : back ρ (.m i :: ms) (.al i :: es) (some t :: fs) = if t.nob = true then back (ρ.set i (some t)) ms es fs else none := by
  show (if i = i then _ else none) = _
  rw [if_pos rfl]
  rfl
/-! statements -/
@[simp] theorem pthen_nx (ρ : PSt) (k : PS) : PR.then (.nx ρ) k = k ρ := nr rfl
@[simp] theorem pthen_rt (t : Tr) (ρ : PSt) (k : PS) : PR.then (.rt t ρ) k = some (.rt t ρ) := nr rfl
@[simp] theorem pthen_bk (ρ : PSt) (k : PS) : PR.then (.bk ρ) k = some (.bk ρ) := nr rfl
@[simp] theorem pthen_ct (ρ : PSt) (k : PS) : PR.then (.ct ρ) k = some (.ct ρ) := nr rfl
@[simp] theorem kills_nil (ρ : PSt) : kills ρ [] = ρ := nr rfl
@[simp] theorem kills_cons (ρ : PSt) (i : Nat) (is : List Nat) : kills ρ (i :: is) = kills (ρ.set i none) is := nr rfl
@[simp] theorem zKill1_nx (ds : List Nat) (ρ : PSt) : zKill1 ds (.nx ρ) = some (.nx (kills ρ ds)) := nr rfl
@[simp] theorem zKill1_ct (ds : List Nat) (ρ : PSt) : zKill1 ds (.ct ρ) = some (.ct (kills ρ ds)) := nr rfl
@[simp] theorem zKill1_bk (ds : List Nat) (ρ : PSt) : zKill1 ds (.bk ρ) = some (.bk ρ) := nr rfl
@[simp] theorem zKill1_rt (ds : List Nat) (t : Tr) (ρ : PSt) : zKill1 ds (.rt t ρ) = some (.rt t ρ) := nr rfl
@[simp] theorem gS_ev (i : Nat) (t : Tr) (ρ : PSt) : gS i t ρ = some (ρ.set i (some t)) := nr rfl
@[simp] theorem gLs_nil (ρ : PSt) : gLs [] [] ρ = some ρ := nr rfl
@[simp] theorem gLs_cons (g : PG) (gs : List PG) (t : Tr) (ts : List Tr) (ρ : PSt) : gLs (g :: gs) (t :: ts) ρ = (g t ρ).bind (gLs gs ts) := nr rfl
@[simp] theorem gU_tup (gs : List PG) (f : Fl) (xs : List Tr) (ρ : PSt) : gU gs (.nd f .tup xs) ρ = gLs gs xs ρ := nr rfl
@[simp] theorem gU_lst (gs : List PG) (f : Fl) (xs : List Tr) (ρ : PSt) : gU gs (.nd f .lst xs) ρ = gLs gs xs ρ := nr rfl
@[simp] theorem setP_nil (ρ : PSt) : setP [] [] ρ = some ρ := nr rfl
@[simp] theorem setP_cons (i : Nat) (is : List Nat) (t : Tr) (ts : List Tr) (ρ : PSt) : setP (i :: is) (t :: ts) ρ = setP is ts (ρ.set i (some t)) := nr rfl
@[simp] theorem lp3_nx (k : PSt → Option PR) (ρ : PSt) : lp3 k (.nx ρ) = k ρ := nr rfl
@[simp] theorem lp3_ct (k : PSt → Option PR) (ρ : PSt) : lp3 k (.ct ρ) = k ρ := nr rfl
@[simp] theorem lp3_bk (k : PSt → Option PR) (ρ : PSt) : lp3 k (.bk ρ) = some (.nx ρ) := nr rfl
@[simp] theorem lp3_rt (k : PSt → Option PR) (t : Tr) (ρ : PSt) : lp3 k (.rt t ρ) = some (.rt t ρ) := nr rfl
@[simp] theorem runP1_nx (mp : List Nat) (ts : List Tr) (ρ : PSt) : runP1 mp ts (.nx ρ) = some (NN, mask mp 0 ts ρ) := nr rfl
@[simp] theorem runP1_rt (mp : List Nat) (ts : List Tr) (t : Tr) (ρ : PSt) : runP1 mp ts (.rt t ρ) = if t.nob = true then some (t, mask mp 0 ts ρ) else none := nr rfl
@[simp] theorem mask_nil (mp : List Nat) (k : Nat) (ρ : PSt) : mask mp k [] ρ = [] := nr rfl
@[simp] theorem mask_cons (mp : List Nat) (k : Nat) (t : Tr) (ts : List Tr) (ρ : PSt) : mask mp k (t :: ts) ρ = (if k ∈ mp then getT ρ[k]? else none) :: mask mp (k + 1) ts ρ := nr rfl
@[simp] theorem runP_ev (mp : List Nat) (n : Nat) (b : PS) (ts : List Tr) : runP mp n b ts = (b (startP n ts)).bind (runP1 mp ts) := nr rfl
@[simp] theorem startP_ev (n : Nat) (ts : List Tr) : startP n ts = ts.map some ++ List.replicate (n - ts.length) none := nr rfl
/-! trees -/
@[simp] theorem toB_I (i : Int) : (I i).toB = I i := nr rfl
@[simp] theorem toB_B (i : Bool) : (B i).toB = B i := nr rfl
@[simp] theorem toB_S (i : Str) : (S i).toB = S i := nr rfl
@[simp] theorem toB_N : NN.toB = NN := nr rfl
@[simp] theorem toB_nd (f : Fl) (k : Kd) (xs : List Tr) : (Tr.nd f k xs).toB = .nd .bor k (toBs xs) := nr (by rw [Tr.toB])
@[simp] theorem toBs_nil : toBs [] = [] := nr (by rw [toBs])
@[simp] theorem toBs_cons (x : Tr) (xs : List Tr) : toBs (x :: xs) = x.toB :: toBs xs := nr (by rw [toBs])
@[simp] theorem toBs_app (xs ys : List Tr) : toBs (xs ++ ys) = toBs xs ++ toBs ys := by
  induction xs with
  | nil => rfl
  | cons x xs ih => rw [List.cons_append, toBs_cons, toBs_cons, ih, List.cons_append]
theorem toBs_map {α : Type} (f : α → Tr) (xs : List α) : toBs (xs.map f) = xs.map fun x => (f x).toB := by
  induction xs with
  | nil => rfl
  | cons x xs ih => rw [List.map_cons, toBs_cons, ih, List.map_cons]
@[simp] theorem toBs_I (ns : List Int) : toBs (ns.map I) = ns.map I := by
  rw [toBs_map]
  rfl
@[simp] theorem toF_I (i : Int) : (I i).toF = I i := nr rfl
@[simp] theorem toF_B (i : Bool) : (B i).toF = B i := nr rfl
@[simp] theorem toF_S (i : Str) : (S i).toF = S i := nr rfl
@[simp] theorem toF_N : NN.toF = NN := nr rfl
@[simp] theorem toF_nd (f : Fl) (k : Kd) (xs : List Tr) : (Tr.nd f k xs).toF = .nd .frz k (toFs xs) := nr (by rw [Tr.toF])
@[simp] theorem toFs_nil : toFs [] = [] := nr (by rw [toFs])
@[simp] theorem toFs_cons (x : Tr) (xs : List Tr) : toFs (x :: xs) = x.toF :: toFs xs := nr (by rw [toFs])
@[simp] theorem toFs_app (xs ys : List Tr) : toFs (xs ++ ys) = toFs xs ++ toFs ys := by
  induction xs with
  | nil => rfl
  | cons x xs ih => rw [List.cons_append, toFs_cons, toFs_cons, ih, List.cons_append]
theorem toFs_map {α : Type} (f : α → Tr) (xs : List α) : toFs (xs.map f) = xs.map fun x => (f x).toF := by
  induction xs with
  | nil => rfl
  | cons x xs ih => rw [List.map_cons, toFs_cons, ih, List.map_cons]
@[simp] theorem toFs_I (ns : List Int) : toFs (ns.map I) = ns.map I := by
  rw [toFs_map]
  rfl
@[simp] theorem nob_I (i : Int) : (I i).nob = true := nr rfl
@[simp] theorem nob_B (i : Bool) : (B i).nob = true := nr rfl
@[simp] theorem nob_S (i : Str) : (S i).nob = true := nr rfl
@[simp] theorem nob_N : NN.nob = true := nr rfl
@[simp] theorem nob_own (k : Kd) (xs : List Tr) : (Tr.nd .own k xs).nob = nobs xs := nr (by rw [Tr.nob])
@[simp] theorem nob_frz (k : Kd) (xs : List Tr) : (Tr.nd .frz k xs).nob = nobs xs := nr (by rw [Tr.nob])
@[simp] theorem nob_bor (k : Kd) (xs : List Tr) : (Tr.nd .bor k xs).nob = false := nr (by rw [Tr.nob])
@[simp] theorem nobs_nil : nobs [] = true := nr (by rw [nobs])
@[simp] theorem nobs_cons (x : Tr) (xs : List Tr) : nobs (x :: xs) = (x.nob && nobs xs) := nr (by rw [nobs])
@[simp] theorem nobs_app (xs ys : List Tr) : nobs (xs ++ ys) = (nobs xs && nobs ys) := by
  induction xs with
  | nil => rfl
  | cons x xs ih => rw [List.cons_append, nobs_cons, nobs_cons, ih, Bool.and_assoc]
theorem nobs_map {α : Type} (f : α → Tr) (xs : List α) (h : ∀ x, (f x).nob = true) : nobs (xs.map f) = true := by
  induction xs with
  | nil => rfl
  | cons x xs ih => rw [List.map_cons, nobs_cons, ih, h]; rfl
@[simp] theorem nobs_I (ns : List Int) : nobs (ns.map I) = true := nobs_map _ _ fun _ => rfl
@[simp] theorem dem_I (i : Int) : (I i).dem = I i := nr rfl
@[simp] theorem dem_B (i : Bool) : (B i).dem = B i := nr rfl
@[simp] theorem dem_S (i : Str) : (S i).dem = S i := nr rfl
@[simp] theorem dem_N : NN.dem = NN := nr rfl
@[simp] theorem dem_own (k : Kd) (xs : List Tr) : (Tr.nd .own k xs).dem = if nobs xs = true then .nd .frz k (toFs xs) else .nd .bor k (toBs xs) := by
  unfold Tr.dem
  rw [nob_own, toF_nd, toB_nd]
@[simp] theorem dem_frz (k : Kd) (xs : List Tr) : (Tr.nd .frz k xs).dem = if nobs xs = true then .nd .frz k (toFs xs) else .nd .bor k (toBs xs) := by
  unfold Tr.dem
  rw [nob_frz, toF_nd, toB_nd]
@[simp] theorem dem_bor (k : Kd) (xs : List Tr) : (Tr.nd .bor k xs).dem = .nd .bor k (toBs xs) := by
  unfold Tr.dem
  rw [nob_bor, toB_nd]
  rfl
@[simp] theorem sh_I (i : Int) : (I i).sh = true := nr rfl
@[simp] theorem sh_B (i : Bool) : (B i).sh = true := nr rfl
@[simp] theorem sh_S (i : Str) : (S i).sh = true := nr rfl
@[simp] theorem sh_N : NN.sh = true := nr rfl
@[simp] theorem sh_own (k : Kd) (xs : List Tr) : (Tr.nd .own k xs).sh = false := nr rfl
@[simp] theorem sh_frz (k : Kd) (xs : List Tr) : (Tr.nd .frz k xs).sh = true := nr rfl
@[simp] theorem sh_bor (k : Kd) (xs : List Tr) : (Tr.nd .bor k xs).sh = true := nr rfl
@[simp] theorem shL_nil : shL [] = true := nr rfl
@[simp] theorem shL_cons (x : Tr) (xs : List Tr) : shL (x :: xs) = (x.sh && shL xs) := nr rfl
@[simp] theorem shL_app (xs ys : List Tr) : shL (xs ++ ys) = (shL xs && shL ys) := by unfold shL; rw [List.all_append]
theorem shL_map {α : Type} (f : α → Tr) (xs : List α) (h : ∀ x, (f x).sh = true) : shL (xs.map f) = true := by
  unfold shL
  rw [List.all_map]
  exact List.all_eq_true.mpr fun x _ => h x
@[simp] theorem shL_I (ns : List Int) : shL (ns.map I) = true := shL_map _ _ fun _ => rfl
@[simp] theorem shs_ev' (xs : List Tr) : shs xs = if shL xs = true then some xs else none := nr rfl
@[simp] theorem seqT_lst (f : Fl) (xs : List Tr) : seqT (.nd f .lst xs) = shs xs := nr rfl
@[simp] theorem seqT_fz (f : Fl) (xs : List Tr) : seqT (.nd f .fz xs) = shs xs := nr rfl
@[simp] theorem lsT_lst (f : Fl) (xs : List Tr) : lsT (.nd f .lst xs) = shs xs := nr rfl
@[simp] theorem small62T_I (i : Int) : small62T (I i) = if small62 i = true then some i else none := nr rfl
theorem small62_nat {i : Int} (h : 0 ≤ i) (h2 : i ≤ 1000000000) : small62 i = true := by
  unfold small62
  refine decide_eq_true ⟨?_, ?_⟩
  · have : (-(2 ^ 62) : Int) ≤ 0 := by decide
    omega
  · have : (1000000000 : Int) < 2 ^ 62 := by decide
    omega
@[simp] theorem newL_ev (xs : List Tr) : newL xs = if shL xs = true ∧ xs.length ≤ sizeLine then some (.nd .own .lst xs) else none := nr rfl
@[simp] theorem shT_ev (t : Tr) : shT t = if t.sh = true then some t else none := nr rfl
@[simp] theorem mkLO_ev' (x0 : List Tr) (y0 : PSt) : mkLO (x0, y0) = some (.t (.nd .own .lst x0), y0) := nr rfl
/-! operators -/
@[simp] theorem A2_lt (i j : Int) : A2 cLt (I i) (I j) = some (B (decide (i < j))) := nr rfl
@[simp] theorem A2_le (i j : Int) : A2 cLe (I i) (I j) = some (B (decide (i ≤ j))) := nr rfl
@[simp] theorem A2_gt (i j : Int) : A2 cGt (I i) (I j) = some (B (decide (j < i))) := nr rfl
@[simp] theorem A2_ge (i j : Int) : A2 cGe (I i) (I j) = some (B (decide (j ≤ i))) := nr rfl
@[simp] theorem A2_sub (i j : Int) : A2 bSub (I i) (I j) = some (I (i - j)) := nr rfl
@[simp] theorem A2_uadd (i j : Int) : A2 uAdd (I i) (I j) = some (I (i + j)) := nr rfl
@[simp] theorem A2_usub (i j : Int) : A2 uSub (I i) (I j) = some (I (i - j)) := nr rfl
@[simp] theorem A2_isB (i j : Bool) : A2 cIsB (B i) (B j) = some (B (decide (i = j))) := nr rfl
@[simp] theorem A2_notB (i j : Bool) : A2 cNotB (B i) (B j) = some (B (!decide (i = j))) := nr rfl
@[simp] theorem A1_neg (i : Int) : A1 fNeg (I i) = some (I (-i)) := nr rfl
@[simp] theorem A2_mod (i j : Int) : A2 bMod (I i) (I j) = if j ≠ 0 then some (I (i.fmod j)) else none := by
  show (bMod (.int i) (.int j) []).bind _ = _
  unfold bMod
  dsimp only
  split <;> rfl
@[simp] theorem A2_div (i j : Int) : A2 bDiv (I i) (I j) = if j ≠ 0 ∧ smallN j = true then some (I (i.fdiv j)) else none := by
  show (bDiv (.int i) (.int j) []).bind _ = _
  unfold bDiv
  dsimp only
  split <;> rfl
@[simp] theorem A2_pow (i j : Int) : A2 bPow (I i) (I j) = if smallN i = true ∧ 0 ≤ j ∧ j ≤ 1000 then some (I (i ^ j.toNat)) else none := by
  show (bPow (.int i) (.int j) []).bind _ = _
  unfold bPow
  dsimp only
  split <;> rfl
@[simp] theorem pAdd_I (i j : Int) : pAdd (I i) (I j) = some (I (i + j)) := nr rfl
@[simp] theorem pAdd_L (f g : Fl) (xs ys : List Tr) : pAdd (.nd f .lst xs) (.nd g .lst ys) = newL (xs ++ ys) := nr rfl
@[simp] theorem pMul_I (i j : Int) : pMul (I i) (I j) = if smallN i = true ∧ smallN j = true then some (I (i * j)) else none := by
  show (bMul (.int i) (.int j) []).bind _ = _
  unfold bMul
  dsimp only
  split <;> rfl
@[simp] theorem pMul_L (f : Fl) (xs : List Tr) (k : Int) : pMul (.nd f .lst xs) (I k) = if k.natAbs ≤ 1000000 then newL (List.replicate k.toNat xs).flatten else none := nr rfl
@[simp] theorem pEq_I (i j : Int) : pEq (I i) (I j) = some (B (decide (i = j))) := by
  have e : decide (V.int i = V.int j) = decide (i = j) := decide_eq_decide.mpr ⟨fun h => V.int.inj h, fun h => h ▸ rfl⟩
  show some (Tr.av (.bl (false != decide (V.int i = V.int j)))) = _
  rw [e]
  cases decide (i = j) <;> rfl
@[simp] theorem pNe_I (i j : Int) : pNe (I i) (I j) = some (B (!decide (i = j))) := by
  have e : decide (V.int i = V.int j) = decide (i = j) := decide_eq_decide.mpr ⟨fun h => V.int.inj h, fun h => h ▸ rfl⟩
  show some (Tr.av (.bl (true != decide (V.int i = V.int j)))) = _
  rw [e]
  cases decide (i = j) <;> rfl
@[simp] theorem pEq_S (i j : Str) : pEq (S i) (S j) = some (B (decide (i = j))) := by
  have e : decide (V.str i = V.str j) = decide (i = j) := decide_eq_decide.mpr ⟨fun h => V.str.inj h, fun h => h ▸ rfl⟩
  show some (Tr.av (.bl (false != decide (V.str i = V.str j)))) = _
  rw [e]
  cases decide (i = j) <;> rfl
@[simp] theorem pNe_S (i j : Str) : pNe (S i) (S j) = some (B (!decide (i = j))) := by
  have e : decide (V.str i = V.str j) = decide (i = j) := decide_eq_decide.mpr ⟨fun h => V.str.inj h, fun h => h ▸ rfl⟩
  show some (Tr.av (.bl (true != decide (V.str i = V.str j)))) = _
  rw [e]
  cases decide (i = j) <;> rfl
@[simp] theorem pIsN_I (i : Int) : pIsN (I i) = some (B false) := nr rfl
@[simp] theorem pIsN_N : pIsN NN = some (B true) := nr rfl
@[simp] theorem pIsN_nd (f : Fl) (k : Kd) (xs : List Tr) : pIsN (.nd f k xs) = some (B false) := nr rfl
@[simp] theorem pNotN_I (i : Int) : pNotN (I i) = some (B true) := nr rfl
@[simp] theorem pNotN_N : pNotN NN = some (B false) := nr rfl
@[simp] theorem pNotN_nd (f : Fl) (k : Kd) (xs : List Tr) : pNotN (.nd f k xs) = some (B true) := nr rfl
@[simp] theorem pIx_L (f : Fl) (xs : List Tr) (i : Int) : pIx (.nd f .lst xs) (I i) = (atI xs i).bind shT := nr rfl
@[simp] theorem pIx_U (f : Fl) (xs : List Tr) (i : Int) : pIx (.nd f .tup xs) (I i) = (atI xs i).bind shT := nr rfl
@[simp] theorem pIx_F (f : Fl) (xs : List Tr) (i : Int) : pIx (.nd f .fz xs) (I i) = (atI xs i).bind shT := nr rfl
@[simp] theorem pRev_L (f : Fl) (xs : List Tr) : pRev (.nd f .lst xs) = newL xs.reverse := nr rfl
@[simp] theorem pCutT_L (lo hi : Option Int) (f : Fl) (xs : List Tr) : pCutT lo hi (.nd f .lst xs) = newL (cutG xs lo hi) := nr rfl
@[simp] theorem isSt_lst : isSt .lst = false := nr rfl
@[simp] theorem isSt_tup : isSt .tup = false := nr rfl
@[simp] theorem isSt_fz : isSt .fz = false := nr rfl
@[simp] theorem isSt_dct (ks : List Key) : isSt (.dct ks) = false := nr rfl
@[simp] theorem pLen_L (f : Fl) (k : Kd) (xs : List Tr) : pLen [.nd f k xs] = if isSt k = true then none else some (I xs.length) := nr rfl
@[simp] theorem pMax_II (i j : Int) : pMax [I i, I j] = some (I (max i j)) := by
  show some (I (if j > i then j else i)) = _
  congr 2
  split <;> omega
@[simp] theorem pMin_II (i j : Int) : pMin [I i, I j] = some (I (min i j)) := by
  show some (I (if j < i then j else i)) = _
  congr 2
  split <;> omega
@[simp] theorem pMax_L (f : Fl) (xs : List Tr) : pMax [.nd f .lst xs] = (intsT xs).bind maxR := nr rfl
@[simp] theorem pMin_L (f : Fl) (xs : List Tr) : pMin [.nd f .lst xs] = (intsT xs).bind minR := nr rfl
@[simp] theorem maxR_ev (ns : List Int) : maxR ns = (maxL ns).bind intR := nr rfl
@[simp] theorem minR_ev (ns : List Int) : minR ns = (minL ns).bind intR := nr rfl
@[simp] theorem pSum_L (f : Fl) (xs : List Tr) : pSum [.nd f .lst xs] = (intsT xs).bind sumR := nr rfl
@[simp] theorem sumR_ev (ns : List Int) : sumR ns = some (I ns.sum) := nr rfl
@[simp] theorem pAll_L (f : Fl) (xs : List Tr) : pAll [.nd f .lst xs] = (blsT xs).bind allR := nr rfl
@[simp] theorem pAny_L (f : Fl) (xs : List Tr) : pAny [.nd f .lst xs] = (blsT xs).bind anyR := nr rfl
@[simp] theorem allR_ev (ns : List Bool) : allR ns = some (B (ns.all id)) := nr rfl
@[simp] theorem anyR_ev (ns : List Bool) : anyR ns = some (B (ns.any id)) := nr rfl
@[simp] theorem pSorted_L (f : Fl) (xs : List Tr) : pSorted [.nd f .lst xs] = (intsT xs).bind srtR := nr rfl
@[simp] theorem srtR_ev (ns : List Int) : srtR ns = some (.nd .own .lst ((isort ns).map I)) := nr rfl
@[simp] theorem pList_L (f : Fl) (xs : List Tr) : pList [.nd f .lst xs] = newL xs := nr rfl
@[simp] theorem pList_U (f : Fl) (xs : List Tr) : pList [.nd f .tup xs] = newL xs := nr rfl
@[simp] theorem pAbs_I (i : Int) : pAbs [I i] = some (I (if i < 0 then -i else i)) := nr rfl
@[simp] theorem pInt_I (i : Int) : pInt [I i] = some (I i) := nr rfl
@[simp] theorem pInt_B (k : Bool) : pInt [B k] = some (I (if k then 1 else 0)) := nr rfl
@[simp] theorem tyT_I (i : Int) : tyT (I i) = some "int" := nr rfl
@[simp] theorem tyT_B (i : Bool) : tyT (B i) = some "bool" := nr rfl
@[simp] theorem tyT_S (i : Str) : tyT (S i) = some "str" := nr rfl
@[simp] theorem tyT_N : tyT NN = some "NoneType" := nr rfl
@[simp] theorem tyT_L (f : Fl) (xs : List Tr) : tyT (.nd f .lst xs) = some "list" := nr rfl
@[simp] theorem tyT_U (f : Fl) (xs : List Tr) : tyT (.nd f .tup xs) = some "tuple" := nr rfl
@[simp] theorem tyT_D (f : Fl) (ks : List Key) (xs : List Tr) : tyT (.nd f (.dct ks) xs) = some "dict" := nr rfl
@[simp] theorem pIsi_ev (t : Tr) (n : String) : pIsi [t, .av (.ty n)] = (tyT t).bind (isiR2 n) := nr rfl
@[simp] theorem pLenSet_L (f : Fl) (xs : List Tr) : pLenSet (.nd f .lst xs) = (intsT xs).bind lsT1 := nr rfl
@[simp] theorem lsT1_ev (ns : List Int) : lsT1 ns = if ns.length ≤ 4000 then some (I (nDist ns)) else none := nr rfl
@[simp] theorem pIdx_L (f : Fl) (xs : List Tr) (k : Int) : pIdx (.nd f .lst xs) [I k] = (intsT xs).bind (idxR k) := nr rfl
@[simp] theorem idxR_ev (k : Int) (ns : List Int) : idxR k ns = if k ∈ ns then some (I ((ns.idxOf k : Nat) : Int)) else none := nr rfl
@[simp] theorem pIn_L (neg : Bool) (i : Int) (f : Fl) (xs : List Tr) : pIn neg (I i) (.nd f .lst xs) = (avs xs).bind (inFl neg (.int i)) := nr rfl
@[simp] theorem pIn_U (neg : Bool) (i : Int) (f : Fl) (xs : List Tr) : pIn neg (I i) (.nd f .tup xs) = (avs xs).bind (inFl neg (.int i)) := nr rfl
@[simp] theorem pIn_D (neg : Bool) (i : Int) (f : Fl) (ks : List Key) (xs : List Tr) : pIn neg (I i) (.nd f (.dct ks) xs) = some (B (neg != hasK ks (.inl i))) := nr rfl
@[simp] theorem intsT_nil : intsT [] = some [] := nr rfl
@[simp] theorem intsT_I (ns : List Int) : intsT (ns.map I) = some ns := by
  unfold intsT
  induction ns with
  | nil => rfl
  | cons n ns ih => rw [List.map_cons]; show (asI (I n)).bind _ = _; rw [asI_I]; show (mapO asI (ns.map I)).bind _ = _; rw [ih]; rfl
def iCons (i : Int) : List Int → Option (List Int) := fun ns => some (i :: ns)
@[simp] theorem iCons_ev (i : Int) (ns : List Int) : iCons i ns = some (i :: ns) := nr rfl
@[simp] theorem intsT_cons (i : Int) (xs : List Tr) : intsT (I i :: xs) = (intsT xs).bind (iCons i) := nr rfl
theorem mapO_map {α β γ : Type} (f : β → Option γ) (g : α → β) (h : α → γ) (e : ∀ x, f (g x) = some (h x)) (xs : List α) : mapO f (xs.map g) = some (xs.map h) := by
  induction xs with
  | nil => rfl
  | cons x xs ih =>
    rw [List.map_cons]
    show (f (g x)).bind _ = _
    rw [e]
    show (mapO f (xs.map g)).bind _ = _
    rw [ih]
    rfl
@[simp] theorem intsT_app1 (ns : List Int) (xs : List Tr) : intsT (ns.map I ++ xs) = (intsT xs).map (ns ++ ·) := by
  induction ns with
  | nil =>
    show intsT xs = (intsT xs).map ([] ++ ·)
    cases intsT xs <;> rfl
  | cons n ns ih =>
    rw [List.map_cons, List.cons_append, intsT_cons, ih]
    cases intsT xs <;> rfl
theorem blsT_map {α : Type} (f : α → Bool) (xs : List α) : blsT (xs.map fun x => B (f x)) = some (xs.map f) := mapO_map asB (fun x => B (f x)) f (fun _ => rfl) xs
@[simp] theorem avs_I (ns : List Int) : avs (ns.map I) = some (ns.map V.int) := mapO_map atT I V.int (fun _ => rfl) ns
@[simp] theorem avs_nil : avs [] = some [] := nr rfl
def vCons (v : V) : List V → Option (List V) := fun vs => some (v :: vs)
@[simp] theorem vCons_ev (v : V) (vs : List V) : vCons v vs = some (v :: vs) := nr rfl
@[simp] theorem avs_cI (i : Int) (xs : List Tr) : avs (I i :: xs) = (avs xs).bind (vCons (.int i)) := nr rfl
theorem inV_int (x : Int) (ns : List Int) : inV (.int x) (ns.map V.int) = decide (x ∈ ns) := by
  unfold inV
  rw [List.any_map]
  induction ns with
  | nil => rfl
  | cons n ns ih =>
    rw [List.any_cons, ih]
    by_cases h : n = x
    · subst h
      simp [eqV]
    · have h2 : ¬ x = n := fun z => h z.symm
      simp [eqV, h, h2]
@[simp] theorem inFl_ev (neg : Bool) (x : Int) (ns : List Int) : inFl neg (.int x) (ns.map V.int) = some (B (neg != decide (x ∈ ns))) := by
  unfold inFl
  rw [if_pos ⟨rfl, List.all_eq_true.mpr fun v hv => by obtain ⟨n, _, rfl⟩ := List.mem_map.mp hv; rfl⟩, inV_int]
  rfl
/-! methods, stores -/
@[simp] theorem uApp_ev (xs : List Tr) (y : Tr) : uApp (.nd .own .lst xs) [y] = if xs.length < sizeLine then some (NN, .nd .own .lst (xs ++ [y])) else none := nr rfl
def pop0K (xs : List Tr) : Tr → Option (Tr × Tr) := fun y => some (y, .nd .own .lst xs.dropLast)
@[simp] theorem pop0K_ev (xs : List Tr) (y : Tr) : pop0K xs y = some (y, .nd .own .lst xs.dropLast) := nr rfl
@[simp] theorem uPop_0 (xs : List Tr) : uPop (.nd .own .lst xs) [] = xs.getLast?.bind (pop0K xs) := by
  show xs.getLast?.map _ = _
  cases xs.getLast? <;> rfl
def pop1K (xs : List Tr) (k : Nat) : Tr → Option (Tr × Tr) := fun y => some (y, .nd .own .lst (xs.eraseIdx k))
@[simp] theorem pop1K_ev (xs : List Tr) (k : Nat) (y : Tr) : pop1K xs k y = some (y, .nd .own .lst (xs.eraseIdx k)) := nr rfl
def popT (xs : List Tr) (i : Int) : Option Nat := if i.natAbs ≤ 1000000 then seqIndex? i xs.length else none
def pop1J (xs : List Tr) : Nat → Option (Tr × Tr) := fun k => (xs[k]?).bind (pop1K xs k)
@[simp] theorem pop1J_ev (xs : List Tr) (k : Nat) : pop1J xs k = (xs[k]?).bind (pop1K xs k) := nr rfl
@[simp] theorem uPop_1 (xs : List Tr) (i : Int) : uPop (.nd .own .lst xs) [I i] = (popT xs i).bind (pop1J xs) := by
  show (if i.natAbs ≤ 1000000 then (seqIndex? i xs.length).bind fun k => (xs[k]?).map fun y => (y, Tr.nd .own .lst (xs.eraseIdx k)) else none) = _
  unfold popT
  split
  · cases seqIndex? i xs.length with
    | none => rfl
    | some k =>
      show (xs[k]?).map _ = (xs[k]?).bind _
      cases xs[k]? <;> rfl
  · rfl
@[simp] theorem uClr_ev (xs : List Tr) : uClr (.nd .own .lst xs) [] = some (NN, .nd .own .lst []) := nr rfl
@[simp] theorem uRev_ev (xs : List Tr) : uRev (.nd .own .lst xs) [] = some (NN, .nd .own .lst xs.reverse) := nr rfl
@[simp] theorem uIns_ev (xs : List Tr) (i : Int) (y : Tr) : uIns (.nd .own .lst xs) [I i, y] = if xs.length < sizeLine ∧ 0 ≤ i ∧ i ≤ 1000000 then some (NN, .nd .own .lst (xs.take i.toNat ++ [y] ++ xs.drop i.toNat)) else none := nr rfl
@[simp] theorem uExt_ev (xs : List Tr) (f : Fl) (ys : List Tr) : uExt (.nd .own .lst xs) [.nd f .lst ys] = if shL ys = true ∧ xs.length + ys.length ≤ sizeLine then some (NN, .nd .own .lst (xs ++ ys)) else none := nr rfl
@[simp] theorem uDClr_ev (ks : List Key) (xs : List Tr) : uDClr (.nd .own (.dct ks) xs) [] = some (NN, .nd .own (.dct []) []) := nr rfl
def putLK (xs : List Tr) (v : Tr) : Nat → Option Tr := fun j => some (.nd .own .lst (xs.set j v))
@[simp] theorem putLK_ev (xs : List Tr) (v : Tr) (j : Nat) : putLK xs v j = some (.nd .own .lst (xs.set j v)) := nr rfl
@[simp] theorem sPutL_ev (xs : List Tr) (k : Int) (v : Tr) : sPutL (.nd .own .lst xs) (I k) v = (ixN xs.length k).bind (putLK xs v) := by
  show (ixN xs.length k).map _ = _
  cases ixN xs.length k <;> rfl
@[simp] theorem dAc_ev (vs : List Nat) (acc : KX) (k : Key) (ρ : PSt) (t : Tr) : dAc vs acc k ρ t = if acc.1.length < sizeLine then some (putX acc k t, kills ρ vs) else none := nr rfl
@[simp] theorem dVl_ev (vs : List Nat) (acc : KX) (k : Key) (x0 : E) (y0 : PSt) : dVl vs acc k (x0, y0) = (tk x0).bind (dAc vs acc k y0) := nr rfl
@[simp] theorem dKy_ev (vs : List Nat) (ev : PE) (acc : KX) (ρ : PSt) (k : Key) : dKy vs ev acc ρ k = (ev ρ).bind (dVl vs acc k) := nr rfl
@[simp] theorem dEk2_ev (vs : List Nat) (ev : PE) (acc : KX) (ρ : PSt) (t : Tr) : dEk2 vs ev acc ρ t = (keyT t).bind (dKy vs ev acc ρ) := nr rfl
@[simp] theorem dEk_ev (vs : List Nat) (ev : PE) (acc : KX) (x0 : E) (y0 : PSt) : dEk vs ev acc (x0, y0) = (dr y0 x0).bind (dEk2 vs ev acc y0) := nr rfl
@[simp] theorem dIt_ev (vs : List Nat) (ek ev : PE) (acc : KX) (x0 : Bool) (y0 : PSt) : dIt vs ek ev acc (x0, y0) = if x0 = true then (ek y0).bind (dEk vs ev acc) else some (acc, kills y0 vs) := nr rfl
@[simp] theorem dTu_ev (vs : List Nat) (t : PT) (ek ev : PE) (acc : KX) (ρ : PSt) : dTu vs t ek ev acc ρ = (t ρ).bind (dIt vs ek ev acc) := nr rfl
@[simp] theorem mkD_ev (p : KX × PSt) : mkD  p = some (.t (.nd .own (.dct p.1.1) p.1.2), p.2) := nr rfl
@[simp] theorem sameQ_ev (b : Bool) (ks : List Key) (ls : List Key) (ys : List Tr) (us : List V) : sameQ b ks ls ys us = (avs ys).bind (sameR b ks ls us) := nr rfl
@[simp] theorem keyT_I (i : Int) : keyT (I i) = some (.inl i) := nr rfl
@[simp] theorem pListK_D (f : Fl) (ks : List Key) (xs : List Tr) : pListK [.nd f (.dct ks) xs] = some (.nd .own .lst (ks.map kT)) := nr rfl
@[simp] theorem pReprK_D (f : Fl) (ks : List Key) (xs : List Tr) : pReprK [.nd f (.dct ks) xs] = (flatT ks xs).bind showK := nr rfl
@[simp] theorem pDK_I (f : Fl) (ks : List Key) (xs : List Tr) (i : Int) : pDK (.nd f (.dct ks) xs) (I i) = dK1 ks xs (.inl i) := nr rfl
@[simp] theorem dK1_ev' (ks : List Key) (xs : List Tr) (k : Key) : dK1 ks xs k = (valG (ks.zip xs) k).bind shT := nr rfl
@[simp] theorem sPutD_I (ks : List Key) (xs : List Tr) (i : Int) (v : Tr) : sPutD (.nd .own (.dct ks) xs) (I i) v = if ks.length < sizeLine then some (.nd .own (.dct (putX (ks, xs) (.inl i) v).1) (putX (ks, xs) (.inl i) v).2) else none := nr rfl
@[simp] theorem pReprL_ev (r : PA) (ρ : PSt) : pReprL r ρ = (r ρ).bind pRpL1 := nr rfl
@[simp] theorem pRpL1_ev (x0 : List E) (y0 : PSt) : pRpL1 (x0, y0) = (drs y0 x0).bind (pRpL2 y0) := nr rfl
@[simp] theorem pRpL2_ev (ρ : PSt) (ts : List Tr) : pRpL2 ρ ts = (rpL ts).bind (retT ρ) := nr rfl
end Pl

/-! Pl, part 15: loops by relations; a law's end. -/
namespace Pl
open PySem L2 Zl
section
variable {α β : Type} {n : Nat} {w : PI} {g : PG} {b : PS} {ρ ρ0 : PSt}
def AftP (Nx Bk : PSt → Prop) (Rt : Tr → PSt → Prop) : PR → Prop
  | .nx ρ => Nx ρ
  | .ct ρ => Nx ρ
  | .bk ρ => Bk ρ
  | .rt t ρ => Rt t ρ
def DoneP (Bk : PSt → Prop) (Rt : Tr → PSt → Prop) : PR → Prop
  | .nx ρ => Bk ρ
  | .rt t ρ => Rt t ρ
  | _ => False
theorem lpF_inv (emb : β → Tr) (ys : List β) (R : List β → PSt → Prop) (Bk : PSt → Prop) (Rt : Tr → PSt → Prop)
    (step : ∀ pre y post ρ, ys = pre ++ y :: post → R pre ρ → ∃ r, (g (emb y) ρ).bind b = some r ∧ AftP (R (pre ++ [y])) Bk Rt r) (last : ∀ ρ, R ys ρ → Bk ρ) : ∀ (post pre : List β) (ρ : PSt), ys = pre ++ post → R pre ρ → ∃ r, lpF g b (post.map emb) ρ = some r ∧ DoneP Bk Rt r
  | [], pre, ρ, e, h => ⟨.nx ρ, rfl, last ρ (by rw [e, List.append_nil]; exact h)⟩
  | y :: post, pre, ρ, e, h => by
    obtain ⟨r, e1, h1⟩ := step pre y post ρ e h
    obtain ⟨ρ1, e2, e3⟩ := bnd' e1
    have st : lpF g b ((y :: post).map emb) ρ = lp3 (lpF g b (post.map emb)) r := by
      show (g (emb y) ρ).bind _ = _
      rw [e2]
      show (b ρ1).bind _ = _
      rw [e3]
      rfl
    rw [st]
    have e' : ys = (pre ++ [y]) ++ post := by rw [e, List.append_assoc]; rfl
    cases r with
    | nx ρ2 => exact lpF_inv emb ys R Bk Rt step last post _ ρ2 e' h1
    | ct ρ2 => exact lpF_inv emb ys R Bk Rt step last post _ ρ2 e' h1
    | bk ρ2 => exact ⟨.nx ρ2, rfl, h1⟩
    | rt t ρ2 => exact ⟨.rt t ρ2, rfl, h1⟩
/-- for, with any end -/
theorem for_inv (emb : β → Tr) (ys : List β) (R : List β → PSt → Prop) (Bk : PSt → Prop) (Rt : Tr → PSt → Prop) (hw : w ρ = some (ys.map emb, ρ0)) (hn : ys.length < 100000) (h0 : R [] ρ0)
    (step : ∀ pre y post ρ, ys = pre ++ y :: post → R pre ρ → ∃ r, (g (emb y) ρ).bind b = some r ∧ AftP (R (pre ++ [y])) Bk Rt r) (last : ∀ ρ, R ys ρ → Bk ρ) : ∃ r, zFor fuelN w g b ρ = some r ∧ DoneP Bk Rt r := by
  obtain ⟨r, e, h⟩ := lpF_inv (g := g) (b := b) emb ys R Bk Rt step last ys [] ρ0 rfl h0
  refine ⟨r, ?_, h⟩
  show (w ρ).bind _ = _
  rw [hw]
  show (if (ys.map emb).length < fuelN then _ else none) = _
  rw [if_pos (by rw [List.length_map]; exact lt_fuel hn)]
  exact e
/-- for, to the end -/
theorem for_R (emb : β → Tr) (ys : List β) (S : α → PSt) (R : List β → α → Prop) (a0 : α) (hw : w ρ = some (ys.map emb, S a0)) (hn : ys.length < 100000) (h0 : R [] a0)
    (step : ∀ pre y post a, ys = pre ++ y :: post → R pre a → ∃ a', ((g (emb y) (S a)).bind b = some (.nx (S a')) ∨ (g (emb y) (S a)).bind b = some (.ct (S a'))) ∧ R (pre ++ [y]) a') : ∃ a, zFor fuelN w g b ρ = some (.nx (S a)) ∧ R ys a := by
  obtain ⟨r, e, h⟩ := for_inv (g := g) (b := b) emb ys (fun pre ρ => ∃ a, ρ = S a ∧ R pre a) (fun ρ => ∃ a, ρ = S a ∧ R ys a) (fun _ _ => False) hw hn ⟨a0, rfl, h0⟩ (fun pre y post ρ e ⟨a, h1, h2⟩ => by
    subst h1
    obtain ⟨a', h3, h4⟩ := step pre y post a e h2
    rcases h3 with h3 | h3
    · exact ⟨_, h3, a', rfl, h4⟩
    · exact ⟨_, h3, a', rfl, h4⟩) fun ρ h => h
  cases r with
  | nx ρ' =>
    obtain ⟨a, rfl, h⟩ := h
    exact ⟨a, e, h⟩
  | _ => exact h.elim
/-! comprehensions -/
variable {vv : List Nat} {t : PT} {e : PE} {kk : Bool}
theorem comp_R (emb : β → Tr) (ys : List β) (R : List β → List Tr → PSt → Prop) (hw : w ρ = some (ys.map emb, ρ0)) (hn : ys.length < 100000) (h0 : R [] [] (kills ρ0 vv))
    (step : ∀ pre y post acc ρ, ys = pre ++ y :: post → R pre acc ρ → ∃ acc' ρ', (g (emb y) ρ).bind (cTu kk vv t e acc) = some (acc', ρ') ∧ R (pre ++ [y]) acc' ρ') : ∃ acc ρ', pComp fuelN kk w vv g t e ρ = some (.t (.nd .own .lst acc), ρ') ∧ R ys acc ρ' := by
  have key : ∀ (post pre : List β) (acc : List Tr) (ρ : PSt), ys = pre ++ post → R pre acc ρ → ∃ acc' ρ', cLp kk vv g t e (post.map emb) acc ρ = some (acc', ρ') ∧ R ys acc' ρ' := by
    intro post
    induction post with
    | nil => exact fun pre acc ρ e h => ⟨acc, ρ, rfl, by rw [e, List.append_nil]; exact h⟩
    | cons y post ih =>
      intro pre acc ρ e1 h
      obtain ⟨acc1, ρ1, e2, h2⟩ := step pre y post acc ρ e1 h
      obtain ⟨acc2, ρ2, e3, h3⟩ := ih (pre ++ [y]) acc1 ρ1 (by rw [e1, List.append_assoc]; rfl) h2
      refine ⟨acc2, ρ2, ?_, h3⟩
      show ((g (emb y) ρ).bind (cTu kk vv t e acc)).bind _ = _
      rw [e2]
      exact e3
  obtain ⟨acc, ρ', e1, h⟩ := key ys [] [] _ rfl h0
  refine ⟨acc, ρ', ?_, h⟩
  show (w ρ).bind _ = _
  rw [hw]
  show (if (ys.map emb).length < fuelN then _ else none) = _
  rw [if_pos (by rw [List.length_map]; exact lt_fuel hn), e1]
  rfl
/-- .. whose turns change nothing -/
theorem comp_f (emb : β → Tr) (ys : List β) (p : β → Bool) (F : β → Tr) (hw : w ρ = some (ys.map emb, ρ0)) (hn : ys.length < 100000)
    (step : ∀ y ∈ ys, ∀ acc : List Tr, acc.length < 16777216 → (g (emb y) (kills ρ0 vv)).bind (cTu kk vv t e acc) = some (if p y = true then acc ++ [F y] else acc, kills ρ0 vv)) : pComp fuelN kk w vv g t e ρ = some (.t (.nd .own .lst ((ys.filter p).map F)), kills ρ0 vv) := by
  obtain ⟨acc, ρ', e1, h1, rfl⟩ := comp_R (g := g) (t := t) (e := e) (kk := kk) (vv := vv) emb ys (fun pre acc ρ => acc = (pre.filter p).map F ∧ ρ = kills ρ0 vv) hw hn ⟨rfl, rfl⟩ fun pre y post acc ρ e1 ⟨h1, h2⟩ => by
    subst h1 h2
    have hl : ((pre.filter p).map F).length < 16777216 := by
      rw [List.length_map]
      have := List.length_filter_le p pre
      rw [e1, List.length_append] at hn
      omega
    refine ⟨_, _, step y (by rw [e1]; exact List.mem_append_right _ (List.mem_cons_self ..)) _ hl, ?_, rfl⟩
    rw [List.filter_append, List.map_append]
    split
    · rename_i hp
      simp [hp]
    · rename_i hp
      simp [hp]
  rw [e1, h1]
theorem comp_m (emb : β → Tr) (ys : List β) (F : β → Tr) (hw : w ρ = some (ys.map emb, ρ0)) (hn : ys.length < 100000)
    (step : ∀ y ∈ ys, ∀ acc : List Tr, acc.length < 16777216 → (g (emb y) (kills ρ0 vv)).bind (cTu kk vv t e acc) = some (acc ++ [F y], kills ρ0 vv)) : pComp fuelN kk w vv g t e ρ = some (.t (.nd .own .lst (ys.map F)), kills ρ0 vv) := by
  rw [comp_f emb ys (fun _ => true) F hw hn fun y hy acc hl => by rw [if_pos rfl]; exact step y hy acc hl]
  rw [List.filter_eq_self.mpr fun _ _ => rfl]
end
/-- the law's end: from the pure meaning -/
theorem law_pl {m : FL} {p : PF} {ns : List Int} {fs : PSt} (h : FOk m p) (hp : p [.nd .frz .fz (ns.map I)] = some (B true, fs)) : ∃ G', m [.ref 0] (G0 ns) = some (.bl true, G') := by
  have iv : Inv (fun _ => False) (fun _ => False) ([V.ref 0].map some) (G0 ns) ([Tr.nd .frz .fz (ns.map I)].map some) (fun _ => []) := by
    refine ⟨fun i t e => ?_, fun _ _ => rfl, fun _ => .nil, fun _ _ _ h => (nomatch h), fun _ _ h => (nomatch h), rfl, fun _ h => h.elim, fun _ h => h.elim⟩
    cases i with
    | succ i => cases e
    | zero =>
      cases e
      refine ⟨.ref 0, rfl, 0, ns.map V.int, [], rfl, rfl, trivial, rls_ints ns, fun z => ?_, fun z => z, rfl, rfl⟩
      exact z.elim (fun ⟨i, hi⟩ => nomatch hi) id
  obtain ⟨v, G', os', as, e, _, _, _, _, _, tm, _⟩ := h _ _ (G0 ns) [.ref 0] [.nd .frz .fz (ns.map I)] _ (B true) fs iv hp
  obtain ⟨rfl, _, _⟩ := tm.rl
  exact ⟨G', e⟩
end Pl

set_option maxHeartbeats 4000000
namespace Pl
open PySem L2 Zl
/-- _law_draw(_law_pool_here, _law_many); slots 0:_law_pool_here 1:_law_many 2:_law_drawn 3:_law_mixed -/
def yg_draw_k00 : MS := (sSeq (sIf (tE (eBin cGt (eBin xIx (eVar 0) (eC (.int 0))) (eC (.int 0)))) (sSeq (sAsg (eBin bMod (eBin xIx (eVar 0) (eC (.int 0))) (eVar 1)) (gSet 2)) (sSeq (sAsg (eBin bDiv (eBin xIx (eVar 0) (eC (.int 0))) (eVar 1)) (gPut pLst (eVar 0) (eC (.int 0)))) (sRet (eVar 2)))) sPass) (sSeq (sAsg (eBin bAdd (eBin xIx (eVar 0) (eC (.int 2))) (eC (.int 1))) (gPut pLst (eVar 0) (eC (.int 2)))) (sSeq (sAsg (eBin bMod (eBin bPow (eBin bAdd (eBin xIx (eVar 0) (eC (.int 1))) (eBin bMul (eC (.int 104729)) (eBin xIx (eVar 0) (eC (.int 2))))) (eC (.int 3))) (eC (.int 618970019642690137449562111))) (gSet 3)) (sSeq (sAsg (eBin bMod (eBin bPow (eBin bAdd (eVar 3) (eBin bMul (eC (.int 1299709)) (eBin xIx (eVar 0) (eC (.int 2))))) (eC (.int 3))) (eC (.int 162259276829213363391578010288127))) (gSet 3)) (sRet (eBin bMod (eBin bDiv (eVar 3) (eC (.int 4096))) (eVar 1)))))))
def hg_draw_k00 : FL := runD 4 yg_draw_k00
def pg_draw_k00_S : PS := (zSeq (zIf (qE (pBin (A2 cGt) (pBin pIx (pVar 0) (pC (.int 0))) (pC (.int 0)))) (zSeq (zAsg (pBin (A2 bMod) (pBin pIx (pVar 0) (pC (.int 0))) (pVar 1)) (gS 2)) (zSeq (zPut sPutL (pBin (A2 bDiv) (pBin pIx (pVar 0) (pC (.int 0))) (pVar 1)) 0 (pC (.int 0))) (zRet (pMv 2)))) zPass) (zSeq (zPut sPutL (pBin pAdd (pBin pIx (pVar 0) (pC (.int 2))) (pC (.int 1))) 0 (pC (.int 2))) (zSeq (zAsg (pBin (A2 bMod) (pBin (A2 bPow) (pBin pAdd (pBin pIx (pVar 0) (pC (.int 1))) (pBin pMul (pC (.int 104729)) (pBin pIx (pVar 0) (pC (.int 2))))) (pC (.int 3))) (pC (.int 618970019642690137449562111))) (gS 3)) (zSeq (zAsg (pBin (A2 bMod) (pBin (A2 bPow) (pBin pAdd (pVar 3) (pBin pMul (pC (.int 1299709)) (pBin pIx (pVar 0) (pC (.int 2))))) (pC (.int 3))) (pC (.int 162259276829213363391578010288127))) (gS 3)) (zRet (pBin (A2 bMod) (pBin (A2 bDiv) (pVar 3) (pC (.int 4096))) (pVar 1)))))))
def pg_draw_k00 : PF := runP [0] 4 pg_draw_k00_S
theorem pk_pg_draw_k00 : FOk hg_draw_k00 pg_draw_k00 := fo_run (mp := [0]) (n := 4) (b := yg_draw_k00) (pb := pg_draw_k00_S) (
    (so_seq (so_if (to_e (eo_bin (op_A2 fl_gt) (eo_bin op_ix eo_var eo_c) eo_c))
    (so_seq (so_asg (eo_bin (op_A2 fl_mod) (eo_bin op_ix eo_var eo_c) eo_var) go_set)
    (so_seq (so_put pu_list (eo_bin (op_A2 fl_div) (eo_bin op_ix eo_var eo_c) eo_var) eo_c)
    (so_ret eo_mv)))
    so_pass)
    (so_seq (so_put pu_list (eo_bin op_add (eo_bin op_ix eo_var eo_c) eo_c) eo_c)
    (so_seq (so_asg (eo_bin (op_A2 fl_mod) (eo_bin (op_A2 fl_pow) (eo_bin op_add (eo_bin op_ix eo_var eo_c) (eo_bin op_mul eo_c (eo_bin op_ix eo_var eo_c))) eo_c) eo_c) go_set)
    (so_seq (so_asg (eo_bin (op_A2 fl_mod) (eo_bin (op_A2 fl_pow) (eo_bin op_add eo_var (eo_bin op_mul eo_c (eo_bin op_ix eo_var eo_c))) eo_c) eo_c) go_set)
    (so_ret (eo_bin (op_A2 fl_mod) (eo_bin (op_A2 fl_div) eo_var eo_c) eo_var))))))) (by decide)

/-- _law_pool(_law_script, _law_at); slots 0:_law_script 1:_law_at 2:_law_cell -/
def yg_pool : MS := (sSeq (sAsg (eIf (tE (eBin cLt (eVar 1) (eCall fLen (aCons (eVar 0) aNil)))) (eBin xIx (eVar 0) (eVar 1)) (eC (.int 0))) (gSet 2)) (sRet (eLst (aCons (eCall fMax (aCons (eC (.int 0)) (aCons (eBin bSub (eCall fAbs (aCons (eVar 2) aNil)) (eC (.int 1000000000000000000))) aNil))) (aCons (eBin bAdd (eBin bMod (eVar 2) (eC (.int 2305843009213693951))) (eBin bMul (eC (.int 7919)) (eBin bAdd (eVar 1) (eC (.int 1))))) (aCons (eC (.int 0)) aNil))))))
def hg_pool : FL := runD 3 yg_pool
def pg_pool_S : PS := (zSeq (zAsg (pIf (qE (pBin (A2 cLt) (pVar 1) (pCall pLen (aConsP (pVar 0) aNilP)))) (pBin pIx (pVar 0) (pVar 1)) (pC (.int 0))) (gS 2)) (zRet (pKeep .lst (aConsP (pCall pMax (aConsP (pC (.int 0)) (aConsP (pBin (A2 bSub) (pCall pAbs (aConsP (pVar 2) aNilP)) (pC (.int 1000000000000000000))) aNilP))) (aConsP (pBin pAdd (pBin (A2 bMod) (pVar 2) (pC (.int 2305843009213693951))) (pBin pMul (pC (.int 7919)) (pBin pAdd (pVar 1) (pC (.int 1))))) (aConsP (pC (.int 0)) aNilP))))))
def pg_pool : PF := runP [] 3 pg_pool_S
theorem pk_pg_pool : FOk hg_pool pg_pool := fo_run (mp := []) (n := 3) (b := yg_pool) (pb := pg_pool_S) (
    (so_seq (so_asg (eo_if (to_e (eo_bin (op_A2 fl_lt) eo_var (eo_call op_len (ao_cons eo_var ao_nil)))) (eo_bin op_ix eo_var eo_var) eo_c) go_set)
    (so_ret (eo_lstK (ao_cons (eo_call op_max (ao_cons eo_c (ao_cons (eo_bin (op_A2 fl_sub) (eo_call op_abs (ao_cons eo_var ao_nil)) eo_c) ao_nil))) (ao_cons (eo_bin op_add (eo_bin (op_A2 fl_mod) eo_var eo_c) (eo_bin op_mul eo_c (eo_bin op_add eo_var eo_c))) (ao_cons eo_c ao_nil))))))) (by decide)

end Pl

/-! Pl, part 16: ==, repr, small facts for specs. -/
namespace Pl
open PySem L2 Zl
theorem rdT_ints (k : Nat) (f : Fl) (ns : List Int) : rdT (k + 1) (.nd f .lst (ns.map I)) = some (.list (ns.map .int)) := by
  show (mapO (rdT k) (ns.map I)).bind _ = _
  rw [mapO_map (rdT k) I PyData.int (fun x => by cases k <;> rfl)]
  rfl
theorem rdT20_ints (f : Fl) (ns : List Int) : rdT dep (.nd f .lst (ns.map I)) = some (.list (ns.map .int)) := rdT_ints 19 f ns
theorem pEq_ints (f g : Fl) (xs ys : List Int) : pEq (.nd f .lst (xs.map I)) (.nd g .lst (ys.map I)) = some (B (decide (xs = ys))) := by
  show eqD false _ _ = _
  unfold eqD
  rw [rdT20_ints, rdT20_ints]
  simp [-Option.bind_some, shaped_ints, PyData.eqv, eqvAll_ints]
theorem pNe_ints (f g : Fl) (xs ys : List Int) : pNe (.nd f .lst (xs.map I)) (.nd g .lst (ys.map I)) = some (B (!decide (xs = ys))) := by
  show eqD true _ _ = _
  unfold eqD
  rw [rdT20_ints, rdT20_ints]
  simp [-Option.bind_some, shaped_ints, PyData.eqv, eqvAll_ints]
theorem pNe_nil (f g : Fl) (ns : List Int) : pNe (.nd f .lst (ns.map I)) (.nd g .lst []) = some (B (!decide (ns = []))) := pNe_ints f g ns []
theorem pEq_nil (f g : Fl) (ns : List Int) : pEq (.nd f .lst (ns.map I)) (.nd g .lst []) = some (B (decide (ns = []))) := pEq_ints f g ns []
/-- a thing with plain data -/
structure Rd (t : Tr) (d : PyData) (L k : Nat) : Prop where
  rd : ∀ j, k ≤ j → rdT j t = some d
  tm : Tame d L k
theorem Rd.int {i : Int} (h : i.natAbs < 10 ^ 150) : Rd (I i) (.int i) 152 0 := ⟨fun j _ => by cases j <;> rfl, Tame.int h⟩
theorem Rd.bl (b : Bool) : Rd (B b) (.bool b) 5 0 := ⟨fun j _ => by cases j <;> rfl, Tame.bl b⟩
theorem Rd.non : Rd NN .none 5 0 := ⟨fun j _ => by cases j <;> rfl, Tame.non⟩
theorem Rd.mono {t : Tr} {d : PyData} {L M j k : Nat} (h : Rd t d L j) (l : L ≤ M) (m : j ≤ k) : Rd t d M k := ⟨fun i hi => h.rd i (by omega), h.tm.mono l m⟩
theorem Rd.list {α : Type} {f : Fl} {xs : List α} {g : α → Tr} {d : α → PyData} {L k : Nat} (h : ∀ x ∈ xs, Rd (g x) (d x) L k) : Rd (.nd f .lst (xs.map g)) (.list (xs.map d)) (xs.length * (L + 2) + 3) (k + 1) := by
  refine ⟨fun j hj => ?_, ?_⟩
  · cases j with
    | zero => omega
    | succ j =>
      have : mapO (rdT j) (xs.map g) = some (xs.map d) := by
        induction xs with
        | nil => rfl
        | cons x xs ih =>
          show (rdT j (g x)).bind _ = _
          rw [(h x (List.mem_cons_self ..)).rd j (by omega)]
          show (mapO (rdT j) (xs.map g)).bind _ = _
          rw [ih fun y hy => h y (List.mem_cons_of_mem _ hy)]
          rfl
      show (mapO (rdT j) (xs.map g)).bind _ = _
      rw [this]
      rfl
  · have := Tame.list (xs := xs.map d) (L := L) (k := k) fun y hy => by
      obtain ⟨x, hx, rfl⟩ := List.mem_map.mp hy
      exact (h x hx).tm
    rwa [List.length_map] at this
theorem Rd.tup {α : Type} {f : Fl} {xs : List α} {g : α → Tr} {d : α → PyData} {L k : Nat} (h : ∀ x ∈ xs, Rd (g x) (d x) L k) : Rd (.nd f .tup (xs.map g)) (.tuple (xs.map d)) (xs.length * (L + 2) + 3) (k + 1) := by
  refine ⟨fun j hj => ?_, ?_⟩
  · cases j with
    | zero => omega
    | succ j =>
      have : mapO (rdT j) (xs.map g) = some (xs.map d) := by
        induction xs with
        | nil => rfl
        | cons x xs ih =>
          show (rdT j (g x)).bind _ = _
          rw [(h x (List.mem_cons_self ..)).rd j (by omega)]
          show (mapO (rdT j) (xs.map g)).bind _ = _
          rw [ih fun y hy => h y (List.mem_cons_of_mem _ hy)]
          rfl
      show (mapO (rdT j) (xs.map g)).bind _ = _
      rw [this]
      rfl
  · have := Tame.tup (xs := xs.map d) (L := L) (k := k) fun y hy => by
      obtain ⟨x, hx, rfl⟩ := List.mem_map.mp hy
      exact (h x hx).tm
    rwa [List.length_map] at this
theorem Rd.ints {f : Fl} {ns : List Int} (h : Small ns) : Rd (.nd f .lst (ns.map I)) (.list (ns.map .int)) 7700003 1 := by
  refine ⟨fun j hj => ?_, tame_ints h⟩
  cases j with
  | zero => omega
  | succ j => exact rdT_ints j f ns
/-- the text of a thing -/
theorem pRepr_ok {t : Tr} {d : PyData} {L k : Nat} (h : Rd t d L k) (l : L ≤ 16000000) (m : k ≤ 20) : pRepr [t] = some (S d.shown) := by
  show (rdT dep t).bind _ = _
  have e : rdT dep t = some d := h.rd 20 m
  rw [e]
  show showT d = _
  unfold showT
  rw [if_pos ⟨h.tm.sh, by rw [sizeLine_eq]; exact Nat.le_trans h.tm.len (by omega), Nat.le_trans h.tm.dp (by omega), h.tm.nd⟩]
  rfl
end Pl

/-! Pl, part 17: `x[i], x[j] = a, b` (of atoms). -/
namespace Pl
open PySem L2 Zl
def at2 : E → Option (V × V)
  | .t (.nd .own .tup [.av v, .av w]) => some (v, w)
  | _ => none
def zSw1 (x : Nat) (i1 i2 : PE) (ρ : PSt) : V × V → Option PR := fun q => zSeq (zPut sPutL (pC q.1) x i1) (zPut sPutL (pC q.2) x i2) ρ
def zSw0 (x : Nat) (i1 i2 : PE) : E × PSt → Option PR := fun p => (at2 p.1).bind (zSw1 x i1 i2 p.2)
def zSw (x : Nat) (i1 i2 : PE) (r : PA) : PS := fun ρ => (pDis .tup r ρ).bind (zSw0 x i1 i2)
@[simp] theorem zSw_ev (x : Nat) (i1 i2 : PE) (r : PA) (ρ : PSt) : zSw x i1 i2 r ρ = (pDis .tup r ρ).bind (zSw0 x i1 i2) := nr rfl
@[simp] theorem zSw0_ev (x : Nat) (i1 i2 : PE) (x0 : E) (y0 : PSt) : zSw0 x i1 i2 (x0, y0) = (at2 x0).bind (zSw1 x i1 i2 y0) := nr rfl
@[simp] theorem at2_ev (v w : V) : at2 (.t (.nd .own .tup [.av v, .av w])) = some (v, w) := nr rfl
@[simp] theorem zSw1_ev (x : Nat) (i1 i2 : PE) (ρ : PSt) (v w : V) : zSw1 x i1 i2 ρ (v, w) = zSeq (zPut sPutL (pC v) x i1) (zPut sPutL (pC w) x i2) ρ := nr rfl
end Pl

/-! Zl, part 17: lists whose items bring new objects. -/
namespace Zl
open PySem L2
section
variable {α β : Type}
end
/-! ### in, of ints -/
/-! ### dicts of packed pairs -/
/-- a dict's entries, as data -/
def entD (k : Nat) (H : Hz) (kv : Key × V) : Option (Key × PyData) := (rdD k H kv.2).bind fun e => some (kv.1, e)
theorem entD_get {k : Nat} {H : Hz} {ns : List Int} {f : Int → PyData} {row : Int} (hr : row ∈ ns) : ∀ {kvs : List (Key × V)}, mapO (entD k H) kvs = some (ns.map fun n => (Sum.inl n, f n)) → ∃ v, valV kvs (Sum.inl row : Key) = some v ∧ rdD k H v = some (f row) := by
  induction ns with
  | nil => cases hr
  | cons n ns ih =>
    intro kvs h
    cases kvs with
    | nil => cases h
    | cons p kvs =>
      obtain ⟨z, h1, h⟩ := bnd h
      obtain ⟨zs', h2, h⟩ := bnd h
      rw [List.map_cons] at h
      obtain ⟨rfl, rfl⟩ := List.cons.inj (Option.some.inj h)
      obtain ⟨e, h3, h4⟩ := bnd h1
      obtain ⟨h5, h6⟩ := Prod.mk.inj (Option.some.inj h4)
      by_cases q : row = n
      · subst q
        exact ⟨p.2, valV_pos h5, by rw [h3, h6]⟩
      · rw [valV_neg (fun z => q (Sum.inl.inj (h5.symm.trans z)).symm)]
        exact ih (by rcases List.mem_cons.mp hr with z | z; exact absurd z q; exact z) h2
theorem entD_app {k : Nat} {H S : Hz} {kv : Key × V} {y : Key × PyData} (h : entD k H kv = some y) : entD k (H ++ S) kv = some y := by
  obtain ⟨e, h1, h2⟩ := bnd h
  unfold entD
  rw [rd_app h1]
  exact h2
theorem mapO_mono {α β : Type} {f g : α → Option β} (h : ∀ x y, f x = some y → g x = some y) : ∀ {xs : List α} {ys : List β}, mapO f xs = some ys → mapO g xs = some ys
  | [], _, e => e
  | x :: xs, ys, e => by
    obtain ⟨y, e1, e⟩ := bnd e
    obtain ⟨zs, e2, e⟩ := bnd e
    cases e
    rw [mapO_cons, h _ _ e1, mapO_mono h e2]
    rfl
theorem rd_succ {G : Hz} : ∀ {k : Nat} {v : V} {d : PyData}, rdD k G v = some d → rdD (k + 1) G v = some d
  | 0, v, d, h => by cases v <;> first | exact h | cases h
  | k + 1, v, d, h => by
    have ih : ∀ {v d}, rdD k G v = some d → rdD (k + 1) G v = some d := fun h => rd_succ h
    cases v with
    | ref a =>
      unfold rdD at h ⊢
      split at h
      · obtain ⟨ds, e1, h⟩ := bnd h
        cases h
        try dsimp only
        rw [mapO_mono (fun x y => ih) e1]
        rfl
      · obtain ⟨ds, e1, h⟩ := bnd h
        cases h
        try dsimp only
        rw [mapO_mono (fun x y => ih) e1]
        rfl
      · obtain ⟨ds, e1, h⟩ := bnd h
        cases h
        refine Eq.trans (congrArg (fun o => Option.bind o fun ds => some (PyData.dict ds)) (mapO_mono (fun x y hxy => ?_) e1)) rfl
        obtain ⟨z, e3, e4⟩ := bnd hxy
        cases e4
        show (rdD (k + 1) G x.2).bind _ = _
        rw [ih e3]
        rfl
      · cases h
    | _ => first | exact h | cases h
theorem rd_mono {G : Hz} {k : Nat} {v : V} {d : PyData} (h : rdD k G v = some d) : rdD (k + 1) G v = some d := rd_succ h
end Zl

/-! Zl, part 20: reckoning with enumerate(.., n), ranges down, comprehensions over iterators that make objects. -/
namespace Zl
open PySem L2
section
variable {σ : St} {G : Hz}
def enSB (a : Nat) (k0 : Int) (H : Hz) : List V → Option (MIt × Hz) := fun _ => some (itES a k0, H)
@[simp] theorem enSB_ev (a : Nat) (k0 : Int) (H : Hz) (xs : List V) : enSB a k0 H xs = some (itES a k0, H) := nr rfl
def enSA (k0 : Int) : V × Hz → Option (MIt × Hz)
  | (.ref a, H) => (lstO H[a]?).bind (enSB a k0 H)
  | _ => none
@[simp] theorem enSA_ev (k0 : Int) (a : Nat) (H : Hz) : enSA k0 (.ref a, H) = (lstO H[a]?).bind (enSB a k0 H) := nr rfl
@[simp] theorem iEnumS_ev (k0 : Int) (m : ME) : iEnumS k0 m σ G = (m σ G).bind (enSA k0) := by
  unfold iEnumS
  congr 1
  funext p
  rcases p with ⟨v, H⟩
  cases v <;> try rfl
  rename_i a
  show (match H[a]? with | some (.lst _) => some (itES a k0, H) | _ => none) = (lstO H[a]?).bind (enSB a k0 H)
  cases H[a]? with
  | none => rfl
  | some o => cases o <;> rfl
def g2D (k : Key) (z : V) (H : Hz) : List (Key × V) → Option (V × Hz) := fun kvs => some ((valV kvs k).getD z, H)
@[simp] theorem g2D_ev (k : Key) (z : V) (H : Hz) (kvs : List (Key × V)) : g2D k z H kvs = some ((valV kvs k).getD z, H) := nr rfl
def g2C (a : Nat) (y : V) : V × Hz → Option (V × Hz) := fun r => match keyOf y with
  | some k => (dkO r.2[a]?).bind (g2D k r.1 r.2)
  | none => none
@[simp] theorem g2C_i (a : Nat) (i : Int) (z : V) (H : Hz) : g2C a (.int i) (z, H) = (dkO H[a]?).bind (g2D (.inl i) z H) := nr rfl
@[simp] theorem g2C_s (a : Nat) (i : Str) (z : V) (H : Hz) : g2C a (.str i) (z, H) = (dkO H[a]?).bind (g2D (.inr i) z H) := nr rfl
def g2B (a : Nat) (mx : ME) (σ : St) : V × Hz → Option (V × Hz) := fun q => (mx σ q.2).bind (g2C a q.1)
@[simp] theorem g2B_ev (a : Nat) (mx : ME) (σ : St) (y : V) (H : Hz) : g2B a mx σ (y, H) = (mx σ H).bind (g2C a y) := nr rfl
def g2K (a : Nat) (mk mx : ME) (σ : St) (H : Hz) : List (Key × V) → Option (V × Hz) := fun _ => (mk σ H).bind (g2B a mx σ)
@[simp] theorem g2K_ev (a : Nat) (mk mx : ME) (σ : St) (H : Hz) (kvs : List (Key × V)) : g2K a mk mx σ H kvs = (mk σ H).bind (g2B a mx σ) := nr rfl
def g2A (mk mx : ME) (σ : St) : V × Hz → Option (V × Hz)
  | (.ref a, H) => (dkO H[a]?).bind (g2K a mk mx σ H)
  | _ => none
@[simp] theorem g2A_ev (mk mx : ME) (σ : St) (a : Nat) (H : Hz) : g2A mk mx σ (.ref a, H) = (dkO H[a]?).bind (g2K a mk mx σ H) := nr rfl
@[simp] theorem eGet2_ev (mo mk mx : ME) : eGet2 mo mk mx σ G = (mo σ G).bind (g2A mk mx σ) := by
  unfold eGet2
  congr 1
  funext p
  rcases p with ⟨v, H⟩
  cases v <;> try rfl
  rename_i a
  show (match H[a]? with | some (.dK _) => (mk σ H).bind fun q => (mx σ q.2).bind fun r => (match r.2[a]? with | some (.dK kvs) => (keyOf q.1).bind fun k => some ((valV kvs k).getD r.1, r.2) | _ => none) | _ => none) = (dkO H[a]?).bind (g2K a mk mx σ H)
  cases H[a]? with
  | none => rfl
  | some o =>
    cases o <;> try rfl
    show ((mk σ H).bind fun q => (mx σ q.2).bind fun r => (match r.2[a]? with | some (.dK kvs) => (keyOf q.1).bind fun k => some ((valV kvs k).getD r.1, r.2) | _ => none)) = (mk σ H).bind (g2B a mx σ)
    congr 1
    funext q
    show ((mx σ q.2).bind fun r => (match r.2[a]? with | some (.dK kvs) => (keyOf q.1).bind fun k => some ((valV kvs k).getD r.1, r.2) | _ => none)) = (mx σ q.2).bind (g2C a q.1)
    congr 1
    funext r
    unfold g2C
    cases r.2[a]? with
    | none => cases keyOf q.1 <;> rfl
    | some u => cases u <;> cases keyOf q.1 <;> rfl
def ldB (x : V) : V × Hz → Option (V × Hz)
  | (.int j, H) => match x with
    | .int i => ldg i j H
    | _ => none
  | _ => none
@[simp] theorem ldB_ev (i j : Int) (H : Hz) : ldB (.int i) (.int j, H) = ldg i j H := nr rfl
def ldA (b : ME) (σ : St) : V × Hz → Option (V × Hz) := fun p => (b σ p.2).bind (ldB p.1)
@[simp] theorem ldA_ev (b : ME) (σ : St) (x : V) (H : Hz) : ldA b σ (x, H) = (b σ H).bind (ldB x) := nr rfl
@[simp] theorem eListD_ev (a b : ME) : eListD a b σ G = (a σ G).bind (ldA b σ) := by
  unfold eListD
  congr 1
  funext p
  rcases p with ⟨v, H⟩
  show _ = (b σ H).bind (ldB v)
  congr 1
  funext q
  rcases q with ⟨u, H2⟩
  cases v <;> cases u <;> rfl
end
end Zl

/-! Zl, part 22: reckoning with flat dicts. -/
namespace Zl
open PySem L2
theorem kv_text {L : Nat} : ∀ (ds : List (PyData × PyData)), (∀ p ∈ ds, p.1.shown.length ≤ L ∧ p.2.shown.length ≤ L) → ((PyData.shownKv ds).map (·.length)).sum ≤ ds.length * (2 * L + 2)
  | [], _ => by simp [PyData.shownKv]
  | (k, v) :: ds, h => by
    have ih := kv_text ds fun p hp => h p (List.mem_cons_of_mem _ hp)
    have h1 := h (k, v) (List.mem_cons_self ..)
    have e : (k.shown ++ (": " : Str) ++ v.shown).length = k.shown.length + 2 + v.shown.length := by
      rw [PySem.Str.length_append, PySem.Str.length_append]
      rfl
    rw [PyData.shownKv_cons, List.map_cons, List.sum_cons, e, List.length_cons, Nat.add_mul, Nat.one_mul]
    dsimp only at h1
    omega
theorem dict_text {L : Nat} (ds : List (PyData × PyData)) (h : ∀ p ∈ ds, p.1.shown.length ≤ L ∧ p.2.shown.length ≤ L) : (PyData.dict ds).shown.length ≤ ds.length * (2 * L + 4) + 3 := by
  have h1 := dictText_len_le (PyData.shownKv ds)
  have h2 := kv_text ds h
  have h3 := PyData.shownKv_length ds
  rw [h3] at h1
  have e : (PyData.dict ds).shown = dictText (PyData.shownKv ds) := by simp only [PyData.shown]
  rw [e]
  have : ds.length * (2 * L + 4) = ds.length * (2 * L + 2) + 2 * ds.length := by
    rw [show 2 * L + 4 = 2 * L + 2 + 2 by omega, Nat.mul_add, Nat.mul_comm ds.length 2]
  omega
end Zl

/-! Pl: the text of data with dicts; dict(pairs) -/
namespace Pl
open PySem L2 Zl
variable {G : Hz} {M : List Nat}
def showD (d : PyData) : Option Tr := if d.showable = true ∧ d.shown.length ≤ sizeLine ∧ d.depth ≤ 30 then some (.av (.str d.shown)) else none
def pReprD : PL := fun ts => match ts with
  | [.nd f k xs] => (rdT dep (.nd f k xs)).bind showD
  | _ => none
def rpLD (ts : List Tr) : Option Tr := (mapO (rdT 19) ts).bind fun ds => if ts.length ≤ sizeLine ∧ (PyData.list ds).showable = true ∧ (PyData.list ds).shown.length ≤ sizeLine ∧ (PyData.list ds).depth ≤ 30 then some (.av (.str (PyData.list ds).shown)) else none
def pRpD2 (ρ : PSt) : List Tr → Option (E × PSt) := fun ts => (rpLD ts).bind (retT ρ)
def pRpD1 : List E × PSt → Option (E × PSt) := fun p => (drs p.2 p.1).bind (pRpD2 p.2)
def pReprLD (r : PA) : PE := fun ρ => (r ρ).bind pRpD1
/-! dict(pairs), the keys all different -/
def pairT : Tr → Option (Key × V)
  | .nd _ .tup [.av k, .av v] => (keyOf k).bind fun q => some (q, v)
  | _ => none
def dpK (kvs : List (Key × V)) : Option Tr := if (kvs.map (·.1)).Nodup ∧ (kvs.map (·.2)).all isAt = true then some (.nd .own (.dct (kvs.map (·.1))) ((kvs.map (·.2)).map .av)) else none
def pDictP : PL := fun ts => match ts with
  | [.nd _ .lst xs] => (mapO pairT xs).bind dpK
  | _ => none
/-! tame data, dicts within -/
structure TamD (d : PyData) (L k : Nat) : Prop where
  len : d.shown.length ≤ L
  sh : d.showable = true
  dp : d.depth ≤ k
theorem TamD.mono {d : PyData} {L M j k : Nat} (h : TamD d L j) (l : L ≤ M) (m : j ≤ k) : TamD d M k := ⟨Nat.le_trans h.len l, h.sh, Nat.le_trans h.dp m⟩
theorem tam_all {xs : List PyData} {L k : Nat} (h : ∀ x ∈ xs, TamD x L k) : ((PyData.shownAll xs).map (·.length)).sum ≤ xs.length * L ∧ PyData.showableAll xs = true ∧ PyData.depthAll xs ≤ k := by
  refine ⟨?_, ?_⟩
  · have := sum_le (ts := (PyData.shownAll xs).map (·.length)) (L := L) fun t ht => by
      rw [shownAll_map, List.map_map] at ht
      obtain ⟨x, hx, rfl⟩ := List.mem_map.mp ht
      exact (h x hx).len
    rwa [List.length_map, shownAll_map, List.length_map, ← shownAll_map] at this
  · induction xs with
    | nil => exact ⟨rfl, Nat.zero_le _⟩
    | cons x xs ih =>
      obtain ⟨h2, h3⟩ := ih fun y hy => h y (List.mem_cons_of_mem _ hy)
      have hx := h x (List.mem_cons_self ..)
      have := hx.dp
      refine ⟨by simp only [PyData.showableAll, hx.sh, h2, Bool.and_self], ?_⟩
      rw [PyData.depthAll]
      exact Nat.max_le.mpr ⟨hx.dp, h3⟩
theorem TamD.list {xs : List PyData} {L k : Nat} (h : ∀ x ∈ xs, TamD x L k) : TamD (.list xs) (xs.length * (L + 2) + 3) (k + 1) := by
  obtain ⟨h1, h2, h3⟩ := tam_all h
  refine ⟨?_, h2, Nat.succ_le_succ h3⟩
  have := listText_len_le (PyData.shownAll xs)
  show (listText _).length ≤ _
  rw [shownAll_map, List.length_map, ← shownAll_map] at this
  rw [Nat.mul_add]
  omega
theorem show_kvD {L k : Nat} : ∀ (ds : List (PyData × PyData)), (∀ p ∈ ds, TamD p.1 L k ∧ TamD p.2 L k) → PyData.showableKv ds = true ∧ PyData.depthKv ds ≤ k
  | [], _ => ⟨rfl, Nat.zero_le _⟩
  | (a, v) :: ds, h => by
    obtain ⟨i1, i2⟩ := show_kvD ds fun p hp => h p (List.mem_cons_of_mem _ hp)
    obtain ⟨h1, h2⟩ := h (a, v) (List.mem_cons_self ..)
    dsimp only at h1 h2
    have d1 := h1.dp
    have d2 := h2.dp
    refine ⟨?_, ?_⟩
    · simp only [PyData.showableKv, h1.sh, h2.sh, i1, Bool.and_self]
    · simp only [PyData.depthKv]
      omega
theorem TamD.dict {ds : List (PyData × PyData)} {L k : Nat} (h : ∀ p ∈ ds, TamD p.1 L k ∧ TamD p.2 L k) : TamD (.dict ds) (ds.length * (2 * L + 4) + 3) (k + 1) := by
  obtain ⟨h2, h3⟩ := show_kvD ds h
  refine ⟨dict_text ds fun p hp => ⟨(h p hp).1.len, (h p hp).2.len⟩, by simp only [PyData.showable, h2], ?_⟩
  rw [PyData.depth]
  omega
/-- a thing with data -/
structure Rx (t : Tr) (d : PyData) (L k : Nat) : Prop where
  rd : ∀ j, k ≤ j → rdT j t = some d
  tm : TamD d L k
theorem Rx.mono {t : Tr} {d : PyData} {L M j k : Nat} (h : Rx t d L j) (l : L ≤ M) (m : j ≤ k) : Rx t d M k := ⟨fun i hi => h.rd i (by omega), h.tm.mono l m⟩
theorem rx_map {α : Type} {g : α → Tr} {d : α → PyData} {L k j : Nat} (hj : k ≤ j) : ∀ (xs : List α), (∀ x ∈ xs, Rx (g x) (d x) L k) → mapO (rdT j) (xs.map g) = some (xs.map d)
  | [], _ => rfl
  | x :: xs, h => by
    show (rdT j (g x)).bind _ = _
    rw [(h x (List.mem_cons_self ..)).rd j hj]
    show (mapO (rdT j) (xs.map g)).bind _ = _
    rw [rx_map hj xs fun y hy => h y (List.mem_cons_of_mem _ hy)]
    rfl
theorem Rx.list {α : Type} {f : Fl} {xs : List α} {g : α → Tr} {d : α → PyData} {L k : Nat} (h : ∀ x ∈ xs, Rx (g x) (d x) L k) : Rx (.nd f .lst (xs.map g)) (.list (xs.map d)) (xs.length * (L + 2) + 3) (k + 1) := by
  refine ⟨fun j hj => ?_, ?_⟩
  · cases j with
    | zero => omega
    | succ j =>
      show (mapO (rdT j) (xs.map g)).bind _ = _
      rw [rx_map (by omega) xs h]
      rfl
  · have := TamD.list (xs := xs.map d) (L := L) (k := k) fun y hy => by
      obtain ⟨x, hx, rfl⟩ := List.mem_map.mp hy
      exact (h x hx).tm
    rwa [List.length_map] at this
theorem Rx.dct {α : Type} {f : Fl} {xs : List α} {kf : α → Key} {g : α → Tr} {d : α → PyData} {L k : Nat} (h : ∀ x ∈ xs, Rx (g x) (d x) L k) (hk : ∀ x ∈ xs, TamD (keyP (kf x)) L k) : Rx (.nd f (.dct (xs.map kf)) (xs.map g)) (.dict (xs.map fun x => (keyP (kf x), d x))) (xs.length * (2 * L + 4) + 3) (k + 1) := by
  refine ⟨fun j hj => ?_, ?_⟩
  · cases j with
    | zero => omega
    | succ j =>
      show (mapO (rdT j) (xs.map g)).bind _ = _
      rw [rx_map (by omega) xs h]
      show some (PyData.dict (((xs.map kf).map keyP).zip (xs.map d))) = _
      rw [List.map_map, List.zip_map']
      rfl
  · have := TamD.dict (ds := xs.map fun x => (keyP (kf x), d x)) (L := L) (k := k) fun p hp => by
      obtain ⟨x, hx, rfl⟩ := List.mem_map.mp hp
      exact ⟨hk x hx, (h x hx).tm⟩
    rwa [List.length_map] at this
/-! for simp -/
@[simp] theorem pRpD2_ev (ρ : PSt) (ts : List Tr) : pRpD2 ρ ts = (rpLD ts).bind (retT ρ) := nr rfl
@[simp] theorem pRpD1_ev (x : List E) (y : PSt) : pRpD1 (x, y) = (drs y x).bind (pRpD2 y) := nr rfl
@[simp] theorem pReprLD_ev (r : PA) (ρ : PSt) : pReprLD r ρ = (r ρ).bind pRpD1 := nr rfl
@[simp] theorem pDictP_ev (f : Fl) (xs : List Tr) : pDictP [.nd f .lst xs] = (mapO pairT xs).bind dpK := nr rfl
end Pl

/-! Pl, part 20: methods that change an item of a list: x[j].append(v), x[j].pop(i). -/
namespace Pl
open PySem L2 Zl
section
variable {N N1 N2 F A A' F' : Nat → Prop} {σ : St} {G G' G1 G2 : Hz} {ρ ρ' ρ1 ρ2 : PSt} {os os1 os2 : Nat → List Nat} {M M1 M2 : List Nat} {as as1 as2 bs cs : List Nat} {e e1 : E} {v v1 w : V} {t u : Tr} {vs : List V}
/-- one item of a list may change -/
theorem Rls.item : ∀ {xs : List Tr} {vs : List V} {as : List Nat} {k : Nat} {y : Tr}, Rls A F G xs vs as → xs[k]? = some y → ∃ w L cs R, vs[k]? = some w ∧ as = L ++ cs ++ R ∧ Rl A F G y w cs ∧ ∀ {A' F' : Nat → Prop} {G' : Hz} (y' : Tr) (cs' : List Nat), (∀ t v bs, (∀ b ∈ bs, b ∈ L ∨ b ∈ R) → Rl A F G t v bs → Rl A' F' G' t v bs) → Rl A' F' G' y' w cs' → Rls A' F' G' (xs.set k y') vs (L ++ cs' ++ R)
  | [], _, _, _, _, _, e => by cases e
  | x :: xs, _, _, 0, y, h, e => by
    obtain ⟨v, ws, b1, c1, rfl, rfl, h1, h2⟩ := h
    cases e
    refine ⟨v, [], b1, c1, rfl, rfl, h1, fun y' cs' hm hy => ⟨v, ws, cs', c1, rfl, rfl, hy, ?_⟩⟩
    exact go hm h2 fun b hb => .inr hb
  | x :: xs, _, _, k + 1, y, h, e => by
    obtain ⟨v, ws, b1, c1, rfl, rfl, h1, h2⟩ := h
    obtain ⟨w, L, cs, R, e1, rfl, h3, h4⟩ := Rls.item h2 e
    refine ⟨w, b1 ++ L, cs, R, e1, by simp only [List.append_assoc], h3, fun y' cs' hm hy => ⟨v, ws, b1, L ++ cs' ++ R, rfl, by simp only [List.append_assoc], hm _ _ _ (fun b hb => .inl (List.mem_append_left _ hb)) h1, h4 y' cs' (fun t v bs hb r => hm t v bs (fun b hb2 => (hb b hb2).elim (fun z => .inl (List.mem_append_right _ z)) .inr) r) hy⟩⟩
where go {A F A' F' : Nat → Prop} {G G' : Hz} {L R : List Nat} (hm : ∀ t v bs, (∀ b ∈ bs, b ∈ L ∨ b ∈ R) → Rl A F G t v bs → Rl A' F' G' t v bs) : ∀ {xs : List Tr} {vs : List V} {as : List Nat}, Rls A F G xs vs as → (∀ b ∈ as, b ∈ L ∨ b ∈ R) → Rls A' F' G' xs vs as
  | [], _, _, h, _ => h
  | x :: xs, _, _, h, hs => by
    obtain ⟨v, ws, b1, c1, rfl, rfl, h1, h2⟩ := h
    exact ⟨v, ws, b1, c1, rfl, rfl, hm _ _ _ (fun b hb => hs b (List.mem_append_left _ hb)) h1, go hm h2 fun b hb => hs b (List.mem_append_right _ hb)⟩
def jC (c : Int) : PSt → Option Int := fun _ => some c
def jV (i : Nat) : PSt → Option Int := fun ρ => (getT ρ[i]?).bind asI
def pMutI4 (i k : Nat) (xs : List Tr) (ρ1 : PSt) : Tr × Tr → Option (E × PSt) := fun q => some (.t q.1, ρ1.set i (some (.nd .own .lst (xs.set k q.2))))
def pMutI3 (g : PM) (i k : Nat) (xs : List Tr) (y : Tr) (ρ1 : PSt) : List Tr → Option (E × PSt) := fun ts => (g y ts).bind (pMutI4 i k xs ρ1)
def pMutI2 (tc : Nat) (g : PM) (i k : Nat) (xs : List Tr) (y : Tr) : List E × PSt → Option (E × PSt) := fun p => (argsT tc p.2 p.1).bind (pMutI3 g i k xs y p.2)
def pMutI1 (ck : Tr → Bool) (tc : Nat) (g : PM) (i : Nat) (r : PA) (ρ : PSt) (xs : List Tr) (k : Nat) : Tr → Option (E × PSt) := fun y => if ck y = true then (r ρ).bind (pMutI2 tc g i k xs y) else none
def pMutI0 (ck : Tr → Bool) (tc : Nat) (g : PM) (i : Nat) (r : PA) (ρ : PSt) (xs : List Tr) : Nat → Option (E × PSt) := fun k => (xs[k]?).bind (pMutI1 ck tc g i r ρ xs k)
def pMutIj (ck : Tr → Bool) (tc : Nat) (g : PM) (i : Nat) (r : PA) (ρ : PSt) (xs : List Tr) : Int → Option (E × PSt) := fun j => (ixN xs.length j).bind (pMutI0 ck tc g i r ρ xs)
def pMutIt (ck : Tr → Bool) (tc : Nat) (g : PM) (i : Nat) (pj : PSt → Option Int) (r : PA) (ρ : PSt) : Tr → Option (E × PSt) := fun t => match t with
  | .nd .own .lst xs => (pj ρ).bind (pMutIj ck tc g i r ρ xs)
  | _ => none
def pMutI (ck : Tr → Bool) (tc : Nat) (g : PM) (i : Nat) (pj : PSt → Option Int) (r : PA) : PE := fun ρ => (getT ρ[i]?).bind (pMutIt ck tc g i pj r ρ)
/-! an operation on an item of a variable's list: x[j] == e; the item may be the list's own -/
def pBinIx4 (g : P2) (y : Tr) (ρ1 : PSt) : Tr → Option (E × PSt) := fun t2 => (g y t2).bind (retT ρ1)
def pBinIx3 (g : P2) (y : Tr) : E × PSt → Option (E × PSt) := fun p => (dr p.2 p.1).bind (pBinIx4 g y p.2)
def pBinIx2 (g : P2) (pb : PE) (ρ : PSt) : Tr → Option (E × PSt) := fun y => (pb ρ).bind (pBinIx3 g y)
def pBinIx1 (g : P2) (pb : PE) (ρ : PSt) (xs : List Tr) : Int → Option (E × PSt) := fun j => (atI xs j).bind (pBinIx2 g pb ρ)
def pBinIx0 (g : P2) (pj : PSt → Option Int) (pb : PE) (ρ : PSt) : Tr → Option (E × PSt) := fun t => match t with
  | .nd _ k xs => if isSeq k = true then (pj ρ).bind (pBinIx1 g pb ρ xs) else none
  | _ => none
def pBinIx (g : P2) (i : Nat) (pj : PSt → Option Int) (pb : PE) : PE := fun ρ => (getT ρ[i]?).bind (pBinIx0 g pj pb ρ)
theorem Rls.zip : ∀ {xs : List Tr} {vs : List V}, Rls A F G xs vs [] → ∀ p ∈ xs.zip vs, Rl A F G p.1 p.2 []
  | [], _, _, p, hp => by cases hp
  | x :: xs, _, h, p, hp => by
    obtain ⟨v, ws, b1, c1, rfl, e, h1, h2⟩ := h
    obtain ⟨rfl, rfl⟩ := List.append_eq_nil_iff.mp e.symm
    rcases List.mem_cons.mp hp with rfl | hp
    · exact h1
    · exact Rls.zip h2 p hp
end
@[simp] theorem pMutI_ev (ck : Tr → Bool) (tc : Nat) (g : PM) (i : Nat) (pj : PSt → Option Int) (r : PA) (ρ : PSt) : pMutI ck tc g i pj r ρ = (getT ρ[i]?).bind (pMutIt ck tc g i pj r ρ) := nr rfl
@[simp] theorem pMutIt_ev (ck : Tr → Bool) (tc : Nat) (g : PM) (i : Nat) (pj : PSt → Option Int) (r : PA) (ρ : PSt) (xs : List Tr) : pMutIt ck tc g i pj r ρ (.nd .own .lst xs) = (pj ρ).bind (pMutIj ck tc g i r ρ xs) := nr rfl
@[simp] theorem pMutIj_ev (ck : Tr → Bool) (tc : Nat) (g : PM) (i : Nat) (r : PA) (ρ : PSt) (xs : List Tr) (j : Int) : pMutIj ck tc g i r ρ xs j = (ixN xs.length j).bind (pMutI0 ck tc g i r ρ xs) := nr rfl
@[simp] theorem pMutI0_ev (ck : Tr → Bool) (tc : Nat) (g : PM) (i : Nat) (r : PA) (ρ : PSt) (xs : List Tr) (k : Nat) : pMutI0 ck tc g i r ρ xs k = (xs[k]?).bind (pMutI1 ck tc g i r ρ xs k) := nr rfl
@[simp] theorem pMutI1_ev (ck : Tr → Bool) (tc : Nat) (g : PM) (i : Nat) (r : PA) (ρ : PSt) (xs : List Tr) (k : Nat) (y : Tr) : pMutI1 ck tc g i r ρ xs k y = if ck y = true then (r ρ).bind (pMutI2 tc g i k xs y) else none := nr rfl
@[simp] theorem pMutI2_ev (tc : Nat) (g : PM) (i k : Nat) (xs : List Tr) (y : Tr) (x0 : List E) (y0 : PSt) : pMutI2 tc g i k xs y (x0, y0) = (argsT tc y0 x0).bind (pMutI3 g i k xs y y0) := nr rfl
@[simp] theorem pMutI3_ev (g : PM) (i k : Nat) (xs : List Tr) (y : Tr) (ρ1 : PSt) (ts : List Tr) : pMutI3 g i k xs y ρ1 ts = (g y ts).bind (pMutI4 i k xs ρ1) := nr rfl
@[simp] theorem pMutI4_ev (i k : Nat) (xs : List Tr) (ρ1 : PSt) (x0 y0 : Tr) : pMutI4 i k xs ρ1 (x0, y0) = some (.t x0, ρ1.set i (some (.nd .own .lst (xs.set k y0)))) := nr rfl
@[simp] theorem pBinIx_ev (g : P2) (i : Nat) (pj : PSt → Option Int) (pb : PE) (ρ : PSt) : pBinIx g i pj pb ρ = (getT ρ[i]?).bind (pBinIx0 g pj pb ρ) := nr rfl
@[simp] theorem pBinIx0_ev (g : P2) (pj : PSt → Option Int) (pb : PE) (ρ : PSt) (f : Fl) (xs : List Tr) : pBinIx0 g pj pb ρ (.nd f .lst xs) = (pj ρ).bind (pBinIx1 g pb ρ xs) := nr rfl
@[simp] theorem pBinIx1_ev (g : P2) (pb : PE) (ρ : PSt) (xs : List Tr) (j : Int) : pBinIx1 g pb ρ xs j = (atI xs j).bind (pBinIx2 g pb ρ) := nr rfl
@[simp] theorem pBinIx2_ev (g : P2) (pb : PE) (ρ : PSt) (y : Tr) : pBinIx2 g pb ρ y = (pb ρ).bind (pBinIx3 g y) := nr rfl
@[simp] theorem pBinIx3_ev (g : P2) (y : Tr) (x0 : E) (y0 : PSt) : pBinIx3 g y (x0, y0) = (dr y0 x0).bind (pBinIx4 g y y0) := nr rfl
@[simp] theorem pBinIx4_ev (g : P2) (y : Tr) (ρ1 : PSt) (t2 : Tr) : pBinIx4 g y ρ1 t2 = (g y t2).bind (retT ρ1) := nr rfl
@[simp] theorem jC_ev (c : Int) (ρ : PSt) : jC c ρ = some c := nr rfl
@[simp] theorem jV_ev (i : Nat) (ρ : PSt) : jV i ρ = (getT ρ[i]?).bind asI := nr rfl
end Pl

/-! Pl, part 21: max(xs, default=d). -/
namespace Pl
open PySem L2 Zl
def mxdR (d : Int) (ns : List Int) : Option Tr := some (.av (.int (maxDf d ns)))
def pMaxDef (d : Int) : PL := fun ts => match ts with
  | [.nd _ .lst xs] => (intsT xs).bind (mxdR d)
  | _ => none
def pCutF (k : Int) : P1 := fun t => match t with
  | .nd _ .fz xs => newL (cutG xs none (some k))
  | _ => none
@[simp] theorem pCutF_F (k : Int) (f : Fl) (xs : List Tr) : pCutF k (.nd f .fz xs) = newL (cutG xs none (some k)) := nr rfl
@[simp] theorem A2_mulW (i j : Int) : A2 bMulW (I i) (I j) = if wideN i = true ∧ wideN j = true then some (I (i * j)) else none := by
  show (bMulW (.int i) (.int j) []).bind _ = _
  unfold bMulW
  dsimp only
  split <;> rfl
@[simp] theorem pMaxDef_L (d : Int) (f : Fl) (xs : List Tr) : pMaxDef d [.nd f .lst xs] = (intsT xs).bind (mxdR d) := nr rfl
@[simp] theorem mxdR_ev (d : Int) (ns : List Int) : mxdR d ns = some (I (maxDf d ns)) := nr rfl
end Pl

/-! Pl, part 22: del d[k]. -/
namespace Pl
open PySem L2 Zl
section
variable {A F : Nat → Prop} {G : Hz}
def neK (k : Key) {α : Type} (p : Key × α) : Bool := decide (p.1 ≠ k)
def ddK (ks : List Key) (xs : List Tr) (k : Key) : Option (Tr × Tr) := if hasK ks k = true then some (.av .non, .nd .own (.dct (ks.filter fun x => decide (x ≠ k))) (((ks.zip xs).filter (neK k)).map (·.2))) else none
def uDDel : PM := fun t ts => match t, ts with
  | .nd .own (.dct ks) xs, [.av y] => (keyOf y).bind (ddK ks xs)
  | _, _ => none
end
@[simp] theorem uDDel_I (ks : List Key) (xs : List Tr) (i : Int) : uDDel (.nd .own (.dct ks) xs) [I i] = ddK ks xs (.inl i) := nr rfl
end Pl

/-! Pl, part 23: sorted(d). -/
namespace Pl
open PySem L2 Zl
def srtDI (ns : List Int) : Option Tr := if ns.length < 64 then some (.nd .own .lst ((isort ns).map I)) else none
def pSortedDI : PL := fun ts => match ts with
  | [.nd _ (.dct ks) _] => (intKs ks).bind srtDI
  | _ => none
@[simp] theorem pSortedDI_D (f : Fl) (ks : List Key) (xs : List Tr) : pSortedDI [.nd f (.dct ks) xs] = (intKs ks).bind srtDI := nr rfl
@[simp] theorem srtDI_ev (ns : List Int) : srtDI ns = if ns.length < 64 then some (.nd .own .lst ((isort ns).map I)) else none := nr rfl
end Pl

/-! Pl, part 24: min(d). -/
namespace Pl
open PySem L2 Zl
def mnT : List Int → Option Tr
  | m :: ns => some (.av (.int (minI m ns)))
  | [] => none
def pMinDI : PL := fun ts => match ts with
  | [.nd _ (.dct ks) _] => (intKs ks).bind mnT
  | _ => none
@[simp] theorem pMinDI_D (f : Fl) (ks : List Key) (xs : List Tr) : pMinDI [.nd f (.dct ks) xs] = (intKs ks).bind mnT := nr rfl
end Pl

/-! Pl, part 25: d != {}. -/
namespace Pl
open PySem L2 Zl
def pNeE : P2 := fun t1 t2 => match t1, t2 with
  | .nd _ (.dct ks) _, .nd _ (.dct []) _ => some (.av (.bl (!ks.isEmpty)))
  | _, _ => none
@[simp] theorem pNeE_D (f g : Fl) (ks : List Key) (xs ys : List Tr) : pNeE (.nd f (.dct ks) xs) (.nd g (.dct []) ys) = some (B (!ks.isEmpty)) := nr rfl
end Pl

/-! Pl, part 26: xs.remove(k), tuple(xs), xs.count(y). -/
namespace Pl
open PySem L2 Zl
section
variable {A F : Nat → Prop} {G : Hz}
def remR (k : Int) (ns : List Int) : Option (Tr × Tr) := if k ∈ ns then some (.av .non, .nd .own .lst ((ns.erase k).map I)) else none
def uRem : PM := fun t ts => match t, ts with
  | .nd .own .lst xs, [.av (.int k)] => (intsT xs).bind (remR k)
  | _, _ => none
def newU (xs : List Tr) : Option Tr := if shL xs = true ∧ xs.length ≤ sizeLine then some (.nd .own .tup xs) else none
def pTuple : PL := fun ts => match ts with
  | [.nd _ .lst xs] => newU xs
  | _ => none
def cntR (d : PyData) : PyData → Option Tr
  | .list ds => if SeqAt.shaped (.list ds) = true ∧ SeqAt.shaped d = true then some (.av (.int ((ds.countP fun z => PyData.eqv z d : Nat) : Int))) else none
  | _ => none
def cntQ (o : Tr) (d : PyData) : Option Tr := (rdT dep o).bind (cntR d)
def pCnt : Tr → PL := fun o ts => match o, ts with
  | .nd f .lst xs, [y] => (rdT dep y).bind (cntQ (.nd f .lst xs))
  | _, _ => none
end
@[simp] theorem uRem_I (xs : List Tr) (k : Int) : uRem (.nd .own .lst xs) [I k] = (intsT xs).bind (remR k) := nr rfl
@[simp] theorem remR_ev (k : Int) (ns : List Int) : remR k ns = if k ∈ ns then some (NN, .nd .own .lst ((ns.erase k).map I)) else none := nr rfl
@[simp] theorem pTuple_L (f : Fl) (xs : List Tr) : pTuple [.nd f .lst xs] = newU xs := nr rfl
@[simp] theorem newU_ev (xs : List Tr) : newU xs = if shL xs = true ∧ xs.length ≤ sizeLine then some (.nd .own .tup xs) else none := nr rfl
@[simp] theorem pCnt_ev (f : Fl) (xs : List Tr) (y : Tr) : pCnt (.nd f .lst xs) [y] = (rdT dep y).bind (cntQ (.nd f .lst xs)) := nr rfl
@[simp] theorem cntQ_ev (o : Tr) (d : PyData) : cntQ o d = (rdT dep o).bind (cntR d) := nr rfl
@[simp] theorem cntR_ev (d : PyData) (ds : List PyData) : cntR d (.list ds) = if SeqAt.shaped (.list ds) = true ∧ SeqAt.shaped d = true then some (I ((ds.countP fun z => PyData.eqv z d : Nat) : Int)) else none := nr rfl
end Pl

/-! Pl, part 27: a op x[j] (x[j] may be x's own), a + b of new lists whose items stay their own. -/
namespace Pl
open PySem L2 Zl
section
variable {N N1 N2 F A A' F' : Nat → Prop} {σ : St} {G G' G1 G2 : Hz} {ρ ρ' ρ1 ρ2 : PSt} {os os1 os2 : Nat → List Nat} {M M1 M2 : List Nat} {as as1 as2 bs cs : List Nat} {e e1 : E} {v v1 w : V} {t u : Tr} {vs : List V}
/-! a + b -/
def ownL : E → Option (List Tr)
  | .t (.nd .own .lst xs) => some xs
  | _ => none
def pCatK3 (xs : List Tr) (ρ : PSt) : List Tr → Option (E × PSt) := fun ys => if xs.length + ys.length ≤ sizeLine then some (.t (.nd .own .lst (xs ++ ys)), ρ) else none
def pCatK2 (xs : List Tr) : E × PSt → Option (E × PSt) := fun p => (ownL p.1).bind (pCatK3 xs p.2)
def pCatKb (pb : PE) (ρ : PSt) : List Tr → Option (E × PSt) := fun xs => (pb ρ).bind (pCatK2 xs)
def pCatK1 (pb : PE) : E × PSt → Option (E × PSt) := fun p => (ownL p.1).bind (pCatKb pb p.2)
def pCatK (pa pb : PE) : PE := fun ρ => (pa ρ).bind (pCatK1 pb)
/-! a op x[j] -/
def pBinIxR3 (g : P2) (e1 : E) (ρ : PSt) (y : Tr) : Tr → Option (E × PSt) := fun t1 => (g t1 y).bind (retT ρ)
def pBinIxR2 (g : P2) (e1 : E) (ρ : PSt) : Tr → Option (E × PSt) := fun y => (dr ρ e1).bind (pBinIxR3 g e1 ρ y)
def pBinIxR1 (g : P2) (e1 : E) (ρ : PSt) (xs : List Tr) : Int → Option (E × PSt) := fun j => (atI xs j).bind (pBinIxR2 g e1 ρ)
def pBinIxR0 (g : P2) (pj : PSt → Option Int) (e1 : E) (ρ : PSt) : Tr → Option (E × PSt) := fun t => match t with
  | .nd _ k xs => if isSeq k = true then (pj ρ).bind (pBinIxR1 g e1 ρ xs) else none
  | _ => none
def pBinIxRA (g : P2) (i : Nat) (pj : PSt → Option Int) : E × PSt → Option (E × PSt) := fun p => (getT p.2[i]?).bind (pBinIxR0 g pj p.1 p.2)
def pBinIxR (g : P2) (pa : PE) (i : Nat) (pj : PSt → Option Int) : PE := fun ρ => (pa ρ).bind (pBinIxRA g i pj)
end
@[simp] theorem ownL_t (xs : List Tr) : ownL (.t (.nd .own .lst xs)) = some xs := nr rfl
@[simp] theorem pCatK3_ev (xs : List Tr) (ρ : PSt) (ys : List Tr) : pCatK3 xs ρ ys = if xs.length + ys.length ≤ sizeLine then some (.t (.nd .own .lst (xs ++ ys)), ρ) else none := nr rfl
@[simp] theorem pCatK2_ev (xs : List Tr) (x0 : E) (y0 : PSt) : pCatK2 xs (x0, y0) = (ownL x0).bind (pCatK3 xs y0) := nr rfl
@[simp] theorem pCatKb_ev (pb : PE) (ρ : PSt) (xs : List Tr) : pCatKb pb ρ xs = (pb ρ).bind (pCatK2 xs) := nr rfl
@[simp] theorem pCatK1_ev (pb : PE) (x0 : E) (y0 : PSt) : pCatK1 pb (x0, y0) = (ownL x0).bind (pCatKb pb y0) := nr rfl
@[simp] theorem pCatK_ev (pa pb : PE) (ρ : PSt) : pCatK pa pb ρ = (pa ρ).bind (pCatK1 pb) := nr rfl
@[simp] theorem pBinIxR3_ev (g : P2) (e1 : E) (ρ : PSt) (y t1 : Tr) : pBinIxR3 g e1 ρ y t1 = (g t1 y).bind (retT ρ) := nr rfl
@[simp] theorem pBinIxR2_ev (g : P2) (e1 : E) (ρ : PSt) (y : Tr) : pBinIxR2 g e1 ρ y = (dr ρ e1).bind (pBinIxR3 g e1 ρ y) := nr rfl
@[simp] theorem pBinIxR1_ev (g : P2) (e1 : E) (ρ : PSt) (xs : List Tr) (j : Int) : pBinIxR1 g e1 ρ xs j = (atI xs j).bind (pBinIxR2 g e1 ρ) := nr rfl
@[simp] theorem pBinIxR0_ev (g : P2) (pj : PSt → Option Int) (e1 : E) (ρ : PSt) (f : Fl) (xs : List Tr) : pBinIxR0 g pj e1 ρ (.nd f .lst xs) = (pj ρ).bind (pBinIxR1 g e1 ρ xs) := nr rfl
@[simp] theorem pBinIxRA_ev (g : P2) (i : Nat) (pj : PSt → Option Int) (x0 : E) (y0 : PSt) : pBinIxRA g i pj (x0, y0) = (getT y0[i]?).bind (pBinIxR0 g pj x0 y0) := nr rfl
@[simp] theorem pBinIxR_ev (g : P2) (pa : PE) (i : Nat) (pj : PSt → Option Int) (ρ : PSt) : pBinIxR g pa i pj ρ = (pa ρ).bind (pBinIxRA g i pj) := nr rfl
end Pl

/-! Pl, part 28: for x in a list or a tuple. -/
namespace Pl
open PySem L2 Zl
section
variable {N N1 N2 F A A' F' : Nat → Prop} {σ : St} {G G' G1 G2 : Hz} {ρ ρ' ρ1 ρ2 : PSt} {os os1 os2 : Nat → List Nat} {M M1 M2 W : List Nat} {as as1 as2 bs cs : List Nat} {e e1 : E} {v v1 w : V} {t u : Tr} {vs : List V}
def seqU : Tr → Option (List Tr)
  | .nd _ .lst xs => shs xs
  | .nd _ .tup xs => shs xs
  | _ => none
def wS1 : E × PSt → Option (List Tr × PSt) := fun p => ((dr p.2 p.1).bind seqU).bind (pairI p.2)
def wS (a : PE) : PI := fun ρ => (a ρ).bind wS1
end
@[simp] theorem wS1_ev (x0 : E) (y0 : PSt) : wS1 (x0, y0) = ((dr y0 x0).bind seqU).bind (pairI y0) := nr rfl
@[simp] theorem wS_ev (a : PE) (ρ : PSt) : wS a ρ = (a ρ).bind wS1 := nr rfl
@[simp] theorem seqU_lst (f : Fl) (xs : List Tr) : seqU (.nd f .lst xs) = shs xs := nr rfl
@[simp] theorem seqU_tup (f : Fl) (xs : List Tr) : seqU (.nd f .tup xs) = shs xs := nr rfl
end Pl

/-! Pl, part 29: [x for x in d if ..], d a dict. -/
namespace Pl
open PySem L2 Zl
def fltP (x : Nat) (t : PT) (ρ : PSt) : List Key → Option (List Key)
  | [] => some []
  | k :: ks => (t (ρ.set x (some (kT k)))).bind fun p => (fltP x t ρ ks).bind fun r => some (if p.1 = true then k :: r else r)
def pKeysF3 (ρ : PSt) : List Key → Option (E × PSt) := fun ks => some (.t (.nd .own .lst (ks.map kT)), ρ)
def pKeysF2 (x : Nat) (t : PT) (ρ : PSt) : Tr → Option (E × PSt) := fun d => match d with
  | .nd _ (.dct ks) _ => if ks.length < sizeLine ∧ x < ρ.length then (fltP x t ρ ks).bind (pKeysF3 ρ) else none
  | _ => none
def pKeysF (j x : Nat) (t : PT) : PE := fun ρ => (getT ρ[j]?).bind (pKeysF2 x t ρ)
section
variable {N N1 N2 F A A' F' : Nat → Prop} {σ : St} {G G' G1 G2 : Hz} {ρ ρ' ρ1 ρ2 : PSt} {os os1 os2 : Nat → List Nat} {M M1 M2 W : List Nat}
end
/-! the atoms' tests -/
def pEqS : P2 := fun t1 t2 => (scT t1 t2).map fun b => .av (.bl b)
def nInR (x : V) (us : List V) : Option Tr := if flatV x = true ∧ us.all flatV = true then some (.av (.bl (!inV x us))) else none
def pNotInL : P2 := fun t1 t2 => match t1, t2 with
  | .av x, .nd _ .lst xs => (avs xs).bind (nInR x)
  | _, _ => none
@[simp] theorem fltP_nil (x : Nat) (t : PT) (ρ : PSt) : fltP x t ρ [] = some [] := nr rfl
@[simp] theorem pKeysF3_ev (ρ : PSt) (ks : List Key) : pKeysF3 ρ ks = some (.t (.nd .own .lst (ks.map kT)), ρ) := nr rfl
@[simp] theorem pKeysF2_ev (x : Nat) (t : PT) (ρ : PSt) (f : Fl) (ks : List Key) (xs : List Tr) : pKeysF2 x t ρ (.nd f (.dct ks) xs) = if ks.length < sizeLine ∧ x < ρ.length then (fltP x t ρ ks).bind (pKeysF3 ρ) else none := nr rfl
@[simp] theorem pKeysF_ev (j x : Nat) (t : PT) (ρ : PSt) : pKeysF j x t ρ = (getT ρ[j]?).bind (pKeysF2 x t ρ) := nr rfl
@[simp] theorem pEqS_I (i j : Int) : pEqS (I i) (I j) = some (B (decide (i = j))) := by
  show some (Tr.av (.bl (decide (V.int i = V.int j)))) = _
  congr 3
  simp
@[simp] theorem pEqS_S (i j : Str) : pEqS (S i) (S j) = some (B (decide (i = j))) := by
  show some (Tr.av (.bl (decide (V.str i = V.str j)))) = _
  congr 3
  simp
@[simp] theorem pNotInL_I (i : Int) (f : Fl) (xs : List Tr) : pNotInL (I i) (.nd f .lst xs) = (avs xs).bind (nInR (.int i)) := nr rfl
@[simp] theorem nInR_ev (x : Int) (ns : List Int) : nInR (.int x) (ns.map V.int) = some (B (!decide (x ∈ ns))) := by
  unfold nInR
  rw [if_pos ⟨rfl, by rw [List.all_map]; exact List.all_eq_true.mpr fun _ _ => rfl⟩, inV_int]
  rfl
end Pl

/-! Pl, part 32: calls with keywords, d.update(e), dict displays of tuples. -/
namespace Pl
open PySem L2 Zl
section
variable {N N1 N2 F A : Nat → Prop} {σ : St} {G G' G1 G2 : Hz} {ρ ρ' ρ1 ρ2 : PSt} {os os1 os2 : Nat → List Nat} {M M1 M2 : List Nat} {as as1 as2 bs cs : List Nat} {e e1 : E} {es : List E} {v v1 w : V} {vs dvs : List V} {t u : Tr} {ts : List Tr}
/-! ### keywords -/
def isAtE : E → Bool
  | .t (.av v) => isAt v
  | _ => false
def atE (v : V) : E := .t (.av v)
def aKwP2 (sel : List (Bool × Nat)) (dvs : List V) (es : List E) : List E × PSt → Option (List E × PSt) := fun q => if q.1.all isAtE = true then some (kwG sel es (dvs.map atE) q.1, q.2) else none
def aKwP1 (sel : List (Bool × Nat)) (dvs : List V) (b : PA) : List E × PSt → Option (List E × PSt) := fun p => (b p.2).bind (aKwP2 sel dvs p.1)
def aKwP (sel : List (Bool × Nat)) (dvs : List V) (a b : PA) : PA := fun ρ => (a ρ).bind (aKwP1 sel dvs b)
theorem TmEs.atoms : ∀ {es : List E} {vs : List V} {N : Nat → Prop} {as : List Nat}, es.all isAtE = true → TmEs N F σ G os es vs as → as = [] ∧ es = vs.map atE ∧ vs.all isAt = true
  | [], vs, N, as, _, k => by
    obtain ⟨rfl, rfl⟩ := k
    exact ⟨rfl, rfl, rfl⟩
  | e :: es, vs, N, as, h, k => by
    obtain ⟨v, ws, bs, cs, e1, e2, k1, k2⟩ := k
    subst e1 e2
    rw [List.all_cons, Bool.and_eq_true] at h
    obtain ⟨rfl, rfl, h3⟩ := TmEs.atoms h.2 k2
    cases e with
    | al i => cases h.1
    | t x =>
      cases x with
      | nd f k xs => cases h.1
      | av y =>
        obtain ⟨rfl, _, rfl⟩ := k1.rl
        exact ⟨rfl, rfl, by rw [List.all_cons, h3]; rw [show isAt v = true from h.1]; rfl⟩
theorem TmEs.snoc : ∀ {es : List E} {vs : List V} {N : Nat → Prop} {as : List Nat} {ws : List V}, ws.all isAt = true → TmEs N F σ G os es vs as → TmEs N F σ G os (es ++ ws.map atE) (vs ++ ws) as
  | [], vs, N, as, ws, h, k => by
    obtain ⟨rfl, rfl⟩ := k
    induction ws with
    | nil => exact ⟨rfl, rfl⟩
    | cons x ws ih =>
      rw [List.all_cons, Bool.and_eq_true] at h
      exact ⟨x, ws, [], [], rfl, rfl, tm_at h.1, by rw [nu_nil]; exact ih h.2⟩
  | e :: es, vs, N, as, ws, h, ⟨v, us, bs, cs, e1, e2, k1, k2⟩ => by
    subst e1 e2
    exact ⟨v, us ++ ws, bs, cs, rfl, rfl, k1, TmEs.snoc h k2⟩
theorem TmEs.keep : ∀ {es : List E} {vs : List V} {N : Nat → Prop} {as1 : List Nat}, TmEs N F σ G1 os1 es vs as1 → Inv (Nu N as1) F σ G1 ρ1 os1 → Res M (Nu N as1) F σ G1 ρ1 os1 G2 ρ2 os2 [] → TmEs N F σ G2 os2 es vs as1
  | [], vs, N, as1, k, _, _ => k
  | e :: es, vs, N, as1, ⟨v, ws, bs, cs, e1, e2, k1, k2⟩, iv, r => by
    subst e1 e2
    have e3 : Nu N (bs ++ cs) = Nu (Nu N cs) bs := by rw [nu_nu, nu_swap]
    have e4 : Nu N (bs ++ cs) = Nu (Nu N bs) cs := by rw [nu_nu]
    have h1 := TmE.keep (as2 := []) k1 (by rw [← e3]; exact iv) (by rw [← e3]; exact r) (fun a (ha : a ∈ ([] : List Nat)) => by cases ha)
    rw [nu_nil] at h1
    exact ⟨v, ws, bs, cs, rfl, rfl, h1, TmEs.keep k2 (by rw [← e4]; exact iv) (by rw [← e4]; exact r)⟩
/-! ### d.update(e) -/
/-! ### dict displays of tuples -/
def pDctA2 (ks : List Key) (ρ : PSt) : List Tr → Option (E × PSt) := fun ts => if ts.length = ks.length ∧ ks.Nodup then some (.t (.nd .own (.dct ks) ts), ρ) else none
def pDctA1 (ks : List Key) : List E × PSt → Option (E × PSt) := fun p => (tks p.1).bind (pDctA2 ks p.2)
def pDctA (ks : List Key) (p : PA) : PE := fun ρ => (p ρ).bind (pDctA1 ks)
end
/-! ### simp lemmas -/
@[simp] theorem aKwP2_ev (sel : List (Bool × Nat)) (dvs : List V) (es : List E) (x : List E) (y : PSt) : aKwP2 sel dvs es (x, y) = if x.all isAtE = true then some (kwG sel es (dvs.map atE) x, y) else none := nr rfl
@[simp] theorem aKwP1_ev (sel : List (Bool × Nat)) (dvs : List V) (b : PA) (x : List E) (y : PSt) : aKwP1 sel dvs b (x, y) = (b y).bind (aKwP2 sel dvs x) := nr rfl
@[simp] theorem aKwP_ev (sel : List (Bool × Nat)) (dvs : List V) (a b : PA) (ρ : PSt) : aKwP sel dvs a b ρ = (a ρ).bind (aKwP1 sel dvs b) := nr rfl
@[simp] theorem pDctA2_ev (ks : List Key) (ρ : PSt) (ts : List Tr) : pDctA2 ks ρ ts = if ts.length = ks.length ∧ ks.Nodup then some (.t (.nd .own (.dct ks) ts), ρ) else none := nr rfl
@[simp] theorem pDctA1_ev (ks : List Key) (x : List E) (y : PSt) : pDctA1 ks (x, y) = (tks x).bind (pDctA2 ks y) := nr rfl
@[simp] theorem pDctA_ev (ks : List Key) (p : PA) (ρ : PSt) : pDctA ks p ρ = (p ρ).bind (pDctA1 ks) := nr rfl
end Pl

/-! Pl, part 34: repr of any data. -/
namespace Pl
open PySem L2 Zl
def pReprX : PL := fun ts => match ts with
  | [.nd f k xs] => pReprD [.nd f k xs]
  | [.av v] => pRepr [.av v]
  | _ => none
@[simp] theorem pReprX_B (b : Bool) : pReprX [B b] = some (S (PyData.bool b).shown) := pRepr_ok (Rd.bl b) (by omega) (by omega)
end Pl

/-! Pl: an item taken out of a new list; for x in L: x.append(c), where the items are L's own. -/
namespace Pl
open PySem L2 Zl
section
variable {N N1 N2 F A A' F' : Nat → Prop} {σ : St} {G G' G1 G2 : Hz} {ρ ρ' ρ1 ρ2 : PSt} {os os1 os2 : Nat → List Nat} {M M1 M2 : List Nat} {as as1 as2 bs cs : List Nat} {e e1 : E} {v v1 w : V} {t u : Tr} {vs : List V}
def itemO (xs : List Tr) : Tr → Option Tr
  | .av (.int i) => (ixN xs.length i).bind fun k => xs[k]?
  | _ => none
def itemT : Tr → Tr → Option Tr
  | .nd .own .lst xs, t => itemO xs t
  | _, _ => none
@[simp] theorem itemT_ev (xs : List Tr) (i : Int) : itemT (.nd .own .lst xs) (I i) = atI xs i := nr rfl
def pIxT4 (t : Tr) (ρ : PSt) : Tr → Option (E × PSt) := fun ti => (itemT t ti).bind (retT ρ)
def pIxT3 (t : Tr) : E × PSt → Option (E × PSt) := fun p => (dr p.2 p.1).bind (pIxT4 t p.2)
def pIxT2 (b : PE) (ρ : PSt) : Tr → Option (E × PSt) := fun t => (b ρ).bind (pIxT3 t)
def pIxT1 (b : PE) : E × PSt → Option (E × PSt) := fun p => (kp p.1).bind (pIxT2 b p.2)
def pIxT (a b : PE) : PE := fun ρ => (a ρ).bind (pIxT1 b)
@[simp] theorem pIxT4_ev (t : Tr) (ρ : PSt) (ti : Tr) : pIxT4 t ρ ti = (itemT t ti).bind (retT ρ) := nr rfl
@[simp] theorem pIxT3_ev (t : Tr) (x0 : E) (y0 : PSt) : pIxT3 t (x0, y0) = (dr y0 x0).bind (pIxT4 t y0) := nr rfl
@[simp] theorem pIxT2_ev (b : PE) (ρ : PSt) (t : Tr) : pIxT2 b ρ t = (b ρ).bind (pIxT3 t) := nr rfl
@[simp] theorem pIxT1_ev (b : PE) (x0 : E) (y0 : PSt) : pIxT1 b (x0, y0) = (kp x0).bind (pIxT2 b y0) := nr rfl
@[simp] theorem pIxT_ev (a b : PE) (ρ : PSt) : pIxT a b ρ = (a ρ).bind (pIxT1 b) := nr rfl
theorem Inv.setN (h : Inv N F σ G ρ os) {j : Nat} (e : getT ρ[j]? = none) (w : Option V) : Inv N F (σ.set j w) G ρ os := ⟨fun i t q => by
  obtain ⟨v, e1, r⟩ := h.sl i t q
  have : j ≠ i := fun z => by rw [z, q] at e; cases e
  exact ⟨v, by rw [List.getElem?_set_ne this]; exact e1, r⟩, h.em, h.nd, h.dj, h.fr, by rw [List.length_set]; exact h.ln, h.bn, h.bf⟩
end
end Pl

/-! Pl: dict comprehensions with two clauses. -/
namespace Pl
open PySem L2 Zl
def d2In (n : Nat) (vs1 : List Nat) (g1 : PG) (t1 : PT) (ek ev : PE) (acc : KX) : List Tr × PSt → Option (KX × PSt) := fun p => if p.1.length < n then dLp vs1 g1 t1 ek ev p.1 acc (kills p.2 vs1) else none
def d2Ki (vs : List Nat) : KX × PSt → Option (KX × PSt) := fun p => some (p.1, kills p.2 vs)
def d2It (n : Nat) (vs : List Nat) (w1 : PI) (vs1 : List Nat) (g1 : PG) (t1 : PT) (ek ev : PE) (acc : KX) : Bool × PSt → Option (KX × PSt) := fun p => if p.1 = true then ((w1 p.2).bind (d2In n vs1 g1 t1 ek ev acc)).bind (d2Ki vs) else some (acc, kills p.2 vs)
def d2Tu (n : Nat) (vs : List Nat) (t : PT) (w1 : PI) (vs1 : List Nat) (g1 : PG) (t1 : PT) (ek ev : PE) (acc : KX) : PSt → Option (KX × PSt) := fun ρ => (t ρ).bind (d2It n vs w1 vs1 g1 t1 ek ev acc)
section
variable {N N1 N2 F A A' : Nat → Prop} {σ σ' σ1 σ2 : St} {G G' G1 G2 G3 : Hz} {ρ ρ' ρ1 ρ2 ρ3 : PSt} {os os' os1 os2 os3 : Nat → List Nat} {M M1 M2 M3 Mt Me Mk Mw Mw1 Mt1 Rb R1 R2 Rg Rg1 W W1 W2 vv vs1 : List Nat} {as as1 as2 bs cs aA : List Nat} {e e1 : E} {es : List E} {v v1 w : V} {vs : List V} {t u : Tr} {ts : List Tr} {D : Nat} {kd : Kd}
end
@[simp] theorem d2In_ev (n : Nat) (vs1 : List Nat) (g1 : PG) (t1 : PT) (ek ev : PE) (acc : KX) (x : List Tr) (y : PSt) : d2In n vs1 g1 t1 ek ev acc (x, y) = if x.length < n then dLp vs1 g1 t1 ek ev x acc (kills y vs1) else none := nr rfl
@[simp] theorem d2Ki_ev (vs : List Nat) (x : KX) (y : PSt) : d2Ki vs (x, y) = some (x, kills y vs) := nr rfl
@[simp] theorem d2It_ev (n : Nat) (vs : List Nat) (w1 : PI) (vs1 : List Nat) (g1 : PG) (t1 : PT) (ek ev : PE) (acc : KX) (x : Bool) (y : PSt) : d2It n vs w1 vs1 g1 t1 ek ev acc (x, y) = if x = true then ((w1 y).bind (d2In n vs1 g1 t1 ek ev acc)).bind (d2Ki vs) else some (acc, kills y vs) := nr rfl
@[simp] theorem d2Tu_ev (n : Nat) (vs : List Nat) (t : PT) (w1 : PI) (vs1 : List Nat) (g1 : PG) (t1 : PT) (ek ev : PE) (acc : KX) (ρ : PSt) : d2Tu n vs t w1 vs1 g1 t1 ek ev acc ρ = (t ρ).bind (d2It n vs w1 vs1 g1 t1 ek ev acc) := nr rfl
/-! a new thing that is walked: its parts may be its own -/
def pTz2 (ρ : PSt) : Tr → Option (E × PSt) := fun t => some (.t t.dem, ρ)
def pTz1 : E × PSt → Option (E × PSt) := fun p => (kp p.1).bind (pTz2 p.2)
def pTz (a : PE) : PE := fun ρ => (a ρ).bind pTz1
@[simp] theorem pTz2_ev (ρ : PSt) (t : Tr) : pTz2 ρ t = some (.t t.dem, ρ) := nr rfl
@[simp] theorem pTz1_ev (x : E) (y : PSt) : pTz1 (x, y) = (kp x).bind (pTz2 y) := nr rfl
@[simp] theorem pTz_ev (a : PE) (ρ : PSt) : pTz a ρ = (a ρ).bind pTz1 := nr rfl
/-! dict comprehensions with two clauses whose turns change nothing -/
end Pl

/-! Pl: x in (t, ..), data of any depth. -/
namespace Pl
open PySem L2 Zl
def inTR (d : PyData) : PyData → Option Tr
  | .tuple ds => if SeqAt.shaped d = true ∧ SeqAt.shaped (.tuple ds) = true then some (.av (.bl (ds.any fun z => PyData.eqv z d))) else none
  | _ => none
def pInT1 (t2 : Tr) (d : PyData) : Option Tr := (rdT dep t2).bind (inTR d)
def pInT : P2 := fun t1 t2 => (rdT dep t1).bind (pInT1 t2)
@[simp] theorem pInT_ev (t1 t2 : Tr) : pInT t1 t2 = (rdT dep t1).bind (pInT1 t2) := nr rfl
@[simp] theorem pInT1_ev (t2 : Tr) (d : PyData) : pInT1 t2 d = (rdT dep t2).bind (inTR d) := nr rfl
end Pl

namespace Pl
open PySem PySem.Spec L2 Zl
variable {K : PySem.W.Frag} {X : Cx}
def srtD (ns : List Int) : Option Tr := if ns.length < 63 then some (.nd .own .lst ((sortD ns).map I)) else none
def pSortSet : P1 := fun t => match t with
  | .nd _ .lst xs => (intsT xs).bind srtD
  | _ => none
@[simp] theorem pSortSet_L (f : Fl) (xs : List Tr) : pSortSet (.nd f .lst xs) = (intsT xs).bind srtD := nr rfl
@[simp] theorem srtD_ok {ns : List Int} (h : ns.length < 63) : srtD ns = some (.nd .own .lst ((sortD ns).map I)) := by unfold srtD; rw [if_pos h]
end Pl

/-! Pl: x[:] = y. -/
namespace Pl
open PySem PySem.Spec L2 Zl
def sPutAll : PP := fun t _ v => match t, v with
  | .nd .own .lst xs, .nd _ .lst ys => if xs.length + ys.length ≤ sizeLine ∧ shL ys = true then some (.nd .own .lst ys) else none
  | _, _ => none
@[simp] theorem sPutAll_ev (xs ys : List Tr) (f : Fl) (i : Tr) : sPutAll (.nd .own .lst xs) i (.nd f .lst ys) = if xs.length + ys.length ≤ sizeLine ∧ shL ys = true then some (.nd .own .lst ys) else none := nr rfl
end Pl

/-! Pl: set comprehensions of ints with two clauses, not in a set. -/
namespace Pl
open PySem L2 Zl
abbrev KS := List Int × Nat
def KS.k (a : KS) : Kd := .st a.1 a.2
def KS.x (_ : KS) : List Tr := []
section
variable {N N1 N2 F A A' : Nat → Prop} {σ σ' σ1 σ2 : St} {G G' G1 G2 G3 : Hz} {ρ ρ' ρ1 ρ2 ρ3 : PSt} {os os' os1 os2 os3 : Nat → List Nat} {M M1 M2 M3 Mt Me Mk Mw Mw1 Mt1 Rb R1 R2 Rg Rg1 W W1 W2 vv vs1 : List Nat} {as as1 as2 bs cs aA : List Nat} {e e1 : E} {es : List E} {v v1 w : V} {vs : List V} {t u : Tr} {ts : List Tr} {D : Nat} {kd : Kd}
end
def pSNotIn : P2 := fun t1 t2 => match t1, t2 with
  | .av (.int k), .nd _ (.st ns _) _ => some (.av (.bl (!decide (k ∈ ns))))
  | _, _ => none
@[simp] theorem pSNotIn_ev (k : Int) (f : Fl) (ns : List Int) (n : Nat) (xs : List Tr) : pSNotIn (I k) (.nd f (.st ns n) xs) = some (B (!decide (k ∈ ns))) := nr rfl
end Pl

/-! Pl: set(list of ints). -/
namespace Pl
open PySem PySem.Spec L2 Zl
def setD (ns : List Int) : Option Tr := if ns.length < 4000 then some (.nd .own (.st ns (nub ns).length) []) else none
def pSetL : P1 := fun t => match t with
  | .nd _ .lst xs => (intsT xs).bind setD
  | _ => none
@[simp] theorem pSetL_L (f : Fl) (xs : List Tr) : pSetL (.nd f .lst xs) = (intsT xs).bind setD := nr rfl
@[simp] theorem setD_ok {ns : List Int} (h : ns.length < 4000) : setD ns = some (.nd .own (.st ns (nub ns).length) []) := by unfold setD; rw [if_pos h]
end Pl

/-! Pl: xs != [], xs == [], t == () for lists and tuples of anything. -/
namespace Pl
open PySem L2 Zl
def pNeLE : P2 := fun t1 t2 => match t1, t2 with
  | .nd _ .lst xs, .nd _ .lst [] => some (.av (.bl (!xs.isEmpty)))
  | _, _ => none
def pEqLE : P2 := fun t1 t2 => match t1, t2 with
  | .nd _ .lst xs, .nd _ .lst [] => some (.av (.bl xs.isEmpty))
  | _, _ => none
def pEqTE : P2 := fun t1 t2 => match t1, t2 with
  | .nd _ .tup xs, .nd _ .tup [] => some (.av (.bl xs.isEmpty))
  | _, _ => none
@[simp] theorem pNeLE_L (f g : Fl) (xs : List Tr) : pNeLE (.nd f .lst xs) (.nd g .lst []) = some (B (!xs.isEmpty)) := nr rfl
@[simp] theorem pEqLE_L (f g : Fl) (xs : List Tr) : pEqLE (.nd f .lst xs) (.nd g .lst []) = some (B xs.isEmpty) := nr rfl
@[simp] theorem pEqTE_L (f g : Fl) (xs : List Tr) : pEqTE (.nd f .tup xs) (.nd g .tup []) = some (B xs.isEmpty) := nr rfl
end Pl

/-! Pl: errors. -/
namespace Pl
open PySem L2 Zl
/-- an error of the k-th class was raised -/
def Ex (k : Nat) : Tr := .av (exV k)
/-- what a call gave: nothing was raised; an error's code -/
def xV (v : V) : Option V := if exN v = none then none else some v
def xE : E → Option (Option V)
  | .t (.av v) => some (xV v)
  | .t (.nd _ _ _) => some none
  | .al _ => none
def xT : Tr → Bool
  | .av v => decide (exN v = none)
  | .nd _ _ _ => true
def zRaise (k : Nat) : PS := fun ρ => some (.rt (Ex k) ρ)
def cx2 (ρ : PSt) : Option V → Option PR
  | none => some (.nx ρ)
  | some v => some (.rt (.av v) ρ)
def cx1 : E × PSt → Option PR := fun p => (xE p.1).bind (cx2 p.2)
def zCallX (a : PE) : PS := fun ρ => (a ρ).bind cx1
def ax2 (g : PG) (p : E × PSt) : Option V → Option PR
  | none => zAsg0 g p
  | some v => some (.rt (.av v) p.2)
def ax1 (g : PG) : E × PSt → Option PR := fun p => (xE p.1).bind (ax2 g p)
def zAsgX (a : PE) (g : PG) : PS := fun ρ => (a ρ).bind (ax1 g)
def ck1 : PR → Option PR
  | .rt t ρ => if xT t = true then some (.rt t ρ) else none
  | r => some r
def zChk (b : PS) : PS := fun ρ => (b ρ).bind ck1
def cb2 (i : Nat) (ρ : PSt) : Option V → Option PR
  | none => some (.nx ρ)
  | some v => if i < ρ.length then some (.bk (ρ.set i (some (.av v)))) else none
def cb1 (i : Nat) : E × PSt → Option PR := fun p => (xE p.1).bind (cb2 i p.2)
def zCallB (i : Nat) (a : PE) : PS := fun ρ => (a ρ).bind (cb1 i)
def rb2 (i : Nat) (p : E × PSt) : Option V → Option PR
  | none => zRet1 p
  | some v => if i < p.2.length then some (.bk (p.2.set i (some (.av v)))) else none
def rb1 (i : Nat) : E × PSt → Option PR := fun p => (xE p.1).bind (rb2 i p)
def zRetB (i : Nat) (a : PE) : PS := fun ρ => (a ρ).bind (rb1 i)
def nb1 : PR → Option PR
  | .bk _ => none
  | r => some r
def zNoB (b : PS) : PS := fun ρ => (b ρ).bind nb1
def exK (ok : Nat → Bool) : Tr → Option Nat
  | .av v => match exN v with
    | some k => if ok k = true then some k else none
    | none => none
  | _ => none
def tyE (i : Nat) : PR → Option PR
  | .nx ρ => some (.nx (ρ.set i none))
  | .rt t ρ => some (.rt t ρ)
  | .bk ρ => some (.bk (ρ.set i none))
  | .ct ρ => some (.ct (ρ.set i none))
def pEx (k : Nat) : PL := fun ts => match ts with
  | [] => some (.nd .own (.ex k) [])
  | _ => none
def try3 (i : Nat) (s : PS) (ρ : PSt) : Nat → Option PR := fun k => (zSeq (zAsg (pCall (pEx k) aNilP) (gS i)) s ρ).bind (tyE i)
def try2 (i : Nat) (ok : Nat → Bool) (s : PS) : PR → Option PR
  | .bk ρ => ((getT ρ[i]?).bind (exK ok)).bind (try3 i s ρ)
  | .ct _ => none
  | r => some r
def zTry (i : Nat) (ok : Nat → Bool) (b s : PS) : PS := fun ρ => (b ρ).bind (try2 i ok s)
def pIsE (f : Nat → Option Bool) : P1 := fun t => match t with
  | .nd _ (.ex k) _ => (f k).map B
  | _ => none
section
variable {N F : Nat → Prop} {σ : St} {G : Hz} {ρ : PSt} {os : Nat → List Nat} {as : List Nat} {v : V} {e : E} {M M1 M2 Rb R1 R2 Rg : List Nat} {i : Nat} {m : ME} {p : PE}
theorem xE_none (k : TmE N F σ G os v as e) (h : xE e = some none) : exN v = none := by
  cases e with
  | al j => cases h
  | t t => cases t with
    | av w =>
      obtain ⟨rfl, _, _⟩ := Tm.rl k
      have h : xV v = none := Option.some.inj h
      unfold xV at h
      split at h
      · assumption
      · cases h
    | nd f kd xs =>
      obtain ⟨a, vs, bs, rfl, _⟩ := Tm.rl k
      rfl
theorem xE_some {w : V} (k : TmE N F σ G os v as e) (h : xE e = some (some w)) : v = w ∧ ¬ exN v = none ∧ as = [] ∧ isAt w = true ∧ e = .t (.av w) := by
  cases e with
  | al j => cases h
  | t t => cases t with
    | av u =>
      obtain ⟨rfl, h1, h2⟩ := Tm.rl k
      have h : xV v = some w := Option.some.inj h
      unfold xV at h
      split at h
      · cases h
      · cases h
        exact ⟨rfl, by assumption, h2, h1, rfl⟩
    | nd f kd xs => cases h
/-- the code goes into the slot -/
theorem code_set {ρ1 : PSt} {w x : V} {G1 : Hz} (h : EOk M m p) (iv : Inv N F σ G ρ os) (q1 : p ρ = some (.t (.av w), ρ1)) (e1 : m σ G = some (x, G1)) : ∃ os2, SRes [i] ([i] ++ M) N F σ G ρ os (σ.set i (some x)) G1 (ρ1.set i (some (.av w))) os2 := by
  have q3 : zAsg p (gS i) ρ = some (.nx (ρ1.set i (some (.av w)))) := by
    show (p ρ).bind _ = _
    rw [q1]
    rfl
  obtain ⟨r', e2, σ2, G2, os2, rfl, s⟩ := so_asg h (go_set (i := i)) N F σ G ρ os _ iv q3
  have e3 : sAsg m (gSet i) σ G = some (.nx (σ.set i (some x)) G1) := by
    show (m σ G).bind _ = _
    rw [e1]
    rfl
  rw [e3] at e2
  cases e2
  exact ⟨os2, s⟩
theorem Res.lenS {G1 : Hz} {ρ1 : PSt} {os1 : Nat → List Nat} (r : Res M N F σ G ρ os G1 ρ1 os1 as) : σ.length = ρ1.length := r.inv.ln
theorem so_retB (h : EOk M m p) : SOk [i] ([i] ++ M) (sRetB i m) (zRetB i p) := fun N F σ G ρ os r iv q => by
  obtain ⟨⟨e1, ρ1⟩, q1, q⟩ := bnd' q
  obtain ⟨o, q2, q⟩ := bnd' q
  obtain ⟨x, G1, os1, as1, e1', r1, k1⟩ := h N F σ G ρ os e1 _ iv q1
  cases o with
  | none =>
    have q3 : zRet p ρ = some r := by
      show (p ρ).bind _ = _
      rw [q1]
      exact q
    obtain ⟨r', e2, s⟩ := so_ret h N F σ G ρ os r iv q3
    refine ⟨r', ?_, s.weak (fun _ z => nomatch z) fun _ => memR⟩
    have e3 : sRet m σ G = some (.rt x G1) := by
      show (m σ G).bind _ = _
      rw [e1']
      rfl
    show (m σ G).bind _ = _
    rw [e1', ← e2, e3]
    exact if_pos (xE_none k1 q2)
  | some w =>
    unfold rb2 at q
    dsimp only at q
    split at q
    · rename_i hl
      cases q
      obtain ⟨rfl, h2, rfl, h4, rfl⟩ := xE_some k1 q2
      obtain ⟨os2, s⟩ := code_set (i := i) h iv q1 e1'
      refine ⟨.bk (σ.set i (some x)) G1, ?_, _, _, os2, rfl, s⟩
      show (m σ G).bind _ = _
      rw [e1']
      show (if exN x = none then _ else if i < σ.length then _ else _) = _
      rw [if_neg h2, if_pos (by rw [r1.lenS]; exact hl)]
    · cases q
theorem SRes.setN (h : Inv N F σ G ρ os) : SRes [i] [i] N F σ G ρ os (σ.set i none) G (ρ.set i none) (up os i []) where
  chg := ⟨Nat.le_refl _, fun _ _ _ => rfl, fun j a ha => by
      unfold up at ha
      split at ha
      · cases ha
      · exact .inl ⟨j, ha⟩, fun j hj => by
      have hj : i ≠ j := fun z => hj (by rw [z]; exact List.mem_singleton_self _)
      exact ⟨by rw [getT_set, if_neg hj], up_ne hj, fun _ _ => rfl⟩⟩
  inv := by
    have D := h.drop i
    refine ⟨fun j t e => ?_, D.em, D.nd, D.dj, D.fr, by rw [List.length_set]; exact D.ln, D.bn, D.bf⟩
    have hj : i ≠ j := fun z => by
      rw [← z, getT_set, if_pos rfl] at e
      split at e <;> cases e
    rw [List.getElem?_set_ne hj]
    exact D.sl j t e
  reb := fun j hj => List.getElem?_set_ne fun z => hj (by rw [z]; exact List.mem_singleton_self _)
theorem op_ex (k : Nat) : OpL (fEx k) (pEx k) := fun A F G vs ts t r q => by
  unfold pEx at q
  split at q
  · cases q
    rw [show vs = [] from r]
    exact ⟨.ref G.length, G ++ [.xt (.ex k)], rfl, .inr ⟨.ex k, [], [], rfl, rfl, rfl, rfl, ⟨rfl, rfl⟩⟩⟩
  · cases q
theorem so_try {ok : Nat → Bool} {b s : MS} {pb ps : PS} (hb : SOk R1 M1 b pb) (hs : SOk R2 M2 s ps) : SOk (R1 ++ (([i] ++ R2) ++ [i])) (M1 ++ ((([i] ++ []) ++ M2) ++ [i])) (sTry i ok b s) (zTry i ok pb ps) := fun N F σ G ρ os r iv q => by
  obtain ⟨r1, q1, q⟩ := bnd' q
  obtain ⟨r', e, s1⟩ := hb N F σ G ρ os r1 iv q1
  have go : ∀ f, sTry i ok b s σ G = f → sTry i ok b s σ G = f := fun _ h => h
  cases r1 with
  | nx ρ1 =>
    cases q
    have s' := s1
    obtain ⟨σ1, G1, os1, rfl, _⟩ := s1
    exact ⟨_, by show (b σ G).bind _ = _; rw [e]; rfl, s'.weak (fun _ => memL) fun _ => memL⟩
  | rt t ρ1 =>
    cases q
    have s' := s1
    obtain ⟨v, σ1, G1, os1, as, rfl, _⟩ := s1
    exact ⟨_, by show (b σ G).bind _ = _; rw [e]; rfl, SPost.weak (r := .rt t ρ1) s' (fun _ => memL) fun _ => memL⟩
  | ct ρ1 => cases q
  | bk ρ1 =>
    obtain ⟨σ1, G1, os1, rfl, s1⟩ := s1
    obtain ⟨k, q2, q⟩ := bnd' q
    obtain ⟨t, q3, q2⟩ := bnd' q2
    obtain ⟨r2, q4, q⟩ := bnd' q
    cases t with
    | nd f kd xs => cases q2
    | av w =>
      unfold exK at q2
      dsimp only at q2
      split at q2
      · rename_i k' hk
        split at q2
        · rename_i hok
          cases q2
          obtain ⟨v, ev, rl⟩ := s1.inv.sl i _ q3
          obtain ⟨rfl, _, _⟩ := rl
          obtain ⟨r2', e2, s2⟩ := so_seq (so_asg (eo_call (op_ex k) ao_nil) (go_set (i := i))) hs N F σ1 G1 ρ1 os1 r2 s1.inv q4
          have ez : sTry i ok b s σ G = sTryE i r2' := by
            show (b σ G).bind _ = _
            rw [e]
            show (match σ1[i]? with | some (some v) => (match exN v with | some k => if ok k = true then (sSeq (sAsg (eCall (fEx k) aNil) (gSet i)) s σ1 G1).bind (sTryE i) else none | none => none) | _ => none) = _
            rw [ev]
            show (match exN v with | some k => if ok k = true then (sSeq (sAsg (eCall (fEx k) aNil) (gSet i)) s σ1 G1).bind (sTryE i) else none | none => none) = _
            rw [hk]
            show (if ok k = true then (sSeq (sAsg (eCall (fEx k) aNil) (gSet i)) s σ1 G1).bind (sTryE i) else none) = _
            rw [if_pos hok, e2]
            rfl
          cases r2 with
          | nx ρ2 =>
            cases q
            obtain ⟨σ2, G2, os2, rfl, s3⟩ := s2
            exact ⟨_, ez, _, _, _, rfl, s1.trans iv (s3.trans s1.inv (SRes.setN s3.inv))⟩
          | bk ρ2 =>
            cases q
            obtain ⟨σ2, G2, os2, rfl, s3⟩ := s2
            exact ⟨_, ez, _, _, _, rfl, s1.trans iv (s3.trans s1.inv (SRes.setN s3.inv))⟩
          | ct ρ2 =>
            cases q
            obtain ⟨σ2, G2, os2, rfl, s3⟩ := s2
            exact ⟨_, ez, _, _, _, rfl, s1.trans iv (s3.trans s1.inv (SRes.setN s3.inv))⟩
          | rt t2 ρ2 =>
            cases q
            have s3 := s2
            obtain ⟨v2, σ2, G2, os2, as2, rfl, _⟩ := s2
            exact ⟨_, ez, SPost.pre (r := .rt t2 ρ2) iv s1 (SPost.weak (r := .rt t2 ρ2) s3 (fun _ => memL) fun _ => memL)⟩
        · cases q2
      · cases q2
theorem op_isE {f : Nat → Option Bool} : Op1 (fIsE f) (pIsE f) := fun A F G x t1 as t r1 q => by
  unfold pIsE at q
  split at q
  · rename_i fl k xs
    cases e : f k with
    | none => rw [e] at q; cases q
    | some b =>
      rw [e] at q
      cases q
      obtain ⟨a, vs, bs, rfl, e1, _⟩ := r1
      refine ⟨.bl b, G, ?_, nv_old ⟨rfl, rfl, rfl⟩⟩
      unfold fIsE
      dsimp only
      rw [show G[a]? = some (.xt (.ex k)) from e1]
      dsimp only
      rw [e]
      rfl
  · cases q
end
def pNever : PE := fun _ => none
/-! simp lemmas -/
@[simp] theorem pNever_ev (ρ : PSt) : pNever ρ = none := nr rfl
@[simp] theorem zRaise_ev (k : Nat) (ρ : PSt) : zRaise k ρ = some (.rt (Ex k) ρ) := nr rfl
@[simp] theorem zCallX_ev (a : PE) (ρ : PSt) : zCallX a ρ = (a ρ).bind cx1 := nr rfl
@[simp] theorem cx1_ev (e : E) (ρ : PSt) : cx1 (e, ρ) = (xE e).bind (cx2 ρ) := nr rfl
@[simp] theorem cx2_n (ρ : PSt) : cx2 ρ none = some (.nx ρ) := nr rfl
@[simp] theorem cx2_s (k : Nat) (ρ : PSt) : cx2 ρ (some (exV k)) = some (.rt (Ex k) ρ) := nr rfl
@[simp] theorem xE_nd (f : Fl) (k : Kd) (xs : List Tr) : xE (.t (.nd f k xs)) = some none := nr rfl
@[simp] theorem xE_I (i : Int) : xE (.t (I i)) = some none := nr rfl
@[simp] theorem xE_B (b : Bool) : xE (.t (B b)) = some none := nr rfl
@[simp] theorem xE_S (s : Str) : xE (.t (S s)) = some none := nr rfl
@[simp] theorem xE_N : xE (.t NN) = some none := nr rfl
@[simp] theorem xE_Ex (k : Nat) : xE (.t (Ex k)) = some (some (exV k)) := by
  show some (xV (exV k)) = _
  unfold xV
  rw [exN_exV]
  rfl
@[simp] theorem zAsgX_ev (a : PE) (g : PG) (ρ : PSt) : zAsgX a g ρ = (a ρ).bind (ax1 g) := nr rfl
@[simp] theorem ax1_ev (g : PG) (e : E) (ρ : PSt) : ax1 g (e, ρ) = (xE e).bind (ax2 g (e, ρ)) := nr rfl
@[simp] theorem ax2_n (g : PG) (p : E × PSt) : ax2 g p none = zAsg0 g p := nr rfl
@[simp] theorem ax2_s (g : PG) (e : E) (ρ : PSt) (k : Nat) : ax2 g (e, ρ) (some (exV k)) = some (.rt (Ex k) ρ) := nr rfl
@[simp] theorem xT_nd (f : Fl) (k : Kd) (xs : List Tr) : xT (.nd f k xs) = true := nr rfl
@[simp] theorem xT_I (i : Int) : xT (I i) = true := nr rfl
@[simp] theorem xT_B (b : Bool) : xT (B b) = true := nr rfl
@[simp] theorem xT_S (s : Str) : xT (S s) = true := nr rfl
@[simp] theorem xT_N : xT NN = true := nr rfl
@[simp] theorem zChk_ev (b : PS) (ρ : PSt) : zChk b ρ = (b ρ).bind ck1 := nr rfl
@[simp] theorem ck1_nx (ρ : PSt) : ck1 (.nx ρ) = some (.nx ρ) := nr rfl
@[simp] theorem ck1_ct (ρ : PSt) : ck1 (.ct ρ) = some (.ct ρ) := nr rfl
@[simp] theorem ck1_bk (ρ : PSt) : ck1 (.bk ρ) = some (.bk ρ) := nr rfl
@[simp] theorem ck1_rt (t : Tr) (ρ : PSt) : ck1 (.rt t ρ) = if xT t = true then some (.rt t ρ) else none := nr rfl
@[simp] theorem zCallB_ev (i : Nat) (a : PE) (ρ : PSt) : zCallB i a ρ = (a ρ).bind (cb1 i) := nr rfl
@[simp] theorem cb1_ev (i : Nat) (e : E) (ρ : PSt) : cb1 i (e, ρ) = (xE e).bind (cb2 i ρ) := nr rfl
@[simp] theorem cb2_n (i : Nat) (ρ : PSt) : cb2 i ρ none = some (.nx ρ) := nr rfl
@[simp] theorem cb2_s (i : Nat) (ρ : PSt) (k : Nat) : cb2 i ρ (some (exV k)) = if i < ρ.length then some (.bk (ρ.set i (some (Ex k)))) else none := nr rfl
@[simp] theorem zRetB_ev (i : Nat) (a : PE) (ρ : PSt) : zRetB i a ρ = (a ρ).bind (rb1 i) := nr rfl
@[simp] theorem rb1_ev (i : Nat) (e : E) (ρ : PSt) : rb1 i (e, ρ) = (xE e).bind (rb2 i (e, ρ)) := nr rfl
@[simp] theorem rb2_n (i : Nat) (p : E × PSt) : rb2 i p none = zRet1 p := nr rfl
@[simp] theorem rb2_s (i : Nat) (e : E) (ρ : PSt) (k : Nat) : rb2 i (e, ρ) (some (exV k)) = if i < ρ.length then some (.bk (ρ.set i (some (Ex k)))) else none := nr rfl
@[simp] theorem zNoB_ev (b : PS) (ρ : PSt) : zNoB b ρ = (b ρ).bind nb1 := nr rfl
@[simp] theorem nb1_nx (ρ : PSt) : nb1 (.nx ρ) = some (.nx ρ) := nr rfl
@[simp] theorem nb1_ct (ρ : PSt) : nb1 (.ct ρ) = some (.ct ρ) := nr rfl
@[simp] theorem nb1_rt (t : Tr) (ρ : PSt) : nb1 (.rt t ρ) = some (.rt t ρ) := nr rfl
@[simp] theorem exK_Ex (ok : Nat → Bool) (k : Nat) : exK ok (Ex k) = if ok k = true then some k else none := by
  show (match exN (exV k) with | some k => if ok k = true then some k else none | none => none) = _
  rw [exN_exV]
@[simp] theorem tyE_nx (i : Nat) (ρ : PSt) : tyE i (.nx ρ) = some (.nx (ρ.set i none)) := nr rfl
@[simp] theorem tyE_ct (i : Nat) (ρ : PSt) : tyE i (.ct ρ) = some (.ct (ρ.set i none)) := nr rfl
@[simp] theorem tyE_bk (i : Nat) (ρ : PSt) : tyE i (.bk ρ) = some (.bk (ρ.set i none)) := nr rfl
@[simp] theorem tyE_rt (i : Nat) (t : Tr) (ρ : PSt) : tyE i (.rt t ρ) = some (.rt t ρ) := nr rfl
@[simp] theorem pEx_ev (k : Nat) : pEx k [] = some (.nd .own (.ex k) []) := nr rfl
@[simp] theorem try3_ev (i : Nat) (s : PS) (ρ : PSt) (k : Nat) : try3 i s ρ k = (zSeq (zAsg (pCall (pEx k) aNilP) (gS i)) s ρ).bind (tyE i) := nr rfl
@[simp] theorem try2_bk (i : Nat) (ok : Nat → Bool) (s : PS) (ρ : PSt) : try2 i ok s (.bk ρ) = ((getT ρ[i]?).bind (exK ok)).bind (try3 i s ρ) := nr rfl
@[simp] theorem try2_nx (i : Nat) (ok : Nat → Bool) (s : PS) (ρ : PSt) : try2 i ok s (.nx ρ) = some (.nx ρ) := nr rfl
@[simp] theorem try2_rt (i : Nat) (ok : Nat → Bool) (s : PS) (t : Tr) (ρ : PSt) : try2 i ok s (.rt t ρ) = some (.rt t ρ) := nr rfl
@[simp] theorem zTry_ev (i : Nat) (ok : Nat → Bool) (b s : PS) (ρ : PSt) : zTry i ok b s ρ = (b ρ).bind (try2 i ok s) := nr rfl
@[simp] theorem pIsE_ev (f : Nat → Option Bool) (fl : Fl) (k : Nat) (xs : List Tr) : pIsE f (.nd fl (.ex k) xs) = (f k).map B := nr rfl
@[simp] theorem nob_Ex (k : Nat) : (Ex k).nob = true := rfl
@[simp] theorem dem_Ex (k : Nat) : (Ex k).dem = Ex k := rfl
/-! ### the first place of a bool -/
def idxRB (k : Bool) (bs : List Bool) : Option Tr := if k ∈ bs then some (.av (.int ((bs.idxOf k : Nat) : Int))) else none
def pIdxB : Tr → PL := fun o ts => match o, ts with
  | .nd _ .lst xs, [.av (.bl k)] => (blsT xs).bind (idxRB k)
  | _, _ => none
@[simp] theorem pIdxB_L (f : Fl) (xs : List Tr) (k : Bool) : pIdxB (.nd f .lst xs) [B k] = (blsT xs).bind (idxRB k) := nr rfl
@[simp] theorem idxRB_ev (k : Bool) (bs : List Bool) : idxRB k bs = if k ∈ bs then some (I ((bs.idxOf k : Nat) : Int)) else none := nr rfl
end Pl

/-! Pl: list displays with a starred part (its items are atoms). -/
namespace Pl
open PySem L2 Zl
def stE (vs : List V) (q : List E × PSt) : Option (List E × PSt) := some (vs.map (fun v => E.t (.av v)) ++ q.1, q.2)
def lavs : Tr → Option (List V)
  | .nd _ .lst xs => avs xs
  | _ => none
def aSt2 (r : PA) (ρ : PSt) : List V → Option (List E × PSt) := fun vs => (r ρ).bind (stE vs)
def aSt1 (r : PA) : E × PSt → Option (List E × PSt) := fun p => ((dr p.2 p.1).bind lavs).bind (aSt2 r p.2)
def aStarP (p : PE) (r : PA) : PA := fun ρ => (p ρ).bind (aSt1 r)
section
variable {N F A : Nat → Prop} {σ : St} {G : Hz} {os : Nat → List Nat} {M1 M2 : List Nat}
end
@[simp] theorem lavs_L (f : Fl) (xs : List Tr) : lavs (.nd f .lst xs) = avs xs := nr rfl
@[simp] theorem aStarP_ev (p : PE) (r : PA) (ρ : PSt) : aStarP p r ρ = (p ρ).bind (aSt1 r) := nr rfl
@[simp] theorem aSt1_ev (r : PA) (e : E) (ρ : PSt) : aSt1 r (e, ρ) = ((dr ρ e).bind lavs).bind (aSt2 r ρ) := nr rfl
@[simp] theorem aSt2_ev (r : PA) (ρ : PSt) (vs : List V) : aSt2 r ρ vs = (r ρ).bind (stE vs) := nr rfl
@[simp] theorem stE_ev (vs : List V) (es : List E) (ρ : PSt) : stE vs (es, ρ) = some (vs.map (fun v => E.t (.av v)) ++ es, ρ) := nr rfl
end Pl

/-! Pl: zip where the first list is not the longer one (a hot comprehension); calls whose first argument is the error that is handled. -/
namespace Pl
open PySem L2 Zl
def wZq3 (ρ : PSt) (xs : List Tr) : List Tr → Option (List Tr × PSt) := fun ys => if xs.length ≤ ys.length then some (zpT xs ys, ρ) else none
def wZq2 (e2 : E) (ρ : PSt) : List Tr → Option (List Tr × PSt) := fun xs => ((dr ρ e2).bind lsT).bind (wZq3 ρ xs)
def wZq1 (e1 : E) : E × PSt → Option (List Tr × PSt) := fun p => ((dr p.2 e1).bind lsT).bind (wZq2 p.1 p.2)
def wZq0 (b : PE) : E × PSt → Option (List Tr × PSt) := fun p => (b p.2).bind (wZq1 p.1)
def wZq (a b : PE) : PI := fun ρ => (a ρ).bind (wZq0 b)
/-- the first argument is an error -/
def pHot (g : PF) : PF := fun ts => match ts with
  | .nd _ (.ex _) _ :: _ => g ts
  | _ => none
section
variable {N F A : Nat → Prop} {σ : St} {G : Hz} {os : Nat → List Nat} {M M1 M2 W1 W2 : List Nat}
end
@[simp] theorem wZq3_ev (ρ : PSt) (xs : List Tr) (ys : List Tr) : wZq3 ρ xs ys = if xs.length ≤ ys.length then some (zpT xs ys, ρ) else none := nr rfl
@[simp] theorem wZq2_ev (e2 : E) (ρ : PSt) (xs : List Tr) : wZq2 e2 ρ xs = ((dr ρ e2).bind lsT).bind (wZq3 ρ xs) := nr rfl
@[simp] theorem wZq1_ev (e1 : E) (x0 : E) (y0 : PSt) : wZq1 e1 (x0, y0) = ((dr y0 e1).bind lsT).bind (wZq2 x0 y0) := nr rfl
@[simp] theorem wZq0_ev (b : PE) (x0 : E) (y0 : PSt) : wZq0 b (x0, y0) = (b y0).bind (wZq1 x0) := nr rfl
@[simp] theorem wZq_ev (a b : PE) (ρ : PSt) : wZq a b ρ = (a ρ).bind (wZq0 b) := nr rfl
@[simp] theorem pHot_ev (g : PF) (f : Fl) (xs : List Tr) (n : Nat) (ts : List Tr) : pHot g (.nd f (.ex n) xs :: ts) = g (.nd f (.ex n) xs :: ts) := nr rfl
end Pl

/-! Pl: a variable's own thing is lent to a block (frozen while it runs), and is the variable's own again behind it. -/
namespace Pl
open PySem L2 Zl
def isOwn : Fl → Bool
  | .own => true
  | _ => false
mutual
def ownT : Tr → Bool
  | .av _ => true
  | .nd f _ ts => isOwn f && ownTs ts
def ownTs : List Tr → Bool
  | [] => true
  | t :: ts => ownT t && ownTs ts
end
def forget : List Nat → PSt → PSt
  | [], ρ => ρ
  | j :: js, ρ => (forget js ρ).set j none
def keepOk (ρ : PSt) (j : Nat) : Bool := match getT ρ[j]? with
  | some t => ownT t
  | none => true
def unl (i : Nat) (fg kp : List Nat) (t : Tr) : PR → Option PR
  | .nx ρ' => if kp.all (keepOk ρ') = true then some (.nx ((forget fg ρ').set i (some t))) else none
  | .rt (.av w) ρ' => if kp.all (keepOk ρ') = true then some (.rt (.av w) ((forget fg ρ').set i (some t))) else none
  | _ => none
def lnd1 (i : Nat) (fg kp : List Nat) (p : PS) (ρ : PSt) (t : Tr) : Option PR := if ownT t = true then (p (ρ.set i (some t.dem))).bind (unl i fg kp t) else none
/-- slot i is lent to p; behind it the slots fg are forgotten, kp hold own things alone -/
def zLend (i : Nat) (fg kp : List Nat) (p : PS) : PS := fun ρ => (getT ρ[i]?).bind (lnd1 i fg kp p ρ)
section
variable {A A' F F' : Nat → Prop} {G G' : Hz}
end
section
variable {N F : Nat → Prop} {σ σ' : St} {G G' : Hz} {ρ ρ' : PSt} {os os' : Nat → List Nat} {Rb M fg kp : List Nat} {i : Nat} {t : Tr}
end
section
variable {Rb M fg kp : List Nat} {i : Nat}
end
@[simp] theorem zLend_ev (i : Nat) (fg kp : List Nat) (p : PS) (ρ : PSt) : zLend i fg kp p ρ = (getT ρ[i]?).bind (lnd1 i fg kp p ρ) := nr rfl
@[simp] theorem forget_nil (ρ : PSt) : forget [] ρ = ρ := nr rfl
@[simp] theorem forget_cons (j : Nat) (js : List Nat) (ρ : PSt) : forget (j :: js) ρ = (forget js ρ).set j none := nr rfl
end Pl

/-! Pl: errors with a field. -/
namespace Pl
open PySem L2 Zl
def atP : Tr → Option Nat
  | .av v => payC v
  | _ => none
def exT (k q : Nat) : Tr := Ex (exC k q)
def pPay (k : Nat) : P1 := fun t => (atP t).map (exT k)
def zRaiseP (k : Nat) (a : PE) : PS := zRet (pUn (pPay k) a)
def rwV (n : Str) (p : Str × V) : Option Tr := if p.1 = n then some (.av p.2) else none
def pRow (rs : List Nat) (n : Str) : P1 := fun t => match t with
  | .nd _ (.ex c) _ => if c % 32 ∈ rs then (payF c).bind (rwV n) else none
  | _ => none
def gPay (k : Nat) : F1 := fun x G => (payC x).map fun q => (exV (exC k q), G)
theorem op_pay {k : Nat} : Op1 (gPay k) (pPay k) := fun A F G x t1 as t r1 q => by
  unfold pPay at q
  cases t1 with
  | nd f kd xs => cases q
  | av v =>
    obtain ⟨rfl, _, _⟩ := r1
    have q : (payC x).map (exT k) = some t := q
    cases e : payC x with
    | none => rw [e] at q; cases q
    | some c =>
      rw [e] at q
      cases q
      refine ⟨exV (exC k c), G, ?_, nv_old ⟨rfl, rfl, rfl⟩⟩
      unfold gPay
      rw [e]
      rfl
theorem op_row {rs : List Nat} {n : Str} : Op1 (fRow rs n) (pRow rs n) := fun A F G x t1 as t r1 q => by
  unfold pRow at q
  split at q
  · rename_i fl c xs
    split at q
    · rename_i hc
      obtain ⟨p, q2, q⟩ := bnd' q
      unfold rwV at q
      split at q
      · rename_i hn
        cases q
        obtain ⟨a, vs, bs, rfl, e1, _⟩ := r1
        have hat : isAt p.2 = true := by
          unfold payF at q2
          split at q2
          · cases q2
            cases hz : zag (c / 32) with
            | ref a => exact (zag_atom _ a hz).elim
            | _ => rfl
          · cases q2
        refine ⟨p.2, G, ?_, nv_old ⟨rfl, hat, rfl⟩⟩
        unfold fRow
        dsimp only
        rw [show G[a]? = some (.xt (.ex c)) from e1]
        dsimp only
        rw [if_pos hc, q2]
        dsimp only
        rw [if_pos hn]
      · cases q
    · cases q
  · cases q
@[simp] theorem zRaiseP_ev (k : Nat) (a : PE) (ρ : PSt) : zRaiseP k a ρ = zRet (pUn (pPay k) a) ρ := nr rfl
@[simp] theorem pPay_ev (k : Nat) (t : Tr) : pPay k t = (atP t).map (exT k) := nr rfl
@[simp] theorem exT_ev (k q : Nat) : exT k q = Ex (exC k q) := nr rfl
@[simp] theorem atP_I (i : Int) : atP (I i) = some (zig i) := nr rfl
@[simp] theorem atP_N : atP NN = some 0 := nr rfl
theorem pRow_ev (rs : List Nat) (n : Str) (fl : Fl) (c : Nat) (xs : List Tr) : pRow rs n (.nd fl (.ex c) xs) = if c % 32 ∈ rs then (payF c).bind (rwV n) else none := nr rfl
/-! x *= e, divmod -/
@[simp] theorem A2_umult (i j : Int) : A2 uMult (I i) (I j) = if smallN i = true ∧ smallN j = true then some (I (i * j)) else none := by
  show (uMult (.int i) (.int j) []).bind _ = _
  unfold uMult
  dsimp only
  split <;> rfl
def pDivmod : PL := fun ts => match ts with
  | [.av (.int i), .av (.int j)] => if 0 < j ∧ j < 1000000000 then some (U .own [I (i / j), I (i % j)]) else none
  | _ => none
@[simp] theorem pDivmod_I (i j : Int) : pDivmod [I i, I j] = if 0 < j ∧ j < 1000000000 then some (.nd .own .tup [I (i / j), I (i % j)]) else none := nr rfl
end Pl

/-! Pl: x in xs, xs.index(x), xs a list, data of any depth. -/
namespace Pl
open PySem L2 Zl
def idxDD (d : PyData) : PyData → Option Tr
  | .list ds => if SeqAt.shaped d = true ∧ SeqAt.shaped (.list ds) = true ∧ (ds.any fun z => PyData.eqv z d) = true then some (.av (.int ((ds.findIdx fun z => PyData.eqv z d : Nat) : Int))) else none
  | _ => none
def pIdxD1 (o : Tr) (d : PyData) : Option Tr := (rdT dep o).bind (idxDD d)
def pIdxD : Tr → PL := fun o ts => match o, ts with
  | .nd _ .lst _, [t] => (rdT dep t).bind (pIdxD1 o)
  | _, _ => none
@[simp] theorem pIdxD_L (f : Fl) (xs : List Tr) (t : Tr) : pIdxD (.nd f .lst xs) [t] = (rdT dep t).bind (pIdxD1 (.nd f .lst xs)) := nr rfl
end Pl

/-! Pl: walks over dicts: for x, y in d.items(), for x in d; d a variable's own dict, or an own item of its list. -/
namespace Pl
open PySem L2 Zl
def isAv : Tr → Bool
  | .av _ => true
  | _ => false
def itemsT (ks : List Key) (vs : List Tr) : List Tr := (ks.zip vs).map fun p => U .own [.av (kV p.1), p.2]
def zfi2 (j : Nat) (t : Tr) : PR → Option PR
  | .nx ρ' => if (getT ρ'[j]?).isNone = true then some (.nx (ρ'.set j (some t))) else none
  | _ => none
def itemsP : Kd → List Tr → Option (List Tr)
  | .dct ks, vs => if vs.all isAv = true then some (itemsT ks vs) else none
  | _, _ => none
def keysT (kvs : List (List Int × Int)) : List Tr := kvs.map fun p => U .own (p.1.map I)
def keysK (ks : List Key) : List Tr := ks.map fun k => .av (kV k)
def keysP : Kd → List Tr → Option (List Tr)
  | .dct ks, vs => if vs.all isAv = true then some (keysK ks) else none
  | .dt kvs, _ => some (keysT kvs)
  | _, _ => none
/-- where the walked dict stands: m finds its place, an own one of slot j; pw sees it -/
abbrev WkP := Tr → PSt → Option (Kd × List Tr)
def pwV : WkP := fun t _ => match t with
  | .nd .own kd xs => some (kd, xs)
  | _ => none
def zwk3 (n j : Nat) (g : PG) (b : PS) (ρ : PSt) (t : Tr) (ys : List Tr) : Option PR := if ys.length < n then (lpF g b ys (ρ.set j none)).bind (zfi2 j t) else none
def zwk2 (kp : Kd → List Tr → Option (List Tr)) (n j : Nat) (g : PG) (b : PS) (ρ : PSt) (t : Tr) (p : Kd × List Tr) : Option PR := (kp p.1 p.2).bind (zwk3 n j g b ρ t)
def zwk1 (kp : Kd → List Tr → Option (List Tr)) (n j : Nat) (pw : WkP) (g : PG) (b : PS) (ρ : PSt) (t : Tr) : Option PR := (pw t ρ).bind (zwk2 kp n j g b ρ t)
def zWalk (kp : Kd → List Tr → Option (List Tr)) (n j : Nat) (pw : WkP) (g : PG) (b : PS) : PS := fun ρ => (getT ρ[j]?).bind (zwk1 kp n j pw g b ρ)
section
variable {N N' F : Nat → Prop} {σ : St} {G G1 : Hz} {ρ : PSt} {os : Nat → List Nat} {a : Nat}
end
/-- for x, y in d.items() -/
def zForI (n j : Nat) (g : PG) (b : PS) : PS := zWalk itemsP n j pwV g b
def zfi1 (n j : Nat) (g : PG) (b : PS) (ρ : PSt) : Tr → Option PR
  | .nd .own (.dct ks) vs => if vs.all isAv = true ∧ (itemsT ks vs).length < n then (lpF g b (itemsT ks vs) (ρ.set j none)).bind (zfi2 j (.nd .own (.dct ks) vs)) else none
  | _ => none
@[simp] theorem zForI_ev (n j : Nat) (g : PG) (b : PS) (ρ : PSt) : zForI n j g b ρ = (getT ρ[j]?).bind (zfi1 n j g b ρ) := by
  show (getT ρ[j]?).bind _ = _
  refine congrArg _ ?_
  funext t
  cases t with
  | av w => rfl
  | nd f kd xs =>
    cases f with
    | own =>
      cases kd with
      | dct ks =>
        show (if xs.all isAv = true then some (itemsT ks xs) else none).bind (zwk3 n j g b ρ _) = if xs.all isAv = true ∧ (itemsT ks xs).length < n then _ else none
        by_cases h : xs.all isAv = true
        · rw [if_pos h]
          show zwk3 n j g b ρ _ _ = _
          unfold zwk3
          by_cases h2 : (itemsT ks xs).length < n
          · rw [if_pos h2, if_pos ⟨h, h2⟩]
          · rw [if_neg h2, if_neg fun z => h2 z.2]
        · rw [if_neg h, if_neg fun z => h z.1]
          rfl
      | _ => rfl
    | _ => rfl
end Pl

/-! Pl: dicts of ints by tuples of ints. -/
namespace Pl
open PySem L2 Zl
def keyA : List Tr → Option (List Int)
  | [] => some []
  | .av (.int i) :: ts => (keyA ts).map (i :: ·)
  | _ => none
def tkT : Tr → Option (List Int)
  | .nd _ .tup ts => keyA ts
  | _ => none
def pDt0 : PE := fun ρ => some (.t (.nd .own (.dt []) []), ρ)
@[simp] theorem pDt0_ev (ρ : PSt) : pDt0 ρ = some (.t (.nd .own (.dt []) []), ρ) := nr rfl
def dtV (v : Int) : Tr := I v
def dtG (kvs : List (List Int × Int)) (k : List Int) : Option Tr := (valI kvs k).map dtV
def pDT : P2 := fun t1 t2 => match t1 with
  | .nd _ (.dt kvs) _ => (tkT t2).bind (dtG kvs)
  | _ => none
def dtP (kvs : List (List Int × Int)) (w : Int) (k : List Int) : Option Tr := if kvs.length < sizeLine then some (.nd .own (.dt (putI kvs k w)) []) else none
def sPutDt : PP := fun t i v => match t, v with
  | .nd .own (.dt kvs) [], .av (.int w) => (tkT i).bind (dtP kvs w)
  | _, _ => none
@[simp] theorem pDT_ev (f : Fl) (kvs : List (List Int × Int)) (xs ts : List Tr) (g : Fl) : pDT (.nd f (.dt kvs) xs) (.nd g .tup ts) = (keyA ts).bind (dtG kvs) := nr rfl
@[simp] theorem keyA_nil : keyA [] = some [] := nr rfl
@[simp] theorem keyA_cons (i : Int) (ts : List Tr) : keyA (I i :: ts) = (keyA ts).map (i :: ·) := nr rfl
@[simp] theorem dtG_ev (kvs : List (List Int × Int)) (k : List Int) : dtG kvs k = (valI kvs k).map dtV := nr rfl
@[simp] theorem dtV_ev (v : Int) : dtV v = I v := nr rfl
@[simp] theorem sPutDt_ev (kvs : List (List Int × Int)) (ts : List Tr) (g : Fl) (w : Int) : sPutDt (.nd .own (.dt kvs) []) (.nd g .tup ts) (I w) = (keyA ts).bind (dtP kvs w) := nr rfl
@[simp] theorem dtP_ev (kvs : List (List Int × Int)) (w : Int) (k : List Int) : dtP kvs w k = if kvs.length < sizeLine then some (.nd .own (.dt (putI kvs k w)) []) else none := nr rfl
end Pl

/-! Pl: min of a list of pairs. -/
namespace Pl
open PySem L2 Zl
def prTm : Tr → Option (Int × Int)
  | .nd _ .tup [.av (.int i), .av (.int j)] => some (i, j)
  | _ => none
def minPrT (xs : List Tr) : List (Int × Int) → Option Tr
  | [] => none
  | p :: ps => if (p :: ps).Nodup then (xs[(p :: ps).idxOf (minP p ps)]?).bind shT else none
def pMinPr : PL := fun ts => match ts with
  | [.nd _ .lst xs] => (mapO prTm xs).bind (minPrT xs)
  | _ => none
@[simp] theorem pMinPr_L (f : Fl) (xs : List Tr) : pMinPr [.nd f .lst xs] = (mapO prTm xs).bind (minPrT xs) := nr rfl
end Pl

/-! Pl: walks over a dict's keys; dicts by tuples: in, setdefault, {t: i}, get; an own item looked at. -/
namespace Pl
open PySem L2 Zl
/-! ### for x in d, d a variable's own dict or an own item of its list -/
def zForK (n j : Nat) (pw : WkP) (g : PG) (b : PS) : PS := zWalk keysP n j pw g b
def ownKd : Tr → Option (Kd × List Tr)
  | .nd .own kd xs => some (kd, xs)
  | _ => none
def pwI2 (ys : List Tr) : Int → Option (Kd × List Tr) := fun i => (atI ys i).bind ownKd
def pwI (pj : PSt → Option Int) : WkP := fun t ρ => match t with
  | .nd .own .lst ys => (pj ρ).bind (pwI2 ys)
  | _ => none
/-! ### .. d a new thing -/
def ownE : E → Option (Kd × List Tr)
  | .t t => ownKd t
  | _ => none
def wKT2 (ρ : PSt) : List Tr → Option (List Tr × PSt) := fun xs => some (xs, ρ)
def wKT1 : E × PSt → Option (List Tr × PSt) := fun p => ((ownE p.1).bind fun q => keysP q.1 q.2).bind (wKT2 p.2)
def wKT (p : PE) : PI := fun ρ => (p ρ).bind wKT1
/-! ### in -/
def inDt2 (neg : Bool) (kvs : List (List Int × Int)) (k : List Int) : Option Tr := some (B (if neg = true then !(valI kvs k).isSome else (valI kvs k).isSome))
def pInDt (neg : Bool) : P2 := fun t1 t2 => match t2 with
  | .nd _ (.dt kvs) _ => (tkT t1).bind (inDt2 neg kvs)
  | _ => none
/-! ### an own item on the right, alone, as a call's argument -/
def itT (pj : PSt → Option Int) (ρ : PSt) : Tr → Option Tr
  | .nd _ .lst ys => (pj ρ).bind (atI ys)
  | _ => none
def pCallI3 (g : PL) (ρ : PSt) : Tr → Option (E × PSt) := fun y => (g [y]).bind (retT ρ)
def pCallI2 (g : PL) (pj : PSt → Option Int) (ρ : PSt) : Tr → Option (E × PSt) := fun t => (itT pj ρ t).bind (pCallI3 g ρ)
/-- f(x[j]) -/
def pCallIx (g : PL) (i : Nat) (pj : PSt → Option Int) : PE := fun ρ => (getT ρ[i]?).bind (pCallI2 g pj ρ)
/-! ### setdefault -/
def isDtT : Tr → Bool
  | .nd _ (.dt _) _ => true
  | _ => false
def setD3 (kvs : List (List Int × Int)) (w : Int) (k : List Int) : Option (Tr × Tr) := if kvs.length < sizeLine then some (I ((valI kvs k).getD w), .nd .own (.dt (if (valI kvs k).isSome = true then kvs else putI kvs k w)) []) else none
def uSetD : PM := fun t ts => match t, ts with
  | .nd .own (.dt kvs) [], [t1, .av (.int w)] => (tkT t1).bind (setD3 kvs w)
  | _, _ => none
/-! ### {t: i} -/
/-- the key a tuple of constants -/
def pDisp1T (k : List Int) (w : Int) : PE := fun ρ => some (.t (.nd .own (.dt [(k, w)]) []), ρ)
@[simp] theorem pDisp1T_ev (k : List Int) (w : Int) (ρ : PSt) : pDisp1T k w ρ = some (.t (.nd .own (.dt [(k, w)]) []), ρ) := nr rfl
@[simp] theorem zForK_ev (n j : Nat) (pw : WkP) (g : PG) (b : PS) (ρ : PSt) : zForK n j pw g b ρ = (getT ρ[j]?).bind (zwk1 keysP n j pw g b ρ) := nr rfl
@[simp] theorem zwk1_ev (kp : Kd → List Tr → Option (List Tr)) (n j : Nat) (pw : WkP) (g : PG) (b : PS) (ρ : PSt) (t : Tr) : zwk1 kp n j pw g b ρ t = (pw t ρ).bind (zwk2 kp n j g b ρ t) := nr rfl
@[simp] theorem zwk2_ev (kp : Kd → List Tr → Option (List Tr)) (n j : Nat) (g : PG) (b : PS) (ρ : PSt) (t : Tr) (kd : Kd) (xs : List Tr) : zwk2 kp n j g b ρ t (kd, xs) = (kp kd xs).bind (zwk3 n j g b ρ t) := nr rfl
@[simp] theorem zwk3_ev (n j : Nat) (g : PG) (b : PS) (ρ : PSt) (t : Tr) (ys : List Tr) : zwk3 n j g b ρ t ys = if ys.length < n then (lpF g b ys (ρ.set j none)).bind (zfi2 j t) else none := nr rfl
@[simp] theorem pwV_ev (kd : Kd) (xs : List Tr) (ρ : PSt) : pwV (.nd .own kd xs) ρ = some (kd, xs) := nr rfl
@[simp] theorem pwI_ev (pj : PSt → Option Int) (ys : List Tr) (ρ : PSt) : pwI pj (.nd .own .lst ys) ρ = (pj ρ).bind (pwI2 ys) := nr rfl
@[simp] theorem pwI2_ev (ys : List Tr) (i : Int) : pwI2 ys i = (atI ys i).bind ownKd := nr rfl
@[simp] theorem ownKd_ev (kd : Kd) (xs : List Tr) : ownKd (.nd .own kd xs) = some (kd, xs) := nr rfl
@[simp] theorem keysP_dt (kvs : List (List Int × Int)) (xs : List Tr) : keysP (.dt kvs) xs = some (keysT kvs) := nr rfl
@[simp] theorem wKT_ev (p : PE) (ρ : PSt) : wKT p ρ = (p ρ).bind wKT1 := nr rfl
@[simp] theorem wKT1_ev (t : Tr) (ρ : PSt) : wKT1 (.t t, ρ) = ((ownKd t).bind fun q => keysP q.1 q.2).bind (wKT2 ρ) := nr rfl
@[simp] theorem wKT2_ev (ρ : PSt) (xs : List Tr) : wKT2 ρ xs = some (xs, ρ) := nr rfl
@[simp] theorem pInDt_ev (neg : Bool) (f g : Fl) (kvs : List (List Int × Int)) (xs ts : List Tr) : pInDt neg (.nd g .tup ts) (.nd f (.dt kvs) xs) = (keyA ts).bind (inDt2 neg kvs) := nr rfl
@[simp] theorem inDt2_ev (neg : Bool) (kvs : List (List Int × Int)) (k : List Int) : inDt2 neg kvs k = some (B (if neg = true then !(valI kvs k).isSome else (valI kvs k).isSome)) := nr rfl
@[simp] theorem itT_ev (pj : PSt → Option Int) (ρ : PSt) (f : Fl) (ys : List Tr) : itT pj ρ (.nd f .lst ys) = (pj ρ).bind (atI ys) := nr rfl
@[simp] theorem pCallIx_ev (g : PL) (i : Nat) (pj : PSt → Option Int) (ρ : PSt) : pCallIx g i pj ρ = (getT ρ[i]?).bind (pCallI2 g pj ρ) := nr rfl
@[simp] theorem pCallI2_ev (g : PL) (pj : PSt → Option Int) (ρ : PSt) (t : Tr) : pCallI2 g pj ρ t = (itT pj ρ t).bind (pCallI3 g ρ) := nr rfl
@[simp] theorem pCallI3_ev (g : PL) (ρ : PSt) (y : Tr) : pCallI3 g ρ y = (g [y]).bind (retT ρ) := nr rfl
@[simp] theorem isDtT_ev (f : Fl) (kvs : List (List Int × Int)) (xs : List Tr) : isDtT (.nd f (.dt kvs) xs) = true := nr rfl
@[simp] theorem uSetD_ev (kvs : List (List Int × Int)) (ts : List Tr) (g : Fl) (w : Int) : uSetD (.nd .own (.dt kvs) []) [.nd g .tup ts, I w] = (keyA ts).bind (setD3 kvs w) := nr rfl
@[simp] theorem setD3_ev (kvs : List (List Int × Int)) (w : Int) (k : List Int) : setD3 kvs w k = if kvs.length < sizeLine then some (I ((valI kvs k).getD w), .nd .own (.dt (if (valI kvs k).isSome = true then kvs else putI kvs k w)) []) else none := nr rfl
end Pl

/-! Pl: sum(lists, []). -/
namespace Pl
open PySem L2 Zl
section
variable {N F A : Nat → Prop} {σ : St} {G S : Hz} {ρ : PSt} {M : List Nat}
def lsTr : Tr → Option (List Tr)
  | .nd _ .lst xs => some xs
  | _ => none
def sumLT (yss : List (List Tr)) : Option Tr := newL yss.flatten
def pSumL : PL := fun ts => match ts with
  | [.nd _ .lst xs] => (mapO lsTr xs).bind sumLT
  | _ => none
end
@[simp] theorem pSumL_L (f : Fl) (xs : List Tr) : pSumL [.nd f .lst xs] = (mapO lsTr xs).bind sumLT := nr rfl
end Pl

/-! Pl: min of a list of pairs (a number, a list of numbers). -/
namespace Pl
open PySem L2 Zl
def ilR (i : Int) (ns : List Int) : Option IL := some (i, ns)
def ilT : Tr → Option IL
  | .nd _ .tup [.av (.int i), .nd _ .lst xs] => (intsT xs).bind (ilR i)
  | _ => none
def minILT (xs : List Tr) : List IL → Option Tr
  | [] => none
  | p :: ps => if (p :: ps).Nodup then (xs[(p :: ps).idxOf (minIL p ps)]?).bind shT else none
def pMinIL : PL := fun ts => match ts with
  | [.nd _ .lst xs] => (mapO ilT xs).bind (minILT xs)
  | _ => none
@[simp] theorem pMinIL_L (f : Fl) (xs : List Tr) : pMinIL [.nd f .lst xs] = (mapO ilT xs).bind (minILT xs) := nr rfl
end Pl

/-! Pl: sorted(set(xs)), longer lists. -/
namespace Pl
open PySem PySem.Spec L2 Zl
variable {K : PySem.W.Frag} {X : Cx}
def srtD2 (ns : List Int) : Option Tr := if ns.length < 4000 ∧ (nub ns).length < 64 then some (.nd .own .lst ((sortD ns).map I)) else none
def pSortSet2 : P1 := fun t => match t with
  | .nd _ .lst xs => (intsT xs).bind srtD2
  | _ => none
@[simp] theorem pSortSet2_L (f : Fl) (xs : List Tr) : pSortSet2 (.nd f .lst xs) = (intsT xs).bind srtD2 := nr rfl
end Pl

/-! Pl: try with a clause without a name; a built-in around a call that may raise. -/
namespace Pl
open PySem L2 Zl
def tryN3 (i : Nat) (s : PS) (ρ : PSt) : Nat → Option PR := fun _ => s (ρ.set i none)
def tryN2 (i : Nat) (ok : Nat → Bool) (s : PS) : PR → Option PR
  | .bk ρ => ((getT ρ[i]?).bind (exK ok)).bind (tryN3 i s ρ)
  | .ct _ => none
  | r => some r
def zTryN (i : Nat) (ok : Nat → Bool) (b s : PS) : PS := fun ρ => (b ρ).bind (tryN2 i ok s)
def cX2 (g : PL) (p : E × PSt) : Option V → Option (E × PSt)
  | none => pCall1 g ([p.1], p.2)
  | some v => some (.t (.av v), p.2)
def cX1 (g : PL) : E × PSt → Option (E × PSt) := fun p => (xE p.1).bind (cX2 g p)
def pCallX (g : PL) (p : PE) : PE := fun ρ => (p ρ).bind (cX1 g)
section
variable {N F : Nat → Prop} {σ : St} {G : Hz} {ρ : PSt} {os : Nat → List Nat} {as : List Nat} {v : V} {e : E} {M M1 M2 Rb R1 R2 Rg : List Nat} {i : Nat} {m : ME} {p : PE}
end
/-! ### d.get(t, c) of a dict by tuples in a slot -/
def gTv (kvs : List (List Int × Int)) (w : V) (k : List Int) : V := ((valI kvs k).map V.int).getD w
def gT3 (kvs : List (List Int × Int)) (w : V) (ρ : PSt) (k : List Int) : Option (E × PSt) := some (.t (.av (gTv kvs w k)), ρ)
def gT2 (kvs : List (List Int × Int)) (w : V) (q : E × PSt) : Option (E × PSt) := ((dr q.2 q.1).bind tkT).bind (gT3 kvs w q.2)
def gT1 (pk : PE) (w : V) (ρ : PSt) : Tr → Option (E × PSt)
  | .nd _ (.dt kvs) _ => (pk ρ).bind (gT2 kvs w)
  | _ => none
def pGetT (i : Nat) (pk : PE) (w : V) : PE := fun ρ => (getT ρ[i]?).bind (gT1 pk w ρ)
section
variable {M : List Nat} {i : Nat} {m : ME} {p : PE} {w : V}
end
@[simp] theorem pGetT_ev (i : Nat) (p : PE) (w : V) (ρ : PSt) : pGetT i p w ρ = (getT ρ[i]?).bind (gT1 p w ρ) := nr rfl
@[simp] theorem gT1_ev (f : Fl) (kvs : List (List Int × Int)) (xs : List Tr) (p : PE) (w : V) (ρ : PSt) : gT1 p w ρ (.nd f (.dt kvs) xs) = (p ρ).bind (gT2 kvs w) := nr rfl
@[simp] theorem gT2_ev (kvs : List (List Int × Int)) (w : V) (e : E) (ρ : PSt) : gT2 kvs w (e, ρ) = ((dr ρ e).bind tkT).bind (gT3 kvs w ρ) := nr rfl
@[simp] theorem gT3_ev (kvs : List (List Int × Int)) (w : V) (ρ : PSt) (k : List Int) : gT3 kvs w ρ k = some (.t (.av (gTv kvs w k)), ρ) := nr rfl
@[simp] theorem zTryN_ev (i : Nat) (ok : Nat → Bool) (b s : PS) (ρ : PSt) : zTryN i ok b s ρ = (b ρ).bind (tryN2 i ok s) := nr rfl
@[simp] theorem tryN2_bk (i : Nat) (ok : Nat → Bool) (s : PS) (ρ : PSt) : tryN2 i ok s (.bk ρ) = ((getT ρ[i]?).bind (exK ok)).bind (tryN3 i s ρ) := nr rfl
@[simp] theorem tryN2_nx (i : Nat) (ok : Nat → Bool) (s : PS) (ρ : PSt) : tryN2 i ok s (.nx ρ) = some (.nx ρ) := nr rfl
@[simp] theorem tryN2_rt (i : Nat) (ok : Nat → Bool) (s : PS) (t : Tr) (ρ : PSt) : tryN2 i ok s (.rt t ρ) = some (.rt t ρ) := nr rfl
@[simp] theorem tryN3_ev (i : Nat) (s : PS) (ρ : PSt) (k : Nat) : tryN3 i s ρ k = s (ρ.set i none) := nr rfl
@[simp] theorem pCallX_ev (g : PL) (p : PE) (ρ : PSt) : pCallX g p ρ = (p ρ).bind (cX1 g) := nr rfl
@[simp] theorem cX1_ev (g : PL) (e : E) (ρ : PSt) : cX1 g (e, ρ) = (xE e).bind (cX2 g (e, ρ)) := nr rfl
@[simp] theorem cX2_n (g : PL) (e : E) (ρ : PSt) : cX2 g (e, ρ) none = pCall1 g ([e], ρ) := nr rfl
@[simp] theorem cX2_s (g : PL) (e : E) (ρ : PSt) (v : V) : cX2 g (e, ρ) (some v) = some (.t (.av v), ρ) := nr rfl
end Pl

/-! Pl: list(d) of a dict by tuples. -/
namespace Pl
open PySem L2 Zl
def ktF (kvs : List (List Int × Int)) : List Tr := kvs.map fun p => .nd .frz .tup (p.1.map I)
def lT2 (ρ : PSt) : Tr → Option (E × PSt)
  | .nd _ (.dt kvs) _ => some (.t (.nd .own .lst (ktF kvs)), ρ)
  | _ => none
def lT1 (q : E × PSt) : Option (E × PSt) := (dr q.2 q.1).bind (lT2 q.2)
def pListT (p : PE) : PE := fun ρ => (p ρ).bind lT1
section
variable {M : List Nat} {m : ME} {p : PE}
end
@[simp] theorem pListT_ev (p : PE) (ρ : PSt) : pListT p ρ = (p ρ).bind lT1 := nr rfl
@[simp] theorem lT1_ev (e : E) (ρ : PSt) : lT1 (e, ρ) = (dr ρ e).bind (lT2 ρ) := nr rfl
@[simp] theorem lT2_ev (f : Fl) (kvs : List (List Int × Int)) (xs : List Tr) (ρ : PSt) : lT2 ρ (.nd f (.dt kvs) xs) = some (.t (.nd .own .lst (ktF kvs)), ρ) := nr rfl
end Pl

/-! Pl: tuple + tuple, sorted(set(tuple)). -/
namespace Pl
open PySem PySem.Spec L2 Zl
def pSortSetT : P1 := fun t => match t with
  | .nd _ .tup xs => (intsT xs).bind srtD2
  | _ => none
def catT (g f : Fl) (xs ys : List Tr) : Option Tr := if shL xs = true ∧ shL ys = true ∧ xs.length + ys.length ≤ sizeLine then (if xs = [] then shT (.nd g .tup ys) else if ys = [] then shT (.nd f .tup xs) else some (.nd .own .tup (xs ++ ys))) else none
def pAddT : P2 := fun t1 t2 => match t1, t2 with
  | .nd f .tup xs, .nd g .tup ys => catT g f xs ys
  | _, _ => none
@[simp] theorem pSortSetT_T (f : Fl) (xs : List Tr) : pSortSetT (.nd f .tup xs) = (intsT xs).bind srtD2 := nr rfl
@[simp] theorem pAddT_T (f g : Fl) (xs ys : List Tr) : pAddT (.nd f .tup xs) (.nd g .tup ys) = catT g f xs ys := nr rfl
end Pl

/-! Pl: a walk over zip(a, b, c) of three lists. -/
namespace Pl
open PySem L2 Zl
def zpT3 (xs ys ws : List Tr) : List Tr := (xs.zip (ys.zip ws)).map fun p => U .own [p.1, p.2.1, p.2.2]
def wZt5 (ρ : PSt) (xs ys : List Tr) : List Tr → Option (List Tr × PSt) := fun ws => some (zpT3 xs ys ws, ρ)
def wZt4 (e3 : E) (ρ : PSt) (xs : List Tr) : List Tr → Option (List Tr × PSt) := fun ys => ((dr ρ e3).bind lsT).bind (wZt5 ρ xs ys)
def wZt3 (e2 e3 : E) (ρ : PSt) : List Tr → Option (List Tr × PSt) := fun xs => ((dr ρ e2).bind lsT).bind (wZt4 e3 ρ xs)
def wZt2 (e1 e2 : E) : E × PSt → Option (List Tr × PSt) := fun p => ((dr p.2 e1).bind lsT).bind (wZt3 e2 p.1 p.2)
def wZt1 (c : PE) (e1 : E) : E × PSt → Option (List Tr × PSt) := fun p => (c p.2).bind (wZt2 e1 p.1)
def wZt0 (b c : PE) : E × PSt → Option (List Tr × PSt) := fun p => (b p.2).bind (wZt1 c p.1)
def wZt (a b c : PE) : PI := fun ρ => (a ρ).bind (wZt0 b c)
section
variable {N Nk F A : Nat → Prop} {σ : St} {G G2 : Hz} {ρ ρ1 ρ2 : PSt} {os os1 os2 : Nat → List Nat} {M M1 M2 M3 W W1 W2 W3 : List Nat} {as cs : List Nat} {e : E} {v : V}
end
@[simp] theorem wZt5_ev (ρ : PSt) (xs ys ws : List Tr) : wZt5 ρ xs ys ws = some (zpT3 xs ys ws, ρ) := nr rfl
@[simp] theorem wZt4_ev (e3 : E) (ρ : PSt) (xs ys : List Tr) : wZt4 e3 ρ xs ys = ((dr ρ e3).bind lsT).bind (wZt5 ρ xs ys) := nr rfl
@[simp] theorem wZt3_ev (e2 e3 : E) (ρ : PSt) (xs : List Tr) : wZt3 e2 e3 ρ xs = ((dr ρ e2).bind lsT).bind (wZt4 e3 ρ xs) := nr rfl
@[simp] theorem wZt2_ev (e1 e2 : E) (x0 : E) (y0 : PSt) : wZt2 e1 e2 (x0, y0) = ((dr y0 e1).bind lsT).bind (wZt3 e2 x0 y0) := nr rfl
@[simp] theorem wZt1_ev (c : PE) (e1 : E) (x0 : E) (y0 : PSt) : wZt1 c e1 (x0, y0) = (c y0).bind (wZt2 e1 x0) := nr rfl
@[simp] theorem wZt0_ev (b c : PE) (x0 : E) (y0 : PSt) : wZt0 b c (x0, y0) = (b y0).bind (wZt1 c x0) := nr rfl
@[simp] theorem wZt_ev (a b c : PE) (ρ : PSt) : wZt a b c ρ = (a ρ).bind (wZt0 b c) := nr rfl
end Pl

/-! Pl: errors made as values; a raise in the body of a try; several clauses. -/
namespace Pl
open PySem L2 Zl
def pNewE (k : Nat) : P1 := fun t => match t with
  | .av _ => some (.nd .own (.ex k) [])
  | _ => none
def nwE (k q : Nat) : Tr := .nd .own (.ex (exC k q)) []
def pNewP (k : Nat) : P1 := fun t => (atP t).map (nwE k)
def zRaiseB (k i : Nat) (a : PE) : PS := zRetB i (pUn (pPay k) a)
def zPickL : List (Nat × PS) → Nat → PS
  | [], _ => fun _ => none
  | (j, m) :: l, c => if c = j then m else zPickL l c
def exOf : Tr → Option Nat
  | .nd _ (.ex c) _ => some c
  | _ => none
def zPick1 (l : List (Nat × PS)) (ρ : PSt) : Nat → Option PR := fun c => zPickL l (c % 32) ρ
def zPick (i : Nat) (l : List (Nat × PS)) : PS := fun ρ => ((getT ρ[i]?).bind exOf).bind (zPick1 l ρ)
theorem op_newE {k : Nat} : Op1 (fNewE k) (pNewE k) := fun A F G x t1 as t r1 q => by
  unfold pNewE at q
  split at q
  · cases q
    exact ⟨.ref G.length, G ++ [.xt (.ex k)], rfl, .inr ⟨.ex k, [], [], rfl, rfl, rfl, rfl, ⟨rfl, rfl⟩⟩⟩
  · cases q
theorem op_newP {k : Nat} : Op1 (fNewP k) (pNewP k) := fun A F G x t1 as t r1 q => by
  unfold pNewP at q
  cases t1 with
  | nd f kd xs => cases q
  | av v =>
    obtain ⟨rfl, _, _⟩ := r1
    have q : (payC x).map (nwE k) = some t := q
    cases e : payC x with
    | none => rw [e] at q; cases q
    | some c =>
      rw [e] at q
      cases q
      refine ⟨.ref G.length, G ++ [.xt (.ex (exC k c))], ?_, .inr ⟨.ex (exC k c), [], [], rfl, rfl, rfl, rfl, ⟨rfl, rfl⟩⟩⟩
      unfold fNewP
      rw [e]
      rfl
theorem so_raiseB {k i : Nat} {M : List Nat} {m : ME} {p : PE} (h : EOk M m p) : SOk [i] ([i] ++ M) (sRaiseB k i m) (zRaiseB k i p) := so_retB (eo_un (op_pay (k := k)) h)
inductive PickOk : List Nat → List Nat → List (Nat × MS) → List (Nat × PS) → Prop
  | nil : PickOk [] [] [] []
  | cons {R1 M1 R2 M2 : List Nat} {j : Nat} {m : MS} {p : PS} {l : List (Nat × MS)} {pl : List (Nat × PS)} (h : SOk R1 M1 m p) (r : PickOk R2 M2 l pl) : PickOk (R1 ++ R2) (M1 ++ M2) ((j, m) :: l) ((j, p) :: pl)
theorem pickL_ok {R M : List Nat} {l : List (Nat × MS)} {pl : List (Nat × PS)} (h : PickOk R M l pl) (c : Nat) : SOk R M (pickL l c) (zPickL pl c) := by
  induction h with
  | nil => exact fun N F σ G ρ os r iv q => nomatch q
  | @cons R1 M1 R2 M2 j m p l pl h r ih =>
    intro N F σ G ρ os r iv q
    by_cases z : c = j
    · rw [show zPickL ((j, p) :: pl) c = p from if_pos z] at q
      rw [show pickL ((j, m) :: l) c = m from if_pos z]
      obtain ⟨r', e, s⟩ := h N F σ G ρ os r iv q
      exact ⟨r', e, s.weak (fun _ => memL) fun _ => memL⟩
    · rw [show zPickL ((j, p) :: pl) c = zPickL pl c from if_neg z] at q
      rw [show pickL ((j, m) :: l) c = pickL l c from if_neg z]
      obtain ⟨r', e, s⟩ := ih N F σ G ρ os r iv q
      exact ⟨r', e, s.weak (fun _ => memR) fun _ => memR⟩
theorem so_pick {i : Nat} {R M : List Nat} {l : List (Nat × MS)} {pl : List (Nat × PS)} (h : PickOk R M l pl) : SOk R M (sPick i l) (zPick i pl) := fun N F σ G ρ os r iv q => by
  obtain ⟨c, q1, q⟩ := bnd' q
  obtain ⟨t, q2, q1⟩ := bnd' q1
  have q : zPickL pl (c % 32) ρ = some r := q
  unfold exOf at q1
  split at q1
  · rename_i f c' xs
    cases q1
    obtain ⟨v, ev, rl⟩ := iv.sl i _ q2
    obtain ⟨a, vs, bs, rfl, e1, _⟩ := rl
    have e1 : G[a]? = some (.xt (.ex c)) := e1
    obtain ⟨r', e, s⟩ := pickL_ok h (c % 32) N F σ G ρ os r iv q
    refine ⟨r', ?_, s⟩
    unfold sPick
    rw [ev]
    dsimp only
    rw [e1]
    exact e
  · cases q1
@[simp] theorem zRaiseB_ev (k i : Nat) (a : PE) (ρ : PSt) : zRaiseB k i a ρ = zRetB i (pUn (pPay k) a) ρ := nr rfl
@[simp] theorem zPickL_cons (j : Nat) (m : PS) (l : List (Nat × PS)) (c : Nat) : zPickL ((j, m) :: l) c = if c = j then m else zPickL l c := nr rfl
@[simp] theorem exOf_ex (f : Fl) (c : Nat) (xs : List Tr) : exOf (.nd f (.ex c) xs) = some c := nr rfl
@[simp] theorem zPick1_ev (l : List (Nat × PS)) (ρ : PSt) (c : Nat) : zPick1 l ρ c = zPickL l (c % 32) ρ := nr rfl
@[simp] theorem zPick_ev (i : Nat) (l : List (Nat × PS)) (ρ : PSt) : zPick i l ρ = ((getT ρ[i]?).bind exOf).bind (zPick1 l ρ) := nr rfl
@[simp] theorem pNewE_av (k : Nat) (v : V) : pNewE k (.av v) = some (.nd .own (.ex k) []) := nr rfl
@[simp] theorem pNewP_I (k : Nat) (i : Int) : pNewP k (I i) = some (.nd .own (.ex (exC k (zig i))) []) := nr rfl
theorem fl_mulS (x y : V) (G : Hz) (v : V) (G' : Hz) (h1 : isAt x = true) (h2 : isAt y = true) (q : bMulS x y [] = some (v, G')) : bMulS x y G = some (v, G) := by
  cases x <;> cases y <;> first | cases q | (cases h1) | (cases h2) | skip
  unfold bMulS at q ⊢
  dsimp only at q ⊢
  split at q
  · cases q
    rw [if_pos ‹_›]
  · cases q
end Pl

set_option maxHeartbeats 4000000
namespace Pl
open PySem L2 Zl
/-- _law_kinds(_law_e); slots 0:_law_e 1:_law_some -/
def yg_kinds_k00 : MS := (sSeq (sAsg (eLst (aCons (eUn (fIsE (isJ [0, 1, 2, 3, 4, 5, 6, 7, 8, 9, 10, 11, 12, 13, 14, 15, 16, 17, 18, 19, 20] [0])) (eVar 0)) (aCons (eUn (fIsE (isJ [0, 1, 2, 3, 4, 5, 6, 7, 8, 9, 10, 11, 12, 13, 14, 15, 16, 17, 18, 19, 20] [1])) (eVar 0)) (aCons (eUn (fIsE (isJ [0, 1, 2, 3, 4, 5, 6, 7, 8, 9, 10, 11, 12, 13, 14, 15, 16, 17, 18, 19, 20] [2])) (eVar 0)) aNil)))) (gSet 1)) (sSeq (sAsg (eBin bAdd (eVar 1) (eLst (aCons (eUn (fIsE (isJ [0, 1, 2, 3, 4, 5, 6, 7, 8, 9, 10, 11, 12, 13, 14, 15, 16, 17, 18, 19, 20] [3])) (eVar 0)) (aCons (eUn (fIsE (isJ [0, 1, 2, 3, 4, 5, 6, 7, 8, 9, 10, 11, 12, 13, 14, 15, 16, 17, 18, 19, 20] [4])) (eVar 0)) (aCons (eUn (fIsE (isJ [0, 1, 2, 3, 4, 5, 6, 7, 8, 9, 10, 11, 12, 13, 14, 15, 16, 17, 18, 19, 20] [5])) (eVar 0)) aNil))))) (gSet 1)) (sSeq (sAsg (eBin bAdd (eVar 1) (eLst (aCons (eUn (fIsE (isJ [0, 1, 2, 3, 4, 5, 6, 7, 8, 9, 10, 11, 12, 13, 14, 15, 16, 17, 18, 19, 20] [6])) (eVar 0)) (aCons (eUn (fIsE (isJ [0, 1, 2, 3, 4, 5, 6, 7, 8, 9, 10, 11, 12, 13, 14, 15, 16, 17, 18, 19, 20] [7])) (eVar 0)) (aCons (eUn (fIsE (isJ [0, 1, 2, 3, 4, 5, 6, 7, 8, 9, 10, 11, 12, 13, 14, 15, 16, 17, 18, 19, 20] [8])) (eVar 0)) aNil))))) (gSet 1)) (sSeq (sAsg (eBin bAdd (eVar 1) (eLst (aCons (eUn (fIsE (isJ [0, 1, 2, 3, 4, 5, 6, 7, 8, 9, 10, 11, 12, 13, 14, 15, 16, 17, 18, 19, 20] [9])) (eVar 0)) (aCons (eUn (fIsE (isJ [0, 1, 2, 3, 4, 5, 6, 7, 8, 9, 10, 11, 12, 13, 14, 15, 16, 17, 18, 19, 20] [10])) (eVar 0)) (aCons (eUn (fIsE (isJ [0, 1, 2, 3, 4, 5, 6, 7, 8, 9, 10, 11, 12, 13, 14, 15, 16, 17, 18, 19, 20] [11])) (eVar 0)) aNil))))) (gSet 1)) (sSeq (sAsg (eBin bAdd (eVar 1) (eLst (aCons (eUn (fIsE (isJ [0, 1, 2, 3, 4, 5, 6, 7, 8, 9, 10, 11, 12, 13, 14, 15, 16, 17, 18, 19, 20] [12])) (eVar 0)) (aCons (eUn (fIsE (isJ [0, 1, 2, 3, 4, 5, 6, 7, 8, 9, 10, 11, 12, 13, 14, 15, 16, 17, 18, 19, 20] [13])) (eVar 0)) (aCons (eUn (fIsE (isJ [0, 1, 2, 3, 4, 5, 6, 7, 8, 9, 10, 11, 12, 13, 14, 15, 16, 17, 18, 19, 20] [14])) (eVar 0)) aNil))))) (gSet 1)) (sSeq (sAsg (eBin bAdd (eVar 1) (eLst (aCons (eUn (fIsE (isJ [0, 1, 2, 3, 4, 5, 6, 7, 8, 9, 10, 11, 12, 13, 14, 15, 16, 17, 18, 19, 20] [15])) (eVar 0)) (aCons (eUn (fIsE (isJ [0, 1, 2, 3, 4, 5, 6, 7, 8, 9, 10, 11, 12, 13, 14, 15, 16, 17, 18, 19, 20] [16])) (eVar 0)) (aCons (eUn (fIsE (isJ [0, 1, 2, 3, 4, 5, 6, 7, 8, 9, 10, 11, 12, 13, 14, 15, 16, 17, 18, 19, 20] [17])) (eVar 0)) aNil))))) (gSet 1)) (sRet (eBin bAdd (eVar 1) (eLst (aCons (eUn (fIsE (isJ [0, 1, 2, 3, 4, 5, 6, 7, 8, 9, 10, 11, 12, 13, 14, 15, 16, 17, 18, 19, 20] [18])) (eVar 0)) (aCons (eUn (fIsE (isJ [0, 1, 2, 3, 4, 5, 6, 7, 8, 9, 10, 11, 12, 13, 14, 15, 16, 17, 18, 19, 20] [19])) (eVar 0)) aNil)))))))))))
def hg_kinds_k00 : FL := runD 2 yg_kinds_k00
def pg_kinds_k00_S : PS := (zSeq (zAsg (pDis .lst (aConsP (pUn (pIsE (isJ [0, 1, 2, 3, 4, 5, 6, 7, 8, 9, 10, 11, 12, 13, 14, 15, 16, 17, 18, 19, 20] [0])) (pVar 0)) (aConsP (pUn (pIsE (isJ [0, 1, 2, 3, 4, 5, 6, 7, 8, 9, 10, 11, 12, 13, 14, 15, 16, 17, 18, 19, 20] [1])) (pVar 0)) (aConsP (pUn (pIsE (isJ [0, 1, 2, 3, 4, 5, 6, 7, 8, 9, 10, 11, 12, 13, 14, 15, 16, 17, 18, 19, 20] [2])) (pVar 0)) aNilP)))) (gS 1)) (zSeq (zAsg (pBin pAdd (pVar 1) (pDis .lst (aConsP (pUn (pIsE (isJ [0, 1, 2, 3, 4, 5, 6, 7, 8, 9, 10, 11, 12, 13, 14, 15, 16, 17, 18, 19, 20] [3])) (pVar 0)) (aConsP (pUn (pIsE (isJ [0, 1, 2, 3, 4, 5, 6, 7, 8, 9, 10, 11, 12, 13, 14, 15, 16, 17, 18, 19, 20] [4])) (pVar 0)) (aConsP (pUn (pIsE (isJ [0, 1, 2, 3, 4, 5, 6, 7, 8, 9, 10, 11, 12, 13, 14, 15, 16, 17, 18, 19, 20] [5])) (pVar 0)) aNilP))))) (gS 1)) (zSeq (zAsg (pBin pAdd (pVar 1) (pDis .lst (aConsP (pUn (pIsE (isJ [0, 1, 2, 3, 4, 5, 6, 7, 8, 9, 10, 11, 12, 13, 14, 15, 16, 17, 18, 19, 20] [6])) (pVar 0)) (aConsP (pUn (pIsE (isJ [0, 1, 2, 3, 4, 5, 6, 7, 8, 9, 10, 11, 12, 13, 14, 15, 16, 17, 18, 19, 20] [7])) (pVar 0)) (aConsP (pUn (pIsE (isJ [0, 1, 2, 3, 4, 5, 6, 7, 8, 9, 10, 11, 12, 13, 14, 15, 16, 17, 18, 19, 20] [8])) (pVar 0)) aNilP))))) (gS 1)) (zSeq (zAsg (pBin pAdd (pVar 1) (pDis .lst (aConsP (pUn (pIsE (isJ [0, 1, 2, 3, 4, 5, 6, 7, 8, 9, 10, 11, 12, 13, 14, 15, 16, 17, 18, 19, 20] [9])) (pVar 0)) (aConsP (pUn (pIsE (isJ [0, 1, 2, 3, 4, 5, 6, 7, 8, 9, 10, 11, 12, 13, 14, 15, 16, 17, 18, 19, 20] [10])) (pVar 0)) (aConsP (pUn (pIsE (isJ [0, 1, 2, 3, 4, 5, 6, 7, 8, 9, 10, 11, 12, 13, 14, 15, 16, 17, 18, 19, 20] [11])) (pVar 0)) aNilP))))) (gS 1)) (zSeq (zAsg (pBin pAdd (pVar 1) (pDis .lst (aConsP (pUn (pIsE (isJ [0, 1, 2, 3, 4, 5, 6, 7, 8, 9, 10, 11, 12, 13, 14, 15, 16, 17, 18, 19, 20] [12])) (pVar 0)) (aConsP (pUn (pIsE (isJ [0, 1, 2, 3, 4, 5, 6, 7, 8, 9, 10, 11, 12, 13, 14, 15, 16, 17, 18, 19, 20] [13])) (pVar 0)) (aConsP (pUn (pIsE (isJ [0, 1, 2, 3, 4, 5, 6, 7, 8, 9, 10, 11, 12, 13, 14, 15, 16, 17, 18, 19, 20] [14])) (pVar 0)) aNilP))))) (gS 1)) (zSeq (zAsg (pBin pAdd (pVar 1) (pDis .lst (aConsP (pUn (pIsE (isJ [0, 1, 2, 3, 4, 5, 6, 7, 8, 9, 10, 11, 12, 13, 14, 15, 16, 17, 18, 19, 20] [15])) (pVar 0)) (aConsP (pUn (pIsE (isJ [0, 1, 2, 3, 4, 5, 6, 7, 8, 9, 10, 11, 12, 13, 14, 15, 16, 17, 18, 19, 20] [16])) (pVar 0)) (aConsP (pUn (pIsE (isJ [0, 1, 2, 3, 4, 5, 6, 7, 8, 9, 10, 11, 12, 13, 14, 15, 16, 17, 18, 19, 20] [17])) (pVar 0)) aNilP))))) (gS 1)) (zRet (pBin pAdd (pVar 1) (pDis .lst (aConsP (pUn (pIsE (isJ [0, 1, 2, 3, 4, 5, 6, 7, 8, 9, 10, 11, 12, 13, 14, 15, 16, 17, 18, 19, 20] [18])) (pVar 0)) (aConsP (pUn (pIsE (isJ [0, 1, 2, 3, 4, 5, 6, 7, 8, 9, 10, 11, 12, 13, 14, 15, 16, 17, 18, 19, 20] [19])) (pVar 0)) aNilP)))))))))))
def pg_kinds_k00 : PF := runP [] 2 pg_kinds_k00_S
theorem pk_pg_kinds_k00 : FOk hg_kinds_k00 pg_kinds_k00 := fo_run (mp := []) (n := 2) (b := yg_kinds_k00) (pb := pg_kinds_k00_S) (
    (so_seq (so_asg (eo_lst (ao_cons (eo_un op_isE eo_var) (ao_cons (eo_un op_isE eo_var) (ao_cons (eo_un op_isE eo_var) ao_nil)))) go_set)
    (so_seq (so_asg (eo_bin op_add eo_var (eo_lst (ao_cons (eo_un op_isE eo_var) (ao_cons (eo_un op_isE eo_var) (ao_cons (eo_un op_isE eo_var) ao_nil))))) go_set)
    (so_seq (so_asg (eo_bin op_add eo_var (eo_lst (ao_cons (eo_un op_isE eo_var) (ao_cons (eo_un op_isE eo_var) (ao_cons (eo_un op_isE eo_var) ao_nil))))) go_set)
    (so_seq (so_asg (eo_bin op_add eo_var (eo_lst (ao_cons (eo_un op_isE eo_var) (ao_cons (eo_un op_isE eo_var) (ao_cons (eo_un op_isE eo_var) ao_nil))))) go_set)
    (so_seq (so_asg (eo_bin op_add eo_var (eo_lst (ao_cons (eo_un op_isE eo_var) (ao_cons (eo_un op_isE eo_var) (ao_cons (eo_un op_isE eo_var) ao_nil))))) go_set)
    (so_seq (so_asg (eo_bin op_add eo_var (eo_lst (ao_cons (eo_un op_isE eo_var) (ao_cons (eo_un op_isE eo_var) (ao_cons (eo_un op_isE eo_var) ao_nil))))) go_set)
    (so_ret (eo_bin op_add eo_var (eo_lst (ao_cons (eo_un op_isE eo_var) (ao_cons (eo_un op_isE eo_var) ao_nil)))))))))))) (by decide)

/-- _law_raised(_law_way, _law_thing); slots 0:_law_way 1:_law_thing 2:_law_found 3:_law_e -/
def yg_raised_k00 : MS := (sSeq (sAsg (eC (.str "nothing")) (gSet 2)) (sSeq (sTry 3 (fun k => decide (k % 32 ∈ ([16, 17, 18, 19] : List Nat))) (sSeq (sIf (tE (eBin cEq (eVar 0) (eC (.int 0)))) (sRaiseB 16 3 (eVar 1)) sPass) (sSeq (sIf (tE (eBin cEq (eVar 0) (eC (.int 1)))) (sRaiseB 17 3 (eVar 1)) sPass) (sSeq (sIf (tE (eBin cEq (eVar 0) (eC (.int 2)))) (sRaiseB 18 3 (eVar 1)) sPass) (sRaiseB 19 3 (eVar 1))))) (sPick 3 [(16, (sAsg (eUn (fRow [0, 1, 2, 3, 4, 5, 6, 7, 8, 9, 10, 11, 12, 13, 14, 15, 16, 17, 18, 19, 20] "row") (eVar 3)) (gSet 2))), (17, (sAsg (eUn (fRow [0, 1, 2, 3, 4, 5, 6, 7, 8, 9, 10, 11, 12, 13, 14, 15, 16, 17, 18, 19, 20] "reader") (eVar 3)) (gSet 2))), (18, (sAsg (eUn (fRow [0, 1, 2, 3, 4, 5, 6, 7, 8, 9, 10, 11, 12, 13, 14, 15, 16, 17, 18, 19, 20] "position") (eVar 3)) (gSet 2))), (19, (sAsg (eUn (fRow [0, 1, 2, 3, 4, 5, 6, 7, 8, 9, 10, 11, 12, 13, 14, 15, 16, 17, 18, 19, 20] "limit") (eVar 3)) (gSet 2)))])) (sRet (eVar 2))))
def hg_raised_k00 : FL := runD 4 yg_raised_k00
def pg_raised_k00_S : PS := (zSeq (zAsg (pC (.str "nothing")) (gS 2)) (zSeq (zTry 3 (fun k => decide (k % 32 ∈ ([16, 17, 18, 19] : List Nat))) (zSeq (zIf (qE (pBin pEq (pVar 0) (pC (.int 0)))) (zRaiseB 16 3 (pVar 1)) zPass) (zSeq (zIf (qE (pBin pEq (pVar 0) (pC (.int 1)))) (zRaiseB 17 3 (pVar 1)) zPass) (zSeq (zIf (qE (pBin pEq (pVar 0) (pC (.int 2)))) (zRaiseB 18 3 (pVar 1)) zPass) (zRaiseB 19 3 (pVar 1))))) (zPick 3 [(16, (zAsg (pUn (pRow [0, 1, 2, 3, 4, 5, 6, 7, 8, 9, 10, 11, 12, 13, 14, 15, 16, 17, 18, 19, 20] "row") (pVar 3)) (gS 2))), (17, (zAsg (pUn (pRow [0, 1, 2, 3, 4, 5, 6, 7, 8, 9, 10, 11, 12, 13, 14, 15, 16, 17, 18, 19, 20] "reader") (pVar 3)) (gS 2))), (18, (zAsg (pUn (pRow [0, 1, 2, 3, 4, 5, 6, 7, 8, 9, 10, 11, 12, 13, 14, 15, 16, 17, 18, 19, 20] "position") (pVar 3)) (gS 2))), (19, (zAsg (pUn (pRow [0, 1, 2, 3, 4, 5, 6, 7, 8, 9, 10, 11, 12, 13, 14, 15, 16, 17, 18, 19, 20] "limit") (pVar 3)) (gS 2)))])) (zRet (pMv 2))))
def pg_raised_k00 : PF := runP [] 4 pg_raised_k00_S
theorem pk_pg_raised_k00 : FOk hg_raised_k00 pg_raised_k00 := fo_run (mp := []) (n := 4) (b := yg_raised_k00) (pb := pg_raised_k00_S) (
    (so_seq (so_asg eo_c go_set)
    (so_seq (so_try (so_seq (so_if (to_e (eo_bin op_eq eo_var eo_c))
    (so_raiseB eo_var)
    so_pass)
    (so_seq (so_if (to_e (eo_bin op_eq eo_var eo_c))
    (so_raiseB eo_var)
    so_pass)
    (so_seq (so_if (to_e (eo_bin op_eq eo_var eo_c))
    (so_raiseB eo_var)
    so_pass)
    (so_raiseB eo_var))))
    (so_pick (.cons (so_asg (eo_un op_row eo_var) go_set) (.cons (so_asg (eo_un op_row eo_var) go_set) (.cons (so_asg (eo_un op_row eo_var) go_set) (.cons (so_asg (eo_un op_row eo_var) go_set) .nil))))))
    (so_ret eo_mv)))) (by decide)

/-- law(_law_script); slots 0:_law_script 1:_law_at 2:_law_pool_here 3:_law_word 4:_law_made 5:_law_thing 6:_law_spot 7:_law_e 8:_law_again 9:_law_place 10:_law_way -/
def yg_law_k00_C3 : ME := eComp fuelN false (iRange1 (aCons (eC (.int 20)) aNil)) [9] (gSet 9) tYesZ (eBin cEq (eVar 9) (eVar 6))
def yg_law_k00_B2 : MS := (sSeq (sIf (tOrZ (tNotZ (tE (eUn (fIsE (isV [0, 1, 2, 3, 4, 5, 6, 7, 8, 9, 10, 11, 12, 13, 14, 15, 16, 17, 18, 19, 20])) (eVar 7)))) (tNotZ (tE (eUn (fIsE (isV [0, 1, 2, 3, 4, 5, 6, 7, 8, 9, 10, 11, 12, 13, 14, 15, 16, 17, 18, 19, 20])) (eVar 7))))) (sRet (eC (.bl false))) sPass) (sIf (tE (eBin cNe (eFn hg_kinds_k00 [] (aCons (eVar 7) aNil)) yg_law_k00_C3)) (sRet (eC (.bl false))) sPass))
def yg_law_k00_F2 : MS := sFor fuelN (iEnumZ (aCons (eVar 4) aNil)) (gUn 2 (gsCons (gSet 6) (gsCons (gSet 7) gsNil))) yg_law_k00_B2
def yg_law_k00_C4 : ME := eComp fuelN false (iRange1 (aCons (eC (.int 4)) aNil)) [10] (gSet 10) tYesZ (eFn hg_raised_k00 [] (aCons (eVar 10) (aCons (eVar 5) aNil)))
def yg_law_k00_B1 : MS := (sSeq (sAsg (eFn hg_pool [] (aCons (eVar 0) (aCons (eVar 1) aNil))) (gSet 2)) (sSeq (sAsg (eBin xIx (eLst (aCons (eC (.str "a")) (aCons (eC (.str "")) (aCons (eC (.str "not an order")) (aCons (eBin bMulS (eC (.str "x")) (eC (.int 40))) aNil))))) (eFn hg_draw_k00 [] (aCons (eVar 2) (aCons (eC (.int 4)) aNil)))) (gSet 3)) (sSeq (sAsg (eLst (aCons (eUn (fNewE 0) (eVar 3)) (aCons (eUn (fNewE 1) (eVar 3)) (aCons (eUn (fNewE 2) (eVar 3)) (aCons (eUn (fNewE 3) (eVar 3)) aNil))))) (gSet 4)) (sSeq (sAsg (eBin bAdd (eVar 4) (eLst (aCons (eUn (fNewE 4) (eVar 3)) (aCons (eUn (fNewE 5) (eVar 3)) (aCons (eUn (fNewE 6) (eVar 3)) (aCons (eUn (fNewE 7) (eVar 3)) (aCons (eUn (fNewE 8) (eVar 3)) aNil))))))) (gSet 4)) (sSeq (sAsg (eBin bAdd (eVar 4) (eLst (aCons (eUn (fNewE 9) (eVar 3)) (aCons (eUn (fNewE 10) (eVar 3)) (aCons (eUn (fNewE 11) (eVar 3)) (aCons (eUn (fNewE 12) (eVar 3)) aNil)))))) (gSet 4)) (sSeq (sAsg (eBin xIx (eLst (aCons (eFn hg_draw_k00 [] (aCons (eVar 2) (aCons (eC (.int 1000000000)) aNil))) (aCons (eC (.int 0)) (aCons (eC (.int 1)) (aCons (eC (.int 7)) (aCons (eC (.int 40)) (aCons (eC (.int 1000000000000000000000000000000)) aNil))))))) (eFn hg_draw_k00 [] (aCons (eVar 2) (aCons (eC (.int 6)) aNil)))) (gSet 5)) (sSeq (sAsg (eBin bAdd (eVar 4) (eLst (aCons (eUn (fNewE 13) (eVar 3)) (aCons (eUn (fNewE 14) (eVar 3)) (aCons (eUn (fNewE 15) (eVar 3)) (aCons (eUn (fNewP 16) (eVar 5)) (aCons (eUn (fNewP 17) (eVar 5)) aNil))))))) (gSet 4)) (sSeq (sAsg (eBin bAdd (eVar 4) (eLst (aCons (eUn (fNewP 18) (eVar 5)) (aCons (eUn (fNewP 19) (eVar 5)) aNil)))) (gSet 4)) (sSeq yg_law_k00_F2 (sSeq (sIf (tE (eBin cNe (eLst (aCons (eUn (fRow [0, 1, 2, 3, 4, 5, 6, 7, 8, 9, 10, 11, 12, 13, 14, 15, 16, 17, 18, 19, 20] "row") (eBin xIx (eVar 4) (eC (.int 16)))) (aCons (eUn (fRow [0, 1, 2, 3, 4, 5, 6, 7, 8, 9, 10, 11, 12, 13, 14, 15, 16, 17, 18, 19, 20] "reader") (eBin xIx (eVar 4) (eC (.int 17)))) (aCons (eUn (fRow [0, 1, 2, 3, 4, 5, 6, 7, 8, 9, 10, 11, 12, 13, 14, 15, 16, 17, 18, 19, 20] "position") (eBin xIx (eVar 4) (eC (.int 18)))) (aCons (eUn (fRow [0, 1, 2, 3, 4, 5, 6, 7, 8, 9, 10, 11, 12, 13, 14, 15, 16, 17, 18, 19, 20] "limit") (eBin xIx (eVar 4) (eC (.int 19)))) aNil))))) (eBin bMul (eLst (aCons (eVar 5) aNil)) (eC (.int 4))))) (sRet (eC (.bl false))) sPass) (sSeq (sAsg (eLst (aCons (eUn (fNewP 16) (eVar 5)) (aCons (eUn (fNewP 17) (eVar 5)) (aCons (eUn (fNewP 18) (eVar 5)) (aCons (eUn (fNewP 19) (eVar 5)) aNil))))) (gSet 8)) (sSeq (sIf (tE (eBin cNe (eLst (aCons (eUn (fRow [0, 1, 2, 3, 4, 5, 6, 7, 8, 9, 10, 11, 12, 13, 14, 15, 16, 17, 18, 19, 20] "row") (eBin xIx (eVar 8) (eC (.int 0)))) (aCons (eUn (fRow [0, 1, 2, 3, 4, 5, 6, 7, 8, 9, 10, 11, 12, 13, 14, 15, 16, 17, 18, 19, 20] "reader") (eBin xIx (eVar 8) (eC (.int 1)))) (aCons (eUn (fRow [0, 1, 2, 3, 4, 5, 6, 7, 8, 9, 10, 11, 12, 13, 14, 15, 16, 17, 18, 19, 20] "position") (eBin xIx (eVar 8) (eC (.int 2)))) (aCons (eUn (fRow [0, 1, 2, 3, 4, 5, 6, 7, 8, 9, 10, 11, 12, 13, 14, 15, 16, 17, 18, 19, 20] "limit") (eBin xIx (eVar 8) (eC (.int 3)))) aNil))))) (eBin bMul (eLst (aCons (eVar 5) aNil)) (eC (.int 4))))) (sRet (eC (.bl false))) sPass) (sSeq (sIf (tE (eBin cNe yg_law_k00_C4 (eBin bMul (eLst (aCons (eVar 5) aNil)) (eC (.int 4))))) (sRet (eC (.bl false))) sPass) (sIf (tE (eBin cIn (eC (.bl true)) (eFn hg_kinds_k00 [] (aCons (eUn (fNewE 20) (eVar 3)) aNil)))) (sRet (eC (.bl false))) sPass))))))))))))))
def yg_law_k00_F1 : MS := sFor fuelN (iRange1 (aCons (eCall fMax (aCons (eC (.int 1)) (aCons (eCall fMin (aCons (eC (.int 3)) (aCons (eCall fLen (aCons (eVar 0) aNil)) aNil))) aNil))) aNil)) (gSet 1) yg_law_k00_B1
def yg_law_k00 : MS := (sSeq yg_law_k00_F1 (sRet (eC (.bl true))))
def hg_law_k00 : FL := runD 11 yg_law_k00
def pg_law_k00_C3 : PE := pComp fuelN false (wR1 (pC (.int 20))) [9] (gS 9) qYes (pBin pEq (pVar 9) (pVar 6))
def pg_law_k00_B2 : PS := (zKill [6, 7, 9] (zSeq (zIf (qOr (qNot (qE (pUn (pIsE (isV [0, 1, 2, 3, 4, 5, 6, 7, 8, 9, 10, 11, 12, 13, 14, 15, 16, 17, 18, 19, 20])) (pVar 7)))) (qNot (qE (pUn (pIsE (isV [0, 1, 2, 3, 4, 5, 6, 7, 8, 9, 10, 11, 12, 13, 14, 15, 16, 17, 18, 19, 20])) (pVar 7))))) (zRet (pC (.bl false))) zPass) (zIf (qE (pBin pNe (pFn pg_kinds_k00 [.r] [] (aConsP (pVar 7) aNilP)) pg_law_k00_C3)) (zRet (pC (.bl false))) zPass)))
def pg_law_k00_F2 : PS := zFor fuelN (wEn 0 (pVar 4)) (gU [(gS 6), (gS 7)]) pg_law_k00_B2
def pg_law_k00_C4 : PE := pComp fuelN false (wR1 (pC (.int 4))) [10] (gS 10) qYes (pFn pg_raised_k00 [.r, .r] [] (aConsP (pVar 10) (aConsP (pVar 5) aNilP)))
def pg_law_k00_B1 : PS := (zKill [1, 2, 3, 4, 5, 6, 7, 8, 9, 10] (zSeq (zAsg (pFn pg_pool [.r, .r] [] (aConsP (pVar 0) (aConsP (pVar 1) aNilP))) (gS 2)) (zSeq (zAsg (pBin pIx (pDis .lst (aConsP (pC (.str "a")) (aConsP (pC (.str "")) (aConsP (pC (.str "not an order")) (aConsP (pBin (A2 bMulS) (pC (.str "x")) (pC (.int 40))) aNilP))))) (pFn pg_draw_k00 [.m 2, .r] [] (aConsP (pVar 2) (aConsP (pC (.int 4)) aNilP)))) (gS 3)) (zSeq (zAsg (pDis .lst (aConsP (pUn (pNewE 0) (pVar 3)) (aConsP (pUn (pNewE 1) (pVar 3)) (aConsP (pUn (pNewE 2) (pVar 3)) (aConsP (pUn (pNewE 3) (pVar 3)) aNilP))))) (gS 4)) (zSeq (zAsg (pBin pAdd (pVar 4) (pDis .lst (aConsP (pUn (pNewE 4) (pVar 3)) (aConsP (pUn (pNewE 5) (pVar 3)) (aConsP (pUn (pNewE 6) (pVar 3)) (aConsP (pUn (pNewE 7) (pVar 3)) (aConsP (pUn (pNewE 8) (pVar 3)) aNilP))))))) (gS 4)) (zSeq (zAsg (pBin pAdd (pVar 4) (pDis .lst (aConsP (pUn (pNewE 9) (pVar 3)) (aConsP (pUn (pNewE 10) (pVar 3)) (aConsP (pUn (pNewE 11) (pVar 3)) (aConsP (pUn (pNewE 12) (pVar 3)) aNilP)))))) (gS 4)) (zSeq (zAsg (pBin pIx (pDis .lst (aConsP (pFn pg_draw_k00 [.m 2, .r] [] (aConsP (pVar 2) (aConsP (pC (.int 1000000000)) aNilP))) (aConsP (pC (.int 0)) (aConsP (pC (.int 1)) (aConsP (pC (.int 7)) (aConsP (pC (.int 40)) (aConsP (pC (.int 1000000000000000000000000000000)) aNilP))))))) (pFn pg_draw_k00 [.m 2, .r] [] (aConsP (pVar 2) (aConsP (pC (.int 6)) aNilP)))) (gS 5)) (zSeq (zAsg (pBin pAdd (pVar 4) (pDis .lst (aConsP (pUn (pNewE 13) (pVar 3)) (aConsP (pUn (pNewE 14) (pVar 3)) (aConsP (pUn (pNewE 15) (pVar 3)) (aConsP (pUn (pNewP 16) (pVar 5)) (aConsP (pUn (pNewP 17) (pVar 5)) aNilP))))))) (gS 4)) (zSeq (zAsg (pBin pAdd (pVar 4) (pDis .lst (aConsP (pUn (pNewP 18) (pVar 5)) (aConsP (pUn (pNewP 19) (pVar 5)) aNilP)))) (gS 4)) (zSeq pg_law_k00_F2 (zSeq (zIf (qE (pBin pNe (pDis .lst (aConsP (pUn (pRow [0, 1, 2, 3, 4, 5, 6, 7, 8, 9, 10, 11, 12, 13, 14, 15, 16, 17, 18, 19, 20] "row") (pBin pIx (pVar 4) (pC (.int 16)))) (aConsP (pUn (pRow [0, 1, 2, 3, 4, 5, 6, 7, 8, 9, 10, 11, 12, 13, 14, 15, 16, 17, 18, 19, 20] "reader") (pBin pIx (pVar 4) (pC (.int 17)))) (aConsP (pUn (pRow [0, 1, 2, 3, 4, 5, 6, 7, 8, 9, 10, 11, 12, 13, 14, 15, 16, 17, 18, 19, 20] "position") (pBin pIx (pVar 4) (pC (.int 18)))) (aConsP (pUn (pRow [0, 1, 2, 3, 4, 5, 6, 7, 8, 9, 10, 11, 12, 13, 14, 15, 16, 17, 18, 19, 20] "limit") (pBin pIx (pVar 4) (pC (.int 19)))) aNilP))))) (pBin pMul (pDis .lst (aConsP (pFz 5) aNilP)) (pC (.int 4))))) (zRet (pC (.bl false))) zPass) (zSeq (zAsg (pDis .lst (aConsP (pUn (pNewP 16) (pVar 5)) (aConsP (pUn (pNewP 17) (pVar 5)) (aConsP (pUn (pNewP 18) (pVar 5)) (aConsP (pUn (pNewP 19) (pVar 5)) aNilP))))) (gS 8)) (zSeq (zIf (qE (pBin pNe (pDis .lst (aConsP (pUn (pRow [0, 1, 2, 3, 4, 5, 6, 7, 8, 9, 10, 11, 12, 13, 14, 15, 16, 17, 18, 19, 20] "row") (pBin pIx (pVar 8) (pC (.int 0)))) (aConsP (pUn (pRow [0, 1, 2, 3, 4, 5, 6, 7, 8, 9, 10, 11, 12, 13, 14, 15, 16, 17, 18, 19, 20] "reader") (pBin pIx (pVar 8) (pC (.int 1)))) (aConsP (pUn (pRow [0, 1, 2, 3, 4, 5, 6, 7, 8, 9, 10, 11, 12, 13, 14, 15, 16, 17, 18, 19, 20] "position") (pBin pIx (pVar 8) (pC (.int 2)))) (aConsP (pUn (pRow [0, 1, 2, 3, 4, 5, 6, 7, 8, 9, 10, 11, 12, 13, 14, 15, 16, 17, 18, 19, 20] "limit") (pBin pIx (pVar 8) (pC (.int 3)))) aNilP))))) (pBin pMul (pDis .lst (aConsP (pFz 5) aNilP)) (pC (.int 4))))) (zRet (pC (.bl false))) zPass) (zSeq (zIf (qE (pBin pNe pg_law_k00_C4 (pBin pMul (pDis .lst (aConsP (pFz 5) aNilP)) (pC (.int 4))))) (zRet (pC (.bl false))) zPass) (zIf (qE (pBin (pIn false) (pC (.bl true)) (pFn pg_kinds_k00 [.r] [] (aConsP (pUn (pNewE 20) (pVar 3)) aNilP)))) (zRet (pC (.bl false))) zPass)))))))))))))))
def pg_law_k00_F1 : PS := zFor fuelN (wR1 (pCall pMax (aConsP (pC (.int 1)) (aConsP (pCall pMin (aConsP (pC (.int 3)) (aConsP (pCall pLen (aConsP (pVar 0) aNilP)) aNilP))) aNilP)))) (gS 1) pg_law_k00_B1
def pg_law_k00_S : PS := (zSeq pg_law_k00_F1 (zRet (pC (.bl true))))
def pg_law_k00 : PF := runP [] 11 pg_law_k00_S
theorem pk_pg_law_k00 : FOk hg_law_k00 pg_law_k00 := fo_run (mp := []) (n := 11) (b := yg_law_k00) (pb := pg_law_k00_S) (
    (so_seq (so_for (io_r1 (eo_call op_max (ao_cons eo_c (ao_cons (eo_call op_min (ao_cons eo_c (ao_cons (eo_call op_len (ao_cons eo_var ao_nil)) ao_nil))) ao_nil)))) go_set
    (so_kill [1, 2, 3, 4, 5, 6, 7, 8, 9, 10] (so_seq (so_asg (eo_fn pk_pg_pool (ao_cons eo_var (ao_cons eo_var ao_nil))) go_set)
    (so_seq (so_asg (eo_bin op_ix (eo_lst (ao_cons eo_c (ao_cons eo_c (ao_cons eo_c (ao_cons (eo_bin (op_A2 fl_mulS) eo_c eo_c) ao_nil))))) (eo_fn pk_pg_draw_k00 (ao_cons eo_var (ao_cons eo_c ao_nil)))) go_set)
    (so_seq (so_asg (eo_lst (ao_cons (eo_un op_newE eo_var) (ao_cons (eo_un op_newE eo_var) (ao_cons (eo_un op_newE eo_var) (ao_cons (eo_un op_newE eo_var) ao_nil))))) go_set)
    (so_seq (so_asg (eo_bin op_add eo_var (eo_lst (ao_cons (eo_un op_newE eo_var) (ao_cons (eo_un op_newE eo_var) (ao_cons (eo_un op_newE eo_var) (ao_cons (eo_un op_newE eo_var) (ao_cons (eo_un op_newE eo_var) ao_nil))))))) go_set)
    (so_seq (so_asg (eo_bin op_add eo_var (eo_lst (ao_cons (eo_un op_newE eo_var) (ao_cons (eo_un op_newE eo_var) (ao_cons (eo_un op_newE eo_var) (ao_cons (eo_un op_newE eo_var) ao_nil)))))) go_set)
    (so_seq (so_asg (eo_bin op_ix (eo_lst (ao_cons (eo_fn pk_pg_draw_k00 (ao_cons eo_var (ao_cons eo_c ao_nil))) (ao_cons eo_c (ao_cons eo_c (ao_cons eo_c (ao_cons eo_c (ao_cons eo_c ao_nil))))))) (eo_fn pk_pg_draw_k00 (ao_cons eo_var (ao_cons eo_c ao_nil)))) go_set)
    (so_seq (so_asg (eo_bin op_add eo_var (eo_lst (ao_cons (eo_un op_newE eo_var) (ao_cons (eo_un op_newE eo_var) (ao_cons (eo_un op_newE eo_var) (ao_cons (eo_un op_newP eo_var) (ao_cons (eo_un op_newP eo_var) ao_nil))))))) go_set)
    (so_seq (so_asg (eo_bin op_add eo_var (eo_lst (ao_cons (eo_un op_newP eo_var) (ao_cons (eo_un op_newP eo_var) ao_nil)))) go_set)
    (so_seq (so_for (io_en ev_var) (go_un (gs_consP go_set (gs_consP go_set gs_nilP)) rfl)
    (so_kill [6, 7, 9] (so_seq (so_if (to_or (to_not (to_e (eo_un op_isE eo_var))) (to_not (to_e (eo_un op_isE eo_var))))
    (so_ret eo_c)
    so_pass)
    (so_if (to_e (eo_bin op_ne (eo_fn pk_pg_kinds_k00 (ao_cons eo_var ao_nil)) (eo_comp (io_r1 eo_c) go_set to_yes (eo_bin op_eq eo_var eo_var) (by decide) (by decide))))
    (so_ret eo_c)
    so_pass))) (by decide))
    (so_seq (so_if (to_e (eo_bin op_ne (eo_lst (ao_cons (eo_un op_row (eo_bin op_ix eo_var eo_c)) (ao_cons (eo_un op_row (eo_bin op_ix eo_var eo_c)) (ao_cons (eo_un op_row (eo_bin op_ix eo_var eo_c)) (ao_cons (eo_un op_row (eo_bin op_ix eo_var eo_c)) ao_nil))))) (eo_bin op_mul (eo_lst (ao_cons eo_fz ao_nil)) eo_c)))
    (so_ret eo_c)
    so_pass)
    (so_seq (so_asg (eo_lst (ao_cons (eo_un op_newP eo_var) (ao_cons (eo_un op_newP eo_var) (ao_cons (eo_un op_newP eo_var) (ao_cons (eo_un op_newP eo_var) ao_nil))))) go_set)
    (so_seq (so_if (to_e (eo_bin op_ne (eo_lst (ao_cons (eo_un op_row (eo_bin op_ix eo_var eo_c)) (ao_cons (eo_un op_row (eo_bin op_ix eo_var eo_c)) (ao_cons (eo_un op_row (eo_bin op_ix eo_var eo_c)) (ao_cons (eo_un op_row (eo_bin op_ix eo_var eo_c)) ao_nil))))) (eo_bin op_mul (eo_lst (ao_cons eo_fz ao_nil)) eo_c)))
    (so_ret eo_c)
    so_pass)
    (so_seq (so_if (to_e (eo_bin op_ne (eo_comp (io_r1 eo_c) go_set to_yes (eo_fn pk_pg_raised_k00 (ao_cons eo_var (ao_cons eo_var ao_nil))) (by decide) (by decide)) (eo_bin op_mul (eo_lst (ao_cons eo_fz ao_nil)) eo_c)))
    (so_ret eo_c)
    so_pass)
    (so_if (to_e (eo_bin (op_in false) eo_c (eo_fn pk_pg_kinds_k00 (ao_cons (eo_un op_newE eo_var) ao_nil))))
    (so_ret eo_c)
    so_pass))))))))))))))) (by decide))
    (so_ret eo_c))) (by decide)

end Pl

namespace Zl.K00
open PySem PySem.Spec L2 Zl
open PyProof.Rows hiding St
open Pl

abbrev topS (i : Nat) : Stmt := PySem.Challenge.pw_lateids_k00_errors.main.body.getD i (.Pass ⟨0, 0, 0, 0⟩)
structure Txt (K : PySem.W.Frag) (mg : Str → Option Value) : Prop where
  b_isinstance : mg "isinstance" = none
  b_abs : mg "abs" = none
  b_len : mg "len" = none
  b_max : mg "max" = none
  b_ValueError : mg "ValueError" = none
  b_enumerate : mg "enumerate" = none
  b_min : mg "min" = none
  b_range : mg "range" = none
  g__law_draw : mg "_law_draw" = some (.ref (He.ga K "_law_draw"))
  k__law_draw : PySem.W.keepIn K (.ref (He.ga K "_law_draw")) = true
  g__law_kinds : mg "_law_kinds" = some (.ref (He.ga K "_law_kinds"))
  k__law_kinds : PySem.W.keepIn K (.ref (He.ga K "_law_kinds")) = true
  g__law_pool : mg "_law_pool" = some (.ref (He.ga K "_law_pool"))
  k__law_pool : PySem.W.keepIn K (.ref (He.ga K "_law_pool")) = true
  g__law_raised : mg "_law_raised" = some (.ref (He.ga K "_law_raised"))
  k__law_raised : PySem.W.keepIn K (.ref (He.ga K "_law_raised")) = true
  exc : ExcT K mg [0, 1, 2, 3, 4, 5, 6, 7, 8, 9, 10, 11, 12, 13, 14, 15, 16, 17, 18, 19, 20] 
abbrev s__law_draw : Stmt := topS 24
abbrev FnP__law_draw (K : PySem.W.Frag) (fd : FuncData) : Prop := FunD K "_law_draw" "_law_draw" (defArgs s__law_draw) (defBody s__law_draw) (defScope s__law_draw) [] [] (He.ga K "_law_draw") fd
theorem sc__law_draw : FnScope ["_law_pool_here", "_law_many", "_law_drawn", "_law_mixed"] ["_law_pool_here", "_law_many"] (defScope s__law_draw) := ⟨rfl, rfl, rfl, by decide +kernel, rfl, by decide +kernel, by decide +kernel⟩
abbrev s__law_kinds : Stmt := topS 26
abbrev FnP__law_kinds (K : PySem.W.Frag) (fd : FuncData) : Prop := FunD K "_law_kinds" "_law_kinds" (defArgs s__law_kinds) (defBody s__law_kinds) (defScope s__law_kinds) [] [] (He.ga K "_law_kinds") fd
theorem sc__law_kinds : FnScope ["_law_e", "_law_some"] ["_law_e"] (defScope s__law_kinds) := ⟨rfl, rfl, rfl, by decide +kernel, rfl, by decide +kernel, by decide +kernel⟩
abbrev s__law_pool : Stmt := topS 23
abbrev FnP__law_pool (K : PySem.W.Frag) (fd : FuncData) : Prop := FunD K "_law_pool" "_law_pool" (defArgs s__law_pool) (defBody s__law_pool) (defScope s__law_pool) [] [] (He.ga K "_law_pool") fd
theorem sc__law_pool : FnScope ["_law_script", "_law_at", "_law_cell"] ["_law_script", "_law_at"] (defScope s__law_pool) := ⟨rfl, rfl, rfl, by decide +kernel, rfl, by decide +kernel, by decide +kernel⟩
abbrev s__law_raised : Stmt := topS 27
abbrev FnP__law_raised (K : PySem.W.Frag) (fd : FuncData) : Prop := FunD K "_law_raised" "_law_raised" (defArgs s__law_raised) (defBody s__law_raised) (defScope s__law_raised) [] [] (He.ga K "_law_raised") fd
theorem sc__law_raised : FnScope ["_law_way", "_law_thing", "_law_found", "_law_e"] ["_law_way", "_law_thing"] (defScope s__law_raised) := ⟨rfl, rfl, rfl, by decide +kernel, rfl, by decide +kernel, by decide +kernel⟩
abbrev s_law : Stmt := topS 28
abbrev FnP_law (K : PySem.W.Frag) (fd : FuncData) : Prop := FunD K "law" "law" (defArgs s_law) (defBody s_law) (defScope s_law) [] [] (He.ga K "law") fd
theorem sc_law : FnScope ["_law_script", "_law_at", "_law_pool_here", "_law_word", "_law_made", "_law_thing", "_law_spot", "_law_e", "_law_again", "_law_place", "_law_way"] ["_law_script"] (defScope s_law) := ⟨rfl, rfl, rfl, by decide +kernel, rfl, by decide +kernel, by decide +kernel⟩
section
variable {P : Program} {w : World} {K : PySem.W.Frag} {mg : Str → Option Value} {base : Heap}
theorem ok__law_draw {fd : FuncData} (F : FnP__law_draw K fd) (T : Txt K mg) : FnZ P w K mg base 1 (He.ga K "_law_draw") fd ["_law_pool_here", "_law_many"] hg_draw_k00 :=
  FunD.okZ F sc__law_draw fun cdv A outer s H hr hG =>
    (ss_cons (s_if (st_cmp z_gt (se_ix z_ix (se_var (pv 0)) (se_c pe_int) (fun _ _ => rfl)) (se_c pe_int) (nomark _))
    (ss_cons (s_set (i := 2) sc__law_draw.nd rfl (by first | exact .inl rfl | exact .inr rfl) (se_bin z_mod (se_ix z_ix (se_var (pv 0)) (se_c pe_int) (fun _ _ => rfl)) (se_var (pv 1))))
    (ss_cons (s_asg (se_bin z_div (se_ix z_ix (se_var (pv 0)) (se_c pe_int) (fun _ _ => rfl)) (se_var (pv 1))) (g_put z_putL (se_var (pv 0)) (se_c pe_int)))
    (ss_one (s_ret (se_var (pv 2))))))
    ss_nil)
    (ss_cons (s_asg (se_bin z_add (se_ix z_ix (se_var (pv 0)) (se_c pe_int) (fun _ _ => rfl)) (se_c pe_int)) (g_put z_putL (se_var (pv 0)) (se_c pe_int)))
    (ss_cons (s_set (i := 3) sc__law_draw.nd rfl (by first | exact .inl rfl | exact .inr rfl) (se_bin z_mod (se_bin z_pow (se_bin z_add (se_ix z_ix (se_var (pv 0)) (se_c pe_int) (fun _ _ => rfl)) (se_bin z_mul (se_c pe_int) (se_ix z_ix (se_var (pv 0)) (se_c pe_int) (fun _ _ => rfl)))) (se_c pe_int)) (se_c pe_int)))
    (ss_cons (s_set (i := 3) sc__law_draw.nd rfl (by first | exact .inl rfl | exact .inr rfl) (se_bin z_mod (se_bin z_pow (se_bin z_add (se_var (pv 3)) (se_bin z_mul (se_c pe_int) (se_ix z_ix (se_var (pv 0)) (se_c pe_int) (fun _ _ => rfl)))) (se_c pe_int)) (se_c pe_int)))
    (ss_one (s_ret (se_bin z_mod (se_bin z_div (se_var (pv 3)) (se_c pe_int)) (se_var (pv 1)))))))))
theorem ok__law_kinds {fd : FuncData} (F : FnP__law_kinds K fd) (T : Txt K mg) : FnZ P w K mg base 1 (He.ga K "_law_kinds") fd ["_law_e"] hg_kinds_k00 :=
  FunD.okZ F sc__law_kinds fun cdv A outer s H hr hG =>
    (ss_cons (s_set (i := 1) sc__law_kinds.nd rfl (by first | exact .inl rfl | exact .inr rfl) (se_lst (sa_cons (se_isE (v := .ref (He.ga K (errC 0))) (cv := .ref (He.ga K (errC 0))) rfl T.b_isinstance (by exact pa_cons (se_var (pv 0)) (pa_cons (pe_glob rfl (T.exc.gl 0 (by decide)) rfl) pa_nil)) (fun _ r => r) (T.exc.isJ1 (by decide))) (sa_cons (se_isE (v := .ref (He.ga K (errC 1))) (cv := .ref (He.ga K (errC 1))) rfl T.b_isinstance (by exact pa_cons (se_var (pv 0)) (pa_cons (pe_glob rfl (T.exc.gl 1 (by decide)) rfl) pa_nil)) (fun _ r => r) (T.exc.isJ1 (by decide))) (sa_cons (se_isE (v := .ref (He.ga K (errC 2))) (cv := .ref (He.ga K (errC 2))) rfl T.b_isinstance (by exact pa_cons (se_var (pv 0)) (pa_cons (pe_glob rfl (T.exc.gl 2 (by decide)) rfl) pa_nil)) (fun _ r => r) (T.exc.isJ1 (by decide))) sa_nil)))))
    (ss_cons (s_set (i := 1) sc__law_kinds.nd rfl (by first | exact .inl rfl | exact .inr rfl) (se_bin z_add (se_var (pv 1)) (se_lst (sa_cons (se_isE (v := .ref (He.ga K (errC 3))) (cv := .ref (He.ga K (errC 3))) rfl T.b_isinstance (by exact pa_cons (se_var (pv 0)) (pa_cons (pe_glob rfl (T.exc.gl 3 (by decide)) rfl) pa_nil)) (fun _ r => r) (T.exc.isJ1 (by decide))) (sa_cons (se_isE (v := .ref (He.ga K (errC 4))) (cv := .ref (He.ga K (errC 4))) rfl T.b_isinstance (by exact pa_cons (se_var (pv 0)) (pa_cons (pe_glob rfl (T.exc.gl 4 (by decide)) rfl) pa_nil)) (fun _ r => r) (T.exc.isJ1 (by decide))) (sa_cons (se_isE (v := .ref (He.ga K (errC 5))) (cv := .ref (He.ga K (errC 5))) rfl T.b_isinstance (by exact pa_cons (se_var (pv 0)) (pa_cons (pe_glob rfl (T.exc.gl 5 (by decide)) rfl) pa_nil)) (fun _ r => r) (T.exc.isJ1 (by decide))) sa_nil))))))
    (ss_cons (s_set (i := 1) sc__law_kinds.nd rfl (by first | exact .inl rfl | exact .inr rfl) (se_bin z_add (se_var (pv 1)) (se_lst (sa_cons (se_isE (v := .ref (He.ga K (errC 6))) (cv := .ref (He.ga K (errC 6))) rfl T.b_isinstance (by exact pa_cons (se_var (pv 0)) (pa_cons (pe_glob rfl (T.exc.gl 6 (by decide)) rfl) pa_nil)) (fun _ r => r) (T.exc.isJ1 (by decide))) (sa_cons (se_isE (v := .ref (He.ga K (errC 7))) (cv := .ref (He.ga K (errC 7))) rfl T.b_isinstance (by exact pa_cons (se_var (pv 0)) (pa_cons (pe_glob rfl (T.exc.gl 7 (by decide)) rfl) pa_nil)) (fun _ r => r) (T.exc.isJ1 (by decide))) (sa_cons (se_isE (v := .ref (He.ga K (errC 8))) (cv := .ref (He.ga K (errC 8))) rfl T.b_isinstance (by exact pa_cons (se_var (pv 0)) (pa_cons (pe_glob rfl (T.exc.gl 8 (by decide)) rfl) pa_nil)) (fun _ r => r) (T.exc.isJ1 (by decide))) sa_nil))))))
    (ss_cons (s_set (i := 1) sc__law_kinds.nd rfl (by first | exact .inl rfl | exact .inr rfl) (se_bin z_add (se_var (pv 1)) (se_lst (sa_cons (se_isE (v := .ref (He.ga K (errC 9))) (cv := .ref (He.ga K (errC 9))) rfl T.b_isinstance (by exact pa_cons (se_var (pv 0)) (pa_cons (pe_glob rfl (T.exc.gl 9 (by decide)) rfl) pa_nil)) (fun _ r => r) (T.exc.isJ1 (by decide))) (sa_cons (se_isE (v := .ref (He.ga K (errC 10))) (cv := .ref (He.ga K (errC 10))) rfl T.b_isinstance (by exact pa_cons (se_var (pv 0)) (pa_cons (pe_glob rfl (T.exc.gl 10 (by decide)) rfl) pa_nil)) (fun _ r => r) (T.exc.isJ1 (by decide))) (sa_cons (se_isE (v := .ref (He.ga K (errC 11))) (cv := .ref (He.ga K (errC 11))) rfl T.b_isinstance (by exact pa_cons (se_var (pv 0)) (pa_cons (pe_glob rfl (T.exc.gl 11 (by decide)) rfl) pa_nil)) (fun _ r => r) (T.exc.isJ1 (by decide))) sa_nil))))))
    (ss_cons (s_set (i := 1) sc__law_kinds.nd rfl (by first | exact .inl rfl | exact .inr rfl) (se_bin z_add (se_var (pv 1)) (se_lst (sa_cons (se_isE (v := .ref (He.ga K (errC 12))) (cv := .ref (He.ga K (errC 12))) rfl T.b_isinstance (by exact pa_cons (se_var (pv 0)) (pa_cons (pe_glob rfl (T.exc.gl 12 (by decide)) rfl) pa_nil)) (fun _ r => r) (T.exc.isJ1 (by decide))) (sa_cons (se_isE (v := .ref (He.ga K (errC 13))) (cv := .ref (He.ga K (errC 13))) rfl T.b_isinstance (by exact pa_cons (se_var (pv 0)) (pa_cons (pe_glob rfl (T.exc.gl 13 (by decide)) rfl) pa_nil)) (fun _ r => r) (T.exc.isJ1 (by decide))) (sa_cons (se_isE (v := .ref (He.ga K (errC 14))) (cv := .ref (He.ga K (errC 14))) rfl T.b_isinstance (by exact pa_cons (se_var (pv 0)) (pa_cons (pe_glob rfl (T.exc.gl 14 (by decide)) rfl) pa_nil)) (fun _ r => r) (T.exc.isJ1 (by decide))) sa_nil))))))
    (ss_cons (s_set (i := 1) sc__law_kinds.nd rfl (by first | exact .inl rfl | exact .inr rfl) (se_bin z_add (se_var (pv 1)) (se_lst (sa_cons (se_isE (v := .ref (He.ga K (errC 15))) (cv := .ref (He.ga K (errC 15))) rfl T.b_isinstance (by exact pa_cons (se_var (pv 0)) (pa_cons (pe_glob rfl (T.exc.gl 15 (by decide)) rfl) pa_nil)) (fun _ r => r) (T.exc.isJ1 (by decide))) (sa_cons (se_isE (v := .ref (He.ga K (errC 16))) (cv := .ref (He.ga K (errC 16))) rfl T.b_isinstance (by exact pa_cons (se_var (pv 0)) (pa_cons (pe_glob rfl (T.exc.gl 16 (by decide)) rfl) pa_nil)) (fun _ r => r) (T.exc.isJ1 (by decide))) (sa_cons (se_isE (v := .ref (He.ga K (errC 17))) (cv := .ref (He.ga K (errC 17))) rfl T.b_isinstance (by exact pa_cons (se_var (pv 0)) (pa_cons (pe_glob rfl (T.exc.gl 17 (by decide)) rfl) pa_nil)) (fun _ r => r) (T.exc.isJ1 (by decide))) sa_nil))))))
    (ss_one (s_ret (se_bin z_add (se_var (pv 1)) (se_lst (sa_cons (se_isE (v := .ref (He.ga K (errC 18))) (cv := .ref (He.ga K (errC 18))) rfl T.b_isinstance (by exact pa_cons (se_var (pv 0)) (pa_cons (pe_glob rfl (T.exc.gl 18 (by decide)) rfl) pa_nil)) (fun _ r => r) (T.exc.isJ1 (by decide))) (sa_cons (se_isE (v := .ref (He.ga K (errC 19))) (cv := .ref (He.ga K (errC 19))) rfl T.b_isinstance (by exact pa_cons (se_var (pv 0)) (pa_cons (pe_glob rfl (T.exc.gl 19 (by decide)) rfl) pa_nil)) (fun _ r => r) (T.exc.isJ1 (by decide))) sa_nil))))))))))))
theorem ok__law_pool {fd : FuncData} (F : FnP__law_pool K fd) (T : Txt K mg) : FnZ P w K mg base 1 (He.ga K "_law_pool") fd ["_law_script", "_law_at"] hg_pool :=
  FunD.okZ F sc__law_pool fun cdv A outer s H hr hG =>
    (ss_cons (s_set (i := 2) sc__law_pool.nd rfl (by first | exact .inl rfl | exact .inr rfl) (se_ifE (st_cmp z_lt (se_var (pv 1)) (se_callB z_len rfl T.b_len (by decide +kernel) (sa_cons (se_var (pv 0)) sa_nil)) (nomark _)) (se_ix z_ix (se_var (pv 0)) (se_var (pv 1)) (fun _ _ => rfl)) (se_c pe_int)))
    (ss_one (s_ret (se_lst (sa_cons (se_callB (z_max rfl) rfl T.b_max (by decide +kernel) (sa_cons (se_c pe_int) (sa_cons (se_bin z_sub (se_callB z_abs rfl T.b_abs (by decide +kernel) (sa_cons (se_var (pv 2)) sa_nil)) (k_pow (k := 1000000000000000000) (se_c pe_int) (se_c pe_int) (by decide +kernel) (by decide) (by decide) (by decide +kernel))) sa_nil))) (sa_cons (se_bin z_add (se_bin z_mod (se_var (pv 2)) (se_c pe_int)) (se_bin z_mul (se_c pe_int) (se_bin z_add (se_var (pv 1)) (se_c pe_int)))) (sa_cons (se_c pe_int) sa_nil)))))))
theorem ok__law_raised {fd : FuncData} {fd_y16 : FuncData} {fd_y17 : FuncData} {fd_y18 : FuncData} {fd_y19 : FuncData} (F : FnP__law_raised K fd) (T : Txt K mg) (y_16 : FnOk P w K mg base CX0 1 (He.ma K (He.ga K (errC 16)) "__init__") fd_y16 ["self", "row"] (spI (He.ga K (errC 16)) "row")) (z_16 : Binds K fd_y16 ["self", "row"] []) (y_17 : FnOk P w K mg base CX0 1 (He.ma K (He.ga K (errC 17)) "__init__") fd_y17 ["self", "reader"] (spI (He.ga K (errC 17)) "reader")) (z_17 : Binds K fd_y17 ["self", "reader"] []) (y_18 : FnOk P w K mg base CX0 1 (He.ma K (He.ga K (errC 18)) "__init__") fd_y18 ["self", "position"] (spI (He.ga K (errC 18)) "position")) (z_18 : Binds K fd_y18 ["self", "position"] []) (y_19 : FnOk P w K mg base CX0 1 (He.ma K (He.ga K (errC 19)) "__init__") fd_y19 ["self", "limit"] (spI (He.ga K (errC 19)) "limit")) (z_19 : Binds K fd_y19 ["self", "limit"] []) : FnZ P w K mg base 4 (He.ga K "_law_raised") fd ["_law_way", "_law_thing"] hg_raised_k00 :=
  FunD.okZ F sc__law_raised fun cdv A outer s H hr hG =>
    (ss_cons (s_set (i := 2) sc__law_raised.nd rfl (by first | exact .inl rfl | exact .inr rfl) (se_c pe_str))
    (ss_cons (s_tryM (i := 3) rfl rfl rfl sc__law_raised.nd rfl rfl (T.exc.manyOk [16, 17, 18, 19] (by decide) rfl) (fun W pn xe hW tk po =>
    (sbs_cons (sb_if (st_cmp (z_eq (Room.units hr)) (se_var (pv 0)) (se_c pe_int) (nomark _))
    (sbs_one (sb_raiseP (k := 16) (by decide) (by decide) tk hW (T.exc.pay _ (by decide : (16 : Nat) ∈ ([0, 1, 2, 3, 4, 5, 6, 7, 8, 9, 10, 11, 12, 13, 14, 15, 16, 17, 18, 19, 20] : List Nat)) (by decide) (by decide)) rfl y_16 rfl (hr.mono (by decide)) z_16 rfl (T.exc.gl 16 (by decide)) (se_var (pv 1))))
    sbs_nil)
    (sbs_cons (sb_if (st_cmp (z_eq (Room.units hr)) (se_var (pv 0)) (se_c pe_int) (nomark _))
    (sbs_one (sb_raiseP (k := 17) (by decide) (by decide) tk hW (T.exc.pay _ (by decide : (17 : Nat) ∈ ([0, 1, 2, 3, 4, 5, 6, 7, 8, 9, 10, 11, 12, 13, 14, 15, 16, 17, 18, 19, 20] : List Nat)) (by decide) (by decide)) rfl y_17 rfl (hr.mono (by decide)) z_17 rfl (T.exc.gl 17 (by decide)) (se_var (pv 1))))
    sbs_nil)
    (sbs_cons (sb_if (st_cmp (z_eq (Room.units hr)) (se_var (pv 0)) (se_c pe_int) (nomark _))
    (sbs_one (sb_raiseP (k := 18) (by decide) (by decide) tk hW (T.exc.pay _ (by decide : (18 : Nat) ∈ ([0, 1, 2, 3, 4, 5, 6, 7, 8, 9, 10, 11, 12, 13, 14, 15, 16, 17, 18, 19, 20] : List Nat)) (by decide) (by decide)) rfl y_18 rfl (hr.mono (by decide)) z_18 rfl (T.exc.gl 18 (by decide)) (se_var (pv 1))))
    sbs_nil)
    (sbs_one (sb_raiseP (k := 19) (by decide) (by decide) tk hW (T.exc.pay _ (by decide : (19 : Nat) ∈ ([0, 1, 2, 3, 4, 5, 6, 7, 8, 9, 10, 11, 12, 13, 14, 15, 16, 17, 18, 19, 20] : List Nat)) (by decide) (by decide)) rfl y_19 rfl (hr.mono (by decide)) z_19 rfl (T.exc.gl 19 (by decide)) (se_var (pv 1)))))))) (.cons rfl (by decide) (T.exc.gl 16 (by decide)) (fun a => have hr := RoomQ.mark (RoomQ.of hr) (some (Value.ref a));
    (ssA (ss_one (s_set (i := 2) sc__law_raised.nd rfl (by first | exact .inl rfl | exact .inr rfl) (se_row T.exc (se_var (pv 3))))))) (.cons rfl (by decide) (T.exc.gl 17 (by decide)) (fun a => have hr := RoomQ.mark (RoomQ.of hr) (some (Value.ref a));
    (ssA (ss_one (s_set (i := 2) sc__law_raised.nd rfl (by first | exact .inl rfl | exact .inr rfl) (se_row T.exc (se_var (pv 3))))))) (.cons rfl (by decide) (T.exc.gl 18 (by decide)) (fun a => have hr := RoomQ.mark (RoomQ.of hr) (some (Value.ref a));
    (ssA (ss_one (s_set (i := 2) sc__law_raised.nd rfl (by first | exact .inl rfl | exact .inr rfl) (se_row T.exc (se_var (pv 3))))))) (.cons rfl (by decide) (T.exc.gl 19 (by decide)) (fun a => have hr := RoomQ.mark (RoomQ.of hr) (some (Value.ref a));
    (ssA (ss_one (s_set (i := 2) sc__law_raised.nd rfl (by first | exact .inl rfl | exact .inr rfl) (se_row T.exc (se_var (pv 3))))))) .nil)))))
    (ss_one (s_ret (se_var (pv 2))))))
theorem ok_law {fd : FuncData} {fd__law_draw : FuncData} {ds__law_draw_0 : List Value} {fd__law_kinds : FuncData} {ds__law_kinds_0 : List Value} {fd__law_pool : FuncData} {ds__law_pool_0 : List Value} {fd__law_raised : FuncData} {ds__law_raised_0 : List Value} {fd_y16 : FuncData} {fd_y17 : FuncData} {fd_y18 : FuncData} {fd_y19 : FuncData} (F : FnP_law K fd) (T : Txt K mg) (d__law_draw : FnZ P w K mg base 1 (He.ga K "_law_draw") fd__law_draw ["_law_pool_here", "_law_many"] hg_draw_k00) (b__law_draw_0 : Binds K fd__law_draw ["_law_pool_here", "_law_many"] ds__law_draw_0) (v__law_draw_0 : Vals [] ds__law_draw_0) (d__law_kinds : FnZ P w K mg base 1 (He.ga K "_law_kinds") fd__law_kinds ["_law_e"] hg_kinds_k00) (b__law_kinds_0 : Binds K fd__law_kinds ["_law_e"] ds__law_kinds_0) (v__law_kinds_0 : Vals [] ds__law_kinds_0) (d__law_pool : FnZ P w K mg base 1 (He.ga K "_law_pool") fd__law_pool ["_law_script", "_law_at"] hg_pool) (b__law_pool_0 : Binds K fd__law_pool ["_law_script", "_law_at"] ds__law_pool_0) (v__law_pool_0 : Vals [] ds__law_pool_0) (d__law_raised : FnZ P w K mg base 4 (He.ga K "_law_raised") fd__law_raised ["_law_way", "_law_thing"] hg_raised_k00) (b__law_raised_0 : Binds K fd__law_raised ["_law_way", "_law_thing"] ds__law_raised_0) (v__law_raised_0 : Vals [] ds__law_raised_0) (y_16 : FnOk P w K mg base CX0 1 (He.ma K (He.ga K (errC 16)) "__init__") fd_y16 ["self", "row"] (spI (He.ga K (errC 16)) "row")) (z_16 : Binds K fd_y16 ["self", "row"] []) (y_17 : FnOk P w K mg base CX0 1 (He.ma K (He.ga K (errC 17)) "__init__") fd_y17 ["self", "reader"] (spI (He.ga K (errC 17)) "reader")) (z_17 : Binds K fd_y17 ["self", "reader"] []) (y_18 : FnOk P w K mg base CX0 1 (He.ma K (He.ga K (errC 18)) "__init__") fd_y18 ["self", "position"] (spI (He.ga K (errC 18)) "position")) (z_18 : Binds K fd_y18 ["self", "position"] []) (y_19 : FnOk P w K mg base CX0 1 (He.ma K (He.ga K (errC 19)) "__init__") fd_y19 ["self", "limit"] (spI (He.ga K (errC 19)) "limit")) (z_19 : Binds K fd_y19 ["self", "limit"] []) : FnZ P w K mg base 5 (He.ga K "law") fd ["_law_script"] hg_law_k00 :=
  FunD.okZ F sc_law fun cdv A outer s H hr hG =>
    (ss_cons (s_for (n := fuelN) PassesOwn.never rfl (i_range1 rfl T.b_range (sa_cons (se_callB (z_max rfl) rfl T.b_max (by decide +kernel) (sa_cons (se_c pe_int) (sa_cons (se_callB (z_min rfl) rfl T.b_min (by decide +kernel) (sa_cons (se_c pe_int) (sa_cons (se_callB z_len rfl T.b_len (by decide +kernel) (sa_cons (se_var (pv 0)) sa_nil)) sa_nil))) sa_nil))) sa_nil)) (g_set (pg_name (i := 1) sc_law.nd rfl (by first | exact .inl rfl | exact .inr rfl)))
    (ss_cons (s_set (i := 2) sc_law.nd rfl (by first | exact .inl rfl | exact .inr rfl) (se_fn d__law_pool (hr.mono (by decide)) hG rfl T.g__law_pool T.k__law_pool b__law_pool_0 v__law_pool_0 rfl (sa_cons (se_var (pv 0)) (sa_cons (se_var (pv 1)) sa_nil)) ((al_cons (al_cons al_nil)).to rfl)))
    (ss_cons (s_set (i := 3) sc_law.nd rfl (by first | exact .inl rfl | exact .inr rfl) (se_ix z_ix (se_lst (sa_cons (se_c pe_str) (sa_cons (se_c pe_str) (sa_cons (se_c pe_str) (sa_cons (se_bin z_mulS (se_c pe_str) (se_c pe_int)) sa_nil))))) (se_fn d__law_draw (hr.mono (by decide)) hG rfl T.g__law_draw T.k__law_draw b__law_draw_0 v__law_draw_0 rfl (sa_cons (se_var (pv 2)) (sa_cons (se_c pe_int) sa_nil)) ((al_cons (al_cons al_nil)).to rfl)) (fun _ _ => rfl)))
    (ss_cons (s_set (i := 4) sc_law.nd rfl (by first | exact .inl rfl | exact .inr rfl) (se_lst (sa_cons (se_newE (k := 0) (by decide) (by decide) (T.exc.exc _ (by decide : (0 : Nat) ∈ ([0, 1, 2, 3, 4, 5, 6, 7, 8, 9, 10, 11, 12, 13, 14, 15, 16, 17, 18, 19, 20] : List Nat)) (by decide)) (T.exc.gl 0 (by decide)) (T.exc.kp _ (by decide : (0 : Nat) ∈ ([0, 1, 2, 3, 4, 5, 6, 7, 8, 9, 10, 11, 12, 13, 14, 15, 16, 17, 18, 19, 20] : List Nat))) (raises_own (T.exc.sub _ (by decide : (0 : Nat) ∈ ([0, 1, 2, 3, 4, 5, 6, 7, 8, 9, 10, 11, 12, 13, 14, 15, 16, 17, 18, 19, 20] : List Nat))) (T.exc.ty _ (by decide : (0 : Nat) ∈ ([0, 1, 2, 3, 4, 5, 6, 7, 8, 9, 10, 11, 12, 13, 14, 15, 16, 17, 18, 19, 20] : List Nat)))) rfl (se_var (pv 3))) (sa_cons (se_newE (k := 1) (by decide) (by decide) (T.exc.exc _ (by decide : (1 : Nat) ∈ ([0, 1, 2, 3, 4, 5, 6, 7, 8, 9, 10, 11, 12, 13, 14, 15, 16, 17, 18, 19, 20] : List Nat)) (by decide)) (T.exc.gl 1 (by decide)) (T.exc.kp _ (by decide : (1 : Nat) ∈ ([0, 1, 2, 3, 4, 5, 6, 7, 8, 9, 10, 11, 12, 13, 14, 15, 16, 17, 18, 19, 20] : List Nat))) (raises_own (T.exc.sub _ (by decide : (1 : Nat) ∈ ([0, 1, 2, 3, 4, 5, 6, 7, 8, 9, 10, 11, 12, 13, 14, 15, 16, 17, 18, 19, 20] : List Nat))) (T.exc.ty _ (by decide : (1 : Nat) ∈ ([0, 1, 2, 3, 4, 5, 6, 7, 8, 9, 10, 11, 12, 13, 14, 15, 16, 17, 18, 19, 20] : List Nat)))) rfl (se_var (pv 3))) (sa_cons (se_newE (k := 2) (by decide) (by decide) (T.exc.exc _ (by decide : (2 : Nat) ∈ ([0, 1, 2, 3, 4, 5, 6, 7, 8, 9, 10, 11, 12, 13, 14, 15, 16, 17, 18, 19, 20] : List Nat)) (by decide)) (T.exc.gl 2 (by decide)) (T.exc.kp _ (by decide : (2 : Nat) ∈ ([0, 1, 2, 3, 4, 5, 6, 7, 8, 9, 10, 11, 12, 13, 14, 15, 16, 17, 18, 19, 20] : List Nat))) (raises_own (T.exc.sub _ (by decide : (2 : Nat) ∈ ([0, 1, 2, 3, 4, 5, 6, 7, 8, 9, 10, 11, 12, 13, 14, 15, 16, 17, 18, 19, 20] : List Nat))) (T.exc.ty _ (by decide : (2 : Nat) ∈ ([0, 1, 2, 3, 4, 5, 6, 7, 8, 9, 10, 11, 12, 13, 14, 15, 16, 17, 18, 19, 20] : List Nat)))) rfl (se_var (pv 3))) (sa_cons (se_newE (k := 3) (by decide) (by decide) (T.exc.exc _ (by decide : (3 : Nat) ∈ ([0, 1, 2, 3, 4, 5, 6, 7, 8, 9, 10, 11, 12, 13, 14, 15, 16, 17, 18, 19, 20] : List Nat)) (by decide)) (T.exc.gl 3 (by decide)) (T.exc.kp _ (by decide : (3 : Nat) ∈ ([0, 1, 2, 3, 4, 5, 6, 7, 8, 9, 10, 11, 12, 13, 14, 15, 16, 17, 18, 19, 20] : List Nat))) (raises_own (T.exc.sub _ (by decide : (3 : Nat) ∈ ([0, 1, 2, 3, 4, 5, 6, 7, 8, 9, 10, 11, 12, 13, 14, 15, 16, 17, 18, 19, 20] : List Nat))) (T.exc.ty _ (by decide : (3 : Nat) ∈ ([0, 1, 2, 3, 4, 5, 6, 7, 8, 9, 10, 11, 12, 13, 14, 15, 16, 17, 18, 19, 20] : List Nat)))) rfl (se_var (pv 3))) sa_nil))))))
    (ss_cons (s_set (i := 4) sc_law.nd rfl (by first | exact .inl rfl | exact .inr rfl) (se_bin z_add (se_var (pv 4)) (se_lst (sa_cons (se_newE (k := 4) (by decide) (by decide) (T.exc.exc _ (by decide : (4 : Nat) ∈ ([0, 1, 2, 3, 4, 5, 6, 7, 8, 9, 10, 11, 12, 13, 14, 15, 16, 17, 18, 19, 20] : List Nat)) (by decide)) (T.exc.gl 4 (by decide)) (T.exc.kp _ (by decide : (4 : Nat) ∈ ([0, 1, 2, 3, 4, 5, 6, 7, 8, 9, 10, 11, 12, 13, 14, 15, 16, 17, 18, 19, 20] : List Nat))) (raises_own (T.exc.sub _ (by decide : (4 : Nat) ∈ ([0, 1, 2, 3, 4, 5, 6, 7, 8, 9, 10, 11, 12, 13, 14, 15, 16, 17, 18, 19, 20] : List Nat))) (T.exc.ty _ (by decide : (4 : Nat) ∈ ([0, 1, 2, 3, 4, 5, 6, 7, 8, 9, 10, 11, 12, 13, 14, 15, 16, 17, 18, 19, 20] : List Nat)))) rfl (se_var (pv 3))) (sa_cons (se_newE (k := 5) (by decide) (by decide) (T.exc.exc _ (by decide : (5 : Nat) ∈ ([0, 1, 2, 3, 4, 5, 6, 7, 8, 9, 10, 11, 12, 13, 14, 15, 16, 17, 18, 19, 20] : List Nat)) (by decide)) (T.exc.gl 5 (by decide)) (T.exc.kp _ (by decide : (5 : Nat) ∈ ([0, 1, 2, 3, 4, 5, 6, 7, 8, 9, 10, 11, 12, 13, 14, 15, 16, 17, 18, 19, 20] : List Nat))) (raises_own (T.exc.sub _ (by decide : (5 : Nat) ∈ ([0, 1, 2, 3, 4, 5, 6, 7, 8, 9, 10, 11, 12, 13, 14, 15, 16, 17, 18, 19, 20] : List Nat))) (T.exc.ty _ (by decide : (5 : Nat) ∈ ([0, 1, 2, 3, 4, 5, 6, 7, 8, 9, 10, 11, 12, 13, 14, 15, 16, 17, 18, 19, 20] : List Nat)))) rfl (se_var (pv 3))) (sa_cons (se_newE (k := 6) (by decide) (by decide) (T.exc.exc _ (by decide : (6 : Nat) ∈ ([0, 1, 2, 3, 4, 5, 6, 7, 8, 9, 10, 11, 12, 13, 14, 15, 16, 17, 18, 19, 20] : List Nat)) (by decide)) (T.exc.gl 6 (by decide)) (T.exc.kp _ (by decide : (6 : Nat) ∈ ([0, 1, 2, 3, 4, 5, 6, 7, 8, 9, 10, 11, 12, 13, 14, 15, 16, 17, 18, 19, 20] : List Nat))) (raises_own (T.exc.sub _ (by decide : (6 : Nat) ∈ ([0, 1, 2, 3, 4, 5, 6, 7, 8, 9, 10, 11, 12, 13, 14, 15, 16, 17, 18, 19, 20] : List Nat))) (T.exc.ty _ (by decide : (6 : Nat) ∈ ([0, 1, 2, 3, 4, 5, 6, 7, 8, 9, 10, 11, 12, 13, 14, 15, 16, 17, 18, 19, 20] : List Nat)))) rfl (se_var (pv 3))) (sa_cons (se_newE (k := 7) (by decide) (by decide) (T.exc.exc _ (by decide : (7 : Nat) ∈ ([0, 1, 2, 3, 4, 5, 6, 7, 8, 9, 10, 11, 12, 13, 14, 15, 16, 17, 18, 19, 20] : List Nat)) (by decide)) (T.exc.gl 7 (by decide)) (T.exc.kp _ (by decide : (7 : Nat) ∈ ([0, 1, 2, 3, 4, 5, 6, 7, 8, 9, 10, 11, 12, 13, 14, 15, 16, 17, 18, 19, 20] : List Nat))) (raises_own (T.exc.sub _ (by decide : (7 : Nat) ∈ ([0, 1, 2, 3, 4, 5, 6, 7, 8, 9, 10, 11, 12, 13, 14, 15, 16, 17, 18, 19, 20] : List Nat))) (T.exc.ty _ (by decide : (7 : Nat) ∈ ([0, 1, 2, 3, 4, 5, 6, 7, 8, 9, 10, 11, 12, 13, 14, 15, 16, 17, 18, 19, 20] : List Nat)))) rfl (se_var (pv 3))) (sa_cons (se_newE (k := 8) (by decide) (by decide) (T.exc.exc _ (by decide : (8 : Nat) ∈ ([0, 1, 2, 3, 4, 5, 6, 7, 8, 9, 10, 11, 12, 13, 14, 15, 16, 17, 18, 19, 20] : List Nat)) (by decide)) (T.exc.gl 8 (by decide)) (T.exc.kp _ (by decide : (8 : Nat) ∈ ([0, 1, 2, 3, 4, 5, 6, 7, 8, 9, 10, 11, 12, 13, 14, 15, 16, 17, 18, 19, 20] : List Nat))) (raises_own (T.exc.sub _ (by decide : (8 : Nat) ∈ ([0, 1, 2, 3, 4, 5, 6, 7, 8, 9, 10, 11, 12, 13, 14, 15, 16, 17, 18, 19, 20] : List Nat))) (T.exc.ty _ (by decide : (8 : Nat) ∈ ([0, 1, 2, 3, 4, 5, 6, 7, 8, 9, 10, 11, 12, 13, 14, 15, 16, 17, 18, 19, 20] : List Nat)))) rfl (se_var (pv 3))) sa_nil))))))))
    (ss_cons (s_set (i := 4) sc_law.nd rfl (by first | exact .inl rfl | exact .inr rfl) (se_bin z_add (se_var (pv 4)) (se_lst (sa_cons (se_newE (k := 9) (by decide) (by decide) (T.exc.exc _ (by decide : (9 : Nat) ∈ ([0, 1, 2, 3, 4, 5, 6, 7, 8, 9, 10, 11, 12, 13, 14, 15, 16, 17, 18, 19, 20] : List Nat)) (by decide)) (T.exc.gl 9 (by decide)) (T.exc.kp _ (by decide : (9 : Nat) ∈ ([0, 1, 2, 3, 4, 5, 6, 7, 8, 9, 10, 11, 12, 13, 14, 15, 16, 17, 18, 19, 20] : List Nat))) (raises_own (T.exc.sub _ (by decide : (9 : Nat) ∈ ([0, 1, 2, 3, 4, 5, 6, 7, 8, 9, 10, 11, 12, 13, 14, 15, 16, 17, 18, 19, 20] : List Nat))) (T.exc.ty _ (by decide : (9 : Nat) ∈ ([0, 1, 2, 3, 4, 5, 6, 7, 8, 9, 10, 11, 12, 13, 14, 15, 16, 17, 18, 19, 20] : List Nat)))) rfl (se_var (pv 3))) (sa_cons (se_newE (k := 10) (by decide) (by decide) (T.exc.exc _ (by decide : (10 : Nat) ∈ ([0, 1, 2, 3, 4, 5, 6, 7, 8, 9, 10, 11, 12, 13, 14, 15, 16, 17, 18, 19, 20] : List Nat)) (by decide)) (T.exc.gl 10 (by decide)) (T.exc.kp _ (by decide : (10 : Nat) ∈ ([0, 1, 2, 3, 4, 5, 6, 7, 8, 9, 10, 11, 12, 13, 14, 15, 16, 17, 18, 19, 20] : List Nat))) (raises_own (T.exc.sub _ (by decide : (10 : Nat) ∈ ([0, 1, 2, 3, 4, 5, 6, 7, 8, 9, 10, 11, 12, 13, 14, 15, 16, 17, 18, 19, 20] : List Nat))) (T.exc.ty _ (by decide : (10 : Nat) ∈ ([0, 1, 2, 3, 4, 5, 6, 7, 8, 9, 10, 11, 12, 13, 14, 15, 16, 17, 18, 19, 20] : List Nat)))) rfl (se_var (pv 3))) (sa_cons (se_newE (k := 11) (by decide) (by decide) (T.exc.exc _ (by decide : (11 : Nat) ∈ ([0, 1, 2, 3, 4, 5, 6, 7, 8, 9, 10, 11, 12, 13, 14, 15, 16, 17, 18, 19, 20] : List Nat)) (by decide)) (T.exc.gl 11 (by decide)) (T.exc.kp _ (by decide : (11 : Nat) ∈ ([0, 1, 2, 3, 4, 5, 6, 7, 8, 9, 10, 11, 12, 13, 14, 15, 16, 17, 18, 19, 20] : List Nat))) (raises_own (T.exc.sub _ (by decide : (11 : Nat) ∈ ([0, 1, 2, 3, 4, 5, 6, 7, 8, 9, 10, 11, 12, 13, 14, 15, 16, 17, 18, 19, 20] : List Nat))) (T.exc.ty _ (by decide : (11 : Nat) ∈ ([0, 1, 2, 3, 4, 5, 6, 7, 8, 9, 10, 11, 12, 13, 14, 15, 16, 17, 18, 19, 20] : List Nat)))) rfl (se_var (pv 3))) (sa_cons (se_newE (k := 12) (by decide) (by decide) (T.exc.exc _ (by decide : (12 : Nat) ∈ ([0, 1, 2, 3, 4, 5, 6, 7, 8, 9, 10, 11, 12, 13, 14, 15, 16, 17, 18, 19, 20] : List Nat)) (by decide)) (T.exc.gl 12 (by decide)) (T.exc.kp _ (by decide : (12 : Nat) ∈ ([0, 1, 2, 3, 4, 5, 6, 7, 8, 9, 10, 11, 12, 13, 14, 15, 16, 17, 18, 19, 20] : List Nat))) (raises_own (T.exc.sub _ (by decide : (12 : Nat) ∈ ([0, 1, 2, 3, 4, 5, 6, 7, 8, 9, 10, 11, 12, 13, 14, 15, 16, 17, 18, 19, 20] : List Nat))) (T.exc.ty _ (by decide : (12 : Nat) ∈ ([0, 1, 2, 3, 4, 5, 6, 7, 8, 9, 10, 11, 12, 13, 14, 15, 16, 17, 18, 19, 20] : List Nat)))) rfl (se_var (pv 3))) sa_nil)))))))
    (ss_cons (s_set (i := 5) sc_law.nd rfl (by first | exact .inl rfl | exact .inr rfl) (se_ix z_ix (se_lst (sa_cons (se_fn d__law_draw (hr.mono (by decide)) hG rfl T.g__law_draw T.k__law_draw b__law_draw_0 v__law_draw_0 rfl (sa_cons (se_var (pv 2)) (sa_cons (k_pow (k := 1000000000) (se_c pe_int) (se_c pe_int) (by decide +kernel) (by decide) (by decide) (by decide +kernel)) sa_nil)) ((al_cons (al_cons al_nil)).to rfl)) (sa_cons (se_c pe_int) (sa_cons (se_c pe_int) (sa_cons (se_c pe_int) (sa_cons (se_c pe_int) (sa_cons (k_pow (k := 1000000000000000000000000000000) (se_c pe_int) (se_c pe_int) (by decide +kernel) (by decide) (by decide) (by decide +kernel)) sa_nil))))))) (se_fn d__law_draw (hr.mono (by decide)) hG rfl T.g__law_draw T.k__law_draw b__law_draw_0 v__law_draw_0 rfl (sa_cons (se_var (pv 2)) (sa_cons (se_c pe_int) sa_nil)) ((al_cons (al_cons al_nil)).to rfl)) (fun _ _ => rfl)))
    (ss_cons (s_set (i := 4) sc_law.nd rfl (by first | exact .inl rfl | exact .inr rfl) (se_bin z_add (se_var (pv 4)) (se_lst (sa_cons (se_newE (k := 13) (by decide) (by decide) (T.exc.exc _ (by decide : (13 : Nat) ∈ ([0, 1, 2, 3, 4, 5, 6, 7, 8, 9, 10, 11, 12, 13, 14, 15, 16, 17, 18, 19, 20] : List Nat)) (by decide)) (T.exc.gl 13 (by decide)) (T.exc.kp _ (by decide : (13 : Nat) ∈ ([0, 1, 2, 3, 4, 5, 6, 7, 8, 9, 10, 11, 12, 13, 14, 15, 16, 17, 18, 19, 20] : List Nat))) (raises_own (T.exc.sub _ (by decide : (13 : Nat) ∈ ([0, 1, 2, 3, 4, 5, 6, 7, 8, 9, 10, 11, 12, 13, 14, 15, 16, 17, 18, 19, 20] : List Nat))) (T.exc.ty _ (by decide : (13 : Nat) ∈ ([0, 1, 2, 3, 4, 5, 6, 7, 8, 9, 10, 11, 12, 13, 14, 15, 16, 17, 18, 19, 20] : List Nat)))) rfl (se_var (pv 3))) (sa_cons (se_newE (k := 14) (by decide) (by decide) (T.exc.exc _ (by decide : (14 : Nat) ∈ ([0, 1, 2, 3, 4, 5, 6, 7, 8, 9, 10, 11, 12, 13, 14, 15, 16, 17, 18, 19, 20] : List Nat)) (by decide)) (T.exc.gl 14 (by decide)) (T.exc.kp _ (by decide : (14 : Nat) ∈ ([0, 1, 2, 3, 4, 5, 6, 7, 8, 9, 10, 11, 12, 13, 14, 15, 16, 17, 18, 19, 20] : List Nat))) (raises_own (T.exc.sub _ (by decide : (14 : Nat) ∈ ([0, 1, 2, 3, 4, 5, 6, 7, 8, 9, 10, 11, 12, 13, 14, 15, 16, 17, 18, 19, 20] : List Nat))) (T.exc.ty _ (by decide : (14 : Nat) ∈ ([0, 1, 2, 3, 4, 5, 6, 7, 8, 9, 10, 11, 12, 13, 14, 15, 16, 17, 18, 19, 20] : List Nat)))) rfl (se_var (pv 3))) (sa_cons (se_newE (k := 15) (by decide) (by decide) (T.exc.exc _ (by decide : (15 : Nat) ∈ ([0, 1, 2, 3, 4, 5, 6, 7, 8, 9, 10, 11, 12, 13, 14, 15, 16, 17, 18, 19, 20] : List Nat)) (by decide)) (T.exc.gl 15 (by decide)) (T.exc.kp _ (by decide : (15 : Nat) ∈ ([0, 1, 2, 3, 4, 5, 6, 7, 8, 9, 10, 11, 12, 13, 14, 15, 16, 17, 18, 19, 20] : List Nat))) (raises_own (T.exc.sub _ (by decide : (15 : Nat) ∈ ([0, 1, 2, 3, 4, 5, 6, 7, 8, 9, 10, 11, 12, 13, 14, 15, 16, 17, 18, 19, 20] : List Nat))) (T.exc.ty _ (by decide : (15 : Nat) ∈ ([0, 1, 2, 3, 4, 5, 6, 7, 8, 9, 10, 11, 12, 13, 14, 15, 16, 17, 18, 19, 20] : List Nat)))) rfl (se_var (pv 3))) (sa_cons (se_newP (k := 16) (by decide) (by decide) (T.exc.pay _ (by decide : (16 : Nat) ∈ ([0, 1, 2, 3, 4, 5, 6, 7, 8, 9, 10, 11, 12, 13, 14, 15, 16, 17, 18, 19, 20] : List Nat)) (by decide) (by decide)) rfl y_16 rfl (hr.mono (by decide)) z_16 rfl (T.exc.gl 16 (by decide)) (se_var (pv 5))) (sa_cons (se_newP (k := 17) (by decide) (by decide) (T.exc.pay _ (by decide : (17 : Nat) ∈ ([0, 1, 2, 3, 4, 5, 6, 7, 8, 9, 10, 11, 12, 13, 14, 15, 16, 17, 18, 19, 20] : List Nat)) (by decide) (by decide)) rfl y_17 rfl (hr.mono (by decide)) z_17 rfl (T.exc.gl 17 (by decide)) (se_var (pv 5))) sa_nil))))))))
    (ss_cons (s_set (i := 4) sc_law.nd rfl (by first | exact .inl rfl | exact .inr rfl) (se_bin z_add (se_var (pv 4)) (se_lst (sa_cons (se_newP (k := 18) (by decide) (by decide) (T.exc.pay _ (by decide : (18 : Nat) ∈ ([0, 1, 2, 3, 4, 5, 6, 7, 8, 9, 10, 11, 12, 13, 14, 15, 16, 17, 18, 19, 20] : List Nat)) (by decide) (by decide)) rfl y_18 rfl (hr.mono (by decide)) z_18 rfl (T.exc.gl 18 (by decide)) (se_var (pv 5))) (sa_cons (se_newP (k := 19) (by decide) (by decide) (T.exc.pay _ (by decide : (19 : Nat) ∈ ([0, 1, 2, 3, 4, 5, 6, 7, 8, 9, 10, 11, 12, 13, 14, 15, 16, 17, 18, 19, 20] : List Nat)) (by decide) (by decide)) rfl y_19 rfl (hr.mono (by decide)) z_19 rfl (T.exc.gl 19 (by decide)) (se_var (pv 5))) sa_nil)))))
    (ss_cons (s_for (n := fuelN) PassesOwn.never rfl (i_enum rfl T.b_enumerate (sa_cons (se_var (pv 4)) sa_nil)) (g_un rfl (gs_cons (g_set (pg_name (i := 6) sc_law.nd rfl (by first | exact .inl rfl | exact .inr rfl))) (gs_cons (g_set (pg_name (i := 7) sc_law.nd rfl (by first | exact .inl rfl | exact .inr rfl))) gs_nil)))
    (ss_cons (s_if (SW.pt (sw_or (st_not (st_val (se_isE (v := .ref (He.ga K "LateError")) (cv := .ref (He.ga K "LateError")) rfl T.b_isinstance (by exact pa_cons (se_var (pv 7)) (pa_cons (pe_glob rfl T.exc.glL rfl) pa_nil)) (fun _ r => r) T.exc.isL1))) (sw_or1 (st_not (st_val (se_isE (v := .ty "ValueError") (cv := .type "ValueError") rfl T.b_isinstance (by exact pa_cons (se_var (pv 7)) (pa_cons (pe_bltn rfl T.b_ValueError (by decide +kernel) rfl) pa_nil)) (fun _ r => r) T.exc.isV1))))))
    (ss_one (s_ret (se_c pe_bl)))
    ss_nil)
    (ss_one (s_if (st_cmp (z_ne (Room.units hr)) (se_fn d__law_kinds (hr.mono (by decide)) hG rfl T.g__law_kinds T.k__law_kinds b__law_kinds_0 v__law_kinds_0 rfl (sa_cons (se_var (pv 7)) sa_nil) ((al_cons al_nil).to rfl)) (se_compV rfl sc_law.nd (i_range1 rfl T.b_range (sa_cons (se_c pe_int) sa_nil)) (blkOk_by (own := [("_law_place", 9)]) (by kernel_rfl)) rfl (gw_set (by decide)) (fun _ _ _ _ _ => (g_set (pg_name (i := 9) sc_law.nd rfl (by first | exact .inl rfl | exact .inr rfl)))) (fun _ _ _ _ _ => sts_nil) (fun _ _ _ _ _ => (se_cmp (z_eq (Room.units hr)) (se_var (pv 9)) (se_var (pv 6)) (nomark _)))) (nomark _))
    (ss_one (s_ret (se_c pe_bl)))
    ss_nil))))
    (ss_cons (s_if (st_cmp (z_ne (Room.units hr)) (se_lst (sa_cons (se_row T.exc (se_ix z_ix (se_var (pv 4)) (se_c pe_int) (fun _ _ => rfl))) (sa_cons (se_row T.exc (se_ix z_ix (se_var (pv 4)) (se_c pe_int) (fun _ _ => rfl))) (sa_cons (se_row T.exc (se_ix z_ix (se_var (pv 4)) (se_c pe_int) (fun _ _ => rfl))) (sa_cons (se_row T.exc (se_ix z_ix (se_var (pv 4)) (se_c pe_int) (fun _ _ => rfl))) sa_nil))))) (se_bin z_mul (se_lst (sa_cons (se_var (pv 5)) sa_nil)) (se_c pe_int)) (nomark _))
    (ss_one (s_ret (se_c pe_bl)))
    ss_nil)
    (ss_cons (s_set (i := 8) sc_law.nd rfl (by first | exact .inl rfl | exact .inr rfl) (se_lst (sa_cons (se_newP (k := 16) (by decide) (by decide) (T.exc.pay _ (by decide : (16 : Nat) ∈ ([0, 1, 2, 3, 4, 5, 6, 7, 8, 9, 10, 11, 12, 13, 14, 15, 16, 17, 18, 19, 20] : List Nat)) (by decide) (by decide)) rfl y_16 rfl (hr.mono (by decide)) z_16 rfl (T.exc.gl 16 (by decide)) (se_var (pv 5))) (sa_cons (se_newP (k := 17) (by decide) (by decide) (T.exc.pay _ (by decide : (17 : Nat) ∈ ([0, 1, 2, 3, 4, 5, 6, 7, 8, 9, 10, 11, 12, 13, 14, 15, 16, 17, 18, 19, 20] : List Nat)) (by decide) (by decide)) rfl y_17 rfl (hr.mono (by decide)) z_17 rfl (T.exc.gl 17 (by decide)) (se_var (pv 5))) (sa_cons (se_newP (k := 18) (by decide) (by decide) (T.exc.pay _ (by decide : (18 : Nat) ∈ ([0, 1, 2, 3, 4, 5, 6, 7, 8, 9, 10, 11, 12, 13, 14, 15, 16, 17, 18, 19, 20] : List Nat)) (by decide) (by decide)) rfl y_18 rfl (hr.mono (by decide)) z_18 rfl (T.exc.gl 18 (by decide)) (se_var (pv 5))) (sa_cons (se_newP (k := 19) (by decide) (by decide) (T.exc.pay _ (by decide : (19 : Nat) ∈ ([0, 1, 2, 3, 4, 5, 6, 7, 8, 9, 10, 11, 12, 13, 14, 15, 16, 17, 18, 19, 20] : List Nat)) (by decide) (by decide)) rfl y_19 rfl (hr.mono (by decide)) z_19 rfl (T.exc.gl 19 (by decide)) (se_var (pv 5))) sa_nil))))))
    (ss_cons (s_if (st_cmp (z_ne (Room.units hr)) (se_lst (sa_cons (se_row T.exc (se_ix z_ix (se_var (pv 8)) (se_c pe_int) (fun _ _ => rfl))) (sa_cons (se_row T.exc (se_ix z_ix (se_var (pv 8)) (se_c pe_int) (fun _ _ => rfl))) (sa_cons (se_row T.exc (se_ix z_ix (se_var (pv 8)) (se_c pe_int) (fun _ _ => rfl))) (sa_cons (se_row T.exc (se_ix z_ix (se_var (pv 8)) (se_c pe_int) (fun _ _ => rfl))) sa_nil))))) (se_bin z_mul (se_lst (sa_cons (se_var (pv 5)) sa_nil)) (se_c pe_int)) (nomark _))
    (ss_one (s_ret (se_c pe_bl)))
    ss_nil)
    (ss_cons (s_if (st_cmp (z_ne (Room.units hr)) (se_compV rfl sc_law.nd (i_range1 rfl T.b_range (sa_cons (se_c pe_int) sa_nil)) (blkOk_by (own := [("_law_way", 10)]) (by kernel_rfl)) rfl (gw_set (by decide)) (fun _ _ _ _ _ => (g_set (pg_name (i := 10) sc_law.nd rfl (by first | exact .inl rfl | exact .inr rfl)))) (fun _ _ _ _ _ => sts_nil) (fun _ _ _ _ _ => (se_fn d__law_raised (hr.mono (by decide)) hG rfl T.g__law_raised T.k__law_raised b__law_raised_0 v__law_raised_0 rfl (sa_cons (se_var (pv 10)) (sa_cons (se_var (pv 5)) sa_nil)) ((al_cons (al_cons al_nil)).to rfl)))) (se_bin z_mul (se_lst (sa_cons (se_var (pv 5)) sa_nil)) (se_c pe_int)) (nomark _))
    (ss_one (s_ret (se_c pe_bl)))
    ss_nil)
    (ss_one (s_if (st_cmp (z_in (Nat.lt_of_le_of_lt (Nat.add_le_add_left (by decide : 1 ≤ 64) _) (Room.units hr))) (se_c pe_bl) (se_fn d__law_kinds (hr.mono (by decide)) hG rfl T.g__law_kinds T.k__law_kinds b__law_kinds_0 v__law_kinds_0 rfl (sa_cons (se_newE (k := 20) (by decide) (by decide) (T.exc.exc _ (by decide : (20 : Nat) ∈ ([0, 1, 2, 3, 4, 5, 6, 7, 8, 9, 10, 11, 12, 13, 14, 15, 16, 17, 18, 19, 20] : List Nat)) (by decide)) T.exc.glL (T.exc.kp _ (by decide : (20 : Nat) ∈ ([0, 1, 2, 3, 4, 5, 6, 7, 8, 9, 10, 11, 12, 13, 14, 15, 16, 17, 18, 19, 20] : List Nat))) (raises_own (T.exc.sub _ (by decide : (20 : Nat) ∈ ([0, 1, 2, 3, 4, 5, 6, 7, 8, 9, 10, 11, 12, 13, 14, 15, 16, 17, 18, 19, 20] : List Nat))) (T.exc.ty _ (by decide : (20 : Nat) ∈ ([0, 1, 2, 3, 4, 5, 6, 7, 8, 9, 10, 11, 12, 13, 14, 15, 16, 17, 18, 19, 20] : List Nat)))) rfl (se_var (pv 3))) sa_nil) ((al_cons al_nil).to rfl)) rfl)
    (ss_one (s_ret (se_c pe_bl)))
    ss_nil))))))))))))))))
    (ss_one (s_ret (se_c pe_bl))))
end
def dd__law_draw : He.DefD := ⟨("_law_draw", none), "_law_draw", "_law_draw", defArgs s__law_draw, defBody s__law_draw, defScope s__law_draw, [], []⟩
def dd__law_kinds : He.DefD := ⟨("_law_kinds", none), "_law_kinds", "_law_kinds", defArgs s__law_kinds, defBody s__law_kinds, defScope s__law_kinds, [], []⟩
def dd__law_pool : He.DefD := ⟨("_law_pool", none), "_law_pool", "_law_pool", defArgs s__law_pool, defBody s__law_pool, defScope s__law_pool, [], []⟩
def dd__law_raised : He.DefD := ⟨("_law_raised", none), "_law_raised", "_law_raised", defArgs s__law_raised, defBody s__law_raised, defScope s__law_raised, [], []⟩
def dd_law : He.DefD := ⟨("law", none), "law", "law", defArgs s_law, defBody s_law, defScope s_law, [], []⟩
abbrev s_y16 : Stmt := (clsBody (topS 18)).getD 0 (.Pass ⟨0, 0, 0, 0⟩)
def dd_y16 : He.DefD := ⟨("NotPossible", some "__init__"), "__init__", "NotPossible.__init__", defArgs s_y16, defBody s_y16, defScope s_y16, [], []⟩
theorem sc_y16 : FnScope ["self", "row"] ["self", "row"] (defScope s_y16) := ⟨rfl, rfl, rfl, by decide +kernel, rfl, by decide +kernel, by decide +kernel⟩
theorem ini_y16 {P : Program} {w : World} {K : PySem.W.Frag} {mg : Str → Option Value} {base : Heap} {fI : Addr} {fd : FuncData} (T : Txt K mg) (F : FunD K "__init__" "NotPossible.__init__" (defArgs s_y16) (defBody s_y16) (defScope s_y16) [] [] fI fd) : FnOk P w K mg base CX0 1 fI fd ["self", "row"] (spI (He.ga K (errC 16)) "row") :=
  init_ok (txt := "no polls lose exactly these ids") (T.exc.pay _ (by decide : (16 : Nat) ∈ ([0, 1, 2, 3, 4, 5, 6, 7, 8, 9, 10, 11, 12, 13, 14, 15, 16, 17, 18, 19, 20] : List Nat)) (by decide) (by decide)).oex (T.exc.pay _ (by decide : (16 : Nat) ∈ ([0, 1, 2, 3, 4, 5, 6, 7, 8, 9, 10, 11, 12, 13, 14, 15, 16, 17, 18, 19, 20] : List Nat)) (by decide) (by decide)).noF F sc_y16 fun cdv A outer s H E => pss_cons (ps_expr (pe_lateI rfl T.exc.glL (T.exc.lateC ⟨_, (by decide : (16 : Nat) ∈ ([0, 1, 2, 3, 4, 5, 6, 7, 8, 9, 10, 11, 12, 13, 14, 15, 16, 17, 18, 19, 20] : List Nat)), by decide⟩) (pa_cons (pv 0) (pa_cons pe_str pa_nil)))) (pss_one (ps_ost (pv 0) (pv 1)))
abbrev s_y17 : Stmt := (clsBody (topS 19)).getD 0 (.Pass ⟨0, 0, 0, 0⟩)
def dd_y17 : He.DefD := ⟨("NoFit", some "__init__"), "__init__", "NoFit.__init__", defArgs s_y17, defBody s_y17, defScope s_y17, [], []⟩
theorem sc_y17 : FnScope ["self", "reader"] ["self", "reader"] (defScope s_y17) := ⟨rfl, rfl, rfl, by decide +kernel, rfl, by decide +kernel, by decide +kernel⟩
theorem ini_y17 {P : Program} {w : World} {K : PySem.W.Frag} {mg : Str → Option Value} {base : Heap} {fI : Addr} {fd : FuncData} (T : Txt K mg) (F : FunD K "__init__" "NoFit.__init__" (defArgs s_y17) (defBody s_y17) (defScope s_y17) [] [] fI fd) : FnOk P w K mg base CX0 1 fI fd ["self", "reader"] (spI (He.ga K (errC 17)) "reader") :=
  init_ok (txt := "the logs do not fit together") (T.exc.pay _ (by decide : (17 : Nat) ∈ ([0, 1, 2, 3, 4, 5, 6, 7, 8, 9, 10, 11, 12, 13, 14, 15, 16, 17, 18, 19, 20] : List Nat)) (by decide) (by decide)).oex (T.exc.pay _ (by decide : (17 : Nat) ∈ ([0, 1, 2, 3, 4, 5, 6, 7, 8, 9, 10, 11, 12, 13, 14, 15, 16, 17, 18, 19, 20] : List Nat)) (by decide) (by decide)).noF F sc_y17 fun cdv A outer s H E => pss_cons (ps_expr (pe_lateI rfl T.exc.glL (T.exc.lateC ⟨_, (by decide : (17 : Nat) ∈ ([0, 1, 2, 3, 4, 5, 6, 7, 8, 9, 10, 11, 12, 13, 14, 15, 16, 17, 18, 19, 20] : List Nat)), by decide⟩) (pa_cons (pv 0) (pa_cons pe_str pa_nil)))) (pss_one (ps_ost (pv 0) (pv 1)))
abbrev s_y18 : Stmt := (clsBody (topS 20)).getD 0 (.Pass ⟨0, 0, 0, 0⟩)
def dd_y18 : He.DefD := ⟨("InvalidText", some "__init__"), "__init__", "InvalidText.__init__", defArgs s_y18, defBody s_y18, defScope s_y18, [], []⟩
theorem sc_y18 : FnScope ["self", "position"] ["self", "position"] (defScope s_y18) := ⟨rfl, rfl, rfl, by decide +kernel, rfl, by decide +kernel, by decide +kernel⟩
theorem ini_y18 {P : Program} {w : World} {K : PySem.W.Frag} {mg : Str → Option Value} {base : Heap} {fI : Addr} {fd : FuncData} (T : Txt K mg) (F : FunD K "__init__" "InvalidText.__init__" (defArgs s_y18) (defBody s_y18) (defScope s_y18) [] [] fI fd) : FnOk P w K mg base CX0 1 fI fd ["self", "position"] (spI (He.ga K (errC 18)) "position") :=
  init_ok (txt := "the text is not in the written form") (T.exc.pay _ (by decide : (18 : Nat) ∈ ([0, 1, 2, 3, 4, 5, 6, 7, 8, 9, 10, 11, 12, 13, 14, 15, 16, 17, 18, 19, 20] : List Nat)) (by decide) (by decide)).oex (T.exc.pay _ (by decide : (18 : Nat) ∈ ([0, 1, 2, 3, 4, 5, 6, 7, 8, 9, 10, 11, 12, 13, 14, 15, 16, 17, 18, 19, 20] : List Nat)) (by decide) (by decide)).noF F sc_y18 fun cdv A outer s H E => pss_cons (ps_expr (pe_lateI rfl T.exc.glL (T.exc.lateC ⟨_, (by decide : (18 : Nat) ∈ ([0, 1, 2, 3, 4, 5, 6, 7, 8, 9, 10, 11, 12, 13, 14, 15, 16, 17, 18, 19, 20] : List Nat)), by decide⟩) (pa_cons (pv 0) (pa_cons pe_str pa_nil)))) (pss_one (ps_ost (pv 0) (pv 1)))
abbrev s_y19 : Stmt := (clsBody (topS 21)).getD 0 (.Pass ⟨0, 0, 0, 0⟩)
def dd_y19 : He.DefD := ⟨("TooLarge", some "__init__"), "__init__", "TooLarge.__init__", defArgs s_y19, defBody s_y19, defScope s_y19, [], []⟩
theorem sc_y19 : FnScope ["self", "limit"] ["self", "limit"] (defScope s_y19) := ⟨rfl, rfl, rfl, by decide +kernel, rfl, by decide +kernel, by decide +kernel⟩
theorem ini_y19 {P : Program} {w : World} {K : PySem.W.Frag} {mg : Str → Option Value} {base : Heap} {fI : Addr} {fd : FuncData} (T : Txt K mg) (F : FunD K "__init__" "TooLarge.__init__" (defArgs s_y19) (defBody s_y19) (defScope s_y19) [] [] fI fd) : FnOk P w K mg base CX0 1 fI fd ["self", "limit"] (spI (He.ga K (errC 19)) "limit") :=
  init_ok (txt := "the input exceeds the limit") (T.exc.pay _ (by decide : (19 : Nat) ∈ ([0, 1, 2, 3, 4, 5, 6, 7, 8, 9, 10, 11, 12, 13, 14, 15, 16, 17, 18, 19, 20] : List Nat)) (by decide) (by decide)).oex (T.exc.pay _ (by decide : (19 : Nat) ∈ ([0, 1, 2, 3, 4, 5, 6, 7, 8, 9, 10, 11, 12, 13, 14, 15, 16, 17, 18, 19, 20] : List Nat)) (by decide) (by decide)).noF F sc_y19 fun cdv A outer s H E => pss_cons (ps_expr (pe_lateI rfl T.exc.glL (T.exc.lateC ⟨_, (by decide : (19 : Nat) ∈ ([0, 1, 2, 3, 4, 5, 6, 7, 8, 9, 10, 11, 12, 13, 14, 15, 16, 17, 18, 19, 20] : List Nat)), by decide⟩) (pa_cons (pv 0) (pa_cons pe_str pa_nil)))) (pss_one (ps_ost (pv 0) (pv 1)))
def fn : List He.DefD := [dd__law_draw, dd__law_kinds, dd__law_pool, dd__law_raised, dd_law, dd_y16, dd_y17, dd_y18, dd_y19]
def fa : List He.Fa := [.free "isinstance", .free "abs", .free "len", .free "max", .free "ValueError", .free "enumerate", .free "min", .free "range", .glo "_law_draw", .glo "_law_kinds", .glo "_law_pool", .glo "_law_raised", .glo "law"]
abbrev R : PySem.W.OpenRow := PySem.W.OpenLaw.row PySem.Challenge.rw_lateids_k00_errors
abbrev hk : PySem.W.Hook := hookX 4 [0, 1, 2, 3, 4, 5, 6, 7, 8, 9, 10, 11, 12, 13, 14, 15, 16, 17, 18, 19, 20] fa fn
def ob (s : PySem.W.SharedT) : AlX := obsXG 4 [0, 1, 2, 3, 4, 5, 6, 7, 8, 9, 10, 11, 12, 13, 14, 15, 16, 17, 18, 19, 20] fa fn (HandSHeadRun.getT s)
theorem ob_eq (s : PySem.W.SharedT) : ob s = hk.obs s.abs := obsXG_eq (HandSHeadRun.getT_eq s)
def loose : List PySem.Str := [("__name__" : PySem.Str), ("LateError" : PySem.Str), ("InvalidHistory" : PySem.Str), ("InvalidPosition" : PySem.Str), ("InvalidOrder" : PySem.Str), ("InvalidMoment" : PySem.Str), ("InvalidPolls" : PySem.Str), ("InvalidId" : PySem.Str), ("InvalidIds" : PySem.Str), ("InvalidNumber" : PySem.Str), ("InvalidLog" : PySem.Str), ("InvalidLogs" : PySem.Str), ("InvalidPoll" : PySem.Str), ("InvalidCounts" : PySem.Str), ("InvalidRound" : PySem.Str), ("InvalidName" : PySem.Str), ("InvalidCommand" : PySem.Str), ("NothingToUndo" : PySem.Str), ("NotPossible" : PySem.Str), ("NoFit" : PySem.Str), ("InvalidText" : PySem.Str), ("TooLarge" : PySem.Str), ("_law_pool" : PySem.Str), ("_law_draw" : PySem.Str), ("_law_shuffled" : PySem.Str), ("_law_kinds" : PySem.Str), ("_law_raised" : PySem.Str)]
set_option maxHeartbeats 0 in
theorem run (w : World) : HandSHeadRun.RunEq R (PySem.W.view R.prog [28]) hk ob 40000 loose w := by
  intro os
  kernel_rfl
theorem facts {P : Program} {w : World} {K : PySem.W.Frag} {h : Heap} {mg : Str → Option Value} {f : Addr} (X : K.In h) (G : h.Ns mainGlobals mg) (hfa : mg ("law" : Str) = some (.ref f)) (cx : excB [0, 1, 2, 3, 4, 5, 6, 7, 8, 9, 10, 11, 12, 13, 14, 15, 16, 17, 18, 19, 20]  K = true) (c : He.SaysD fa fn K) :
    ∃ fd : FuncData, (∀ (s : Shared) (v : Value), BindsTo s fd ⟨[v], []⟩ [("_law_script", v)]) ∧ ∀ base : Heap, K.In base → base.Ns mainGlobals mg → FnZ P w K mg base 5 f fd ["_law_script"] hg_law_k00 := by
  obtain ⟨fd__law_draw, F__law_draw⟩ : ∃ fd, FnP__law_draw K fd := c.def_ 0 (d := dd__law_draw) rfl
  obtain ⟨fd__law_kinds, F__law_kinds⟩ : ∃ fd, FnP__law_kinds K fd := c.def_ 1 (d := dd__law_kinds) rfl
  obtain ⟨fd__law_pool, F__law_pool⟩ : ∃ fd, FnP__law_pool K fd := c.def_ 2 (d := dd__law_pool) rfl
  obtain ⟨fd__law_raised, F__law_raised⟩ : ∃ fd, FnP__law_raised K fd := c.def_ 3 (d := dd__law_raised) rfl
  obtain ⟨fd_law, F_law⟩ : ∃ fd, FnP_law K fd := c.def_ 4 (d := dd_law) rfl
  obtain ⟨fd_y16, F_y16⟩ := c.def_ 5 (d := dd_y16) rfl
  obtain ⟨fd_y17, F_y17⟩ := c.def_ 6 (d := dd_y17) rfl
  obtain ⟨fd_y18, F_y18⟩ := c.def_ 7 (d := dd_y18) rfl
  obtain ⟨fd_y19, F_y19⟩ := c.def_ 8 (d := dd_y19) rfl
  have e := hfa.symm.trans (He.glo_ok X G (c.fact 12 (f := .glo "law") rfl))
  cases e
  have T : Txt K mg := ⟨He.free_ok X G (c.fact 0 (f := .free "isinstance") rfl), He.free_ok X G (c.fact 1 (f := .free "abs") rfl), He.free_ok X G (c.fact 2 (f := .free "len") rfl), He.free_ok X G (c.fact 3 (f := .free "max") rfl), He.free_ok X G (c.fact 4 (f := .free "ValueError") rfl), He.free_ok X G (c.fact 5 (f := .free "enumerate") rfl), He.free_ok X G (c.fact 6 (f := .free "min") rfl), He.free_ok X G (c.fact 7 (f := .free "range") rfl), He.glo_ok X G (c.fact 8 (f := .glo "_law_draw") rfl), F__law_draw.kp, He.glo_ok X G (c.fact 9 (f := .glo "_law_kinds") rfl), F__law_kinds.kp, He.glo_ok X G (c.fact 10 (f := .glo "_law_pool") rfl), F__law_pool.kp, He.glo_ok X G (c.fact 11 (f := .glo "_law_raised") rfl), F__law_raised.kp, excB_ok X G cx⟩
  have bl := FunD.bindsA (ps := ["_law_script"]) F_law fun _ _ _ _ _ _ us hl => match us, hl with | [_], _ => rfl
  have b__law_pool_0 : Binds K fd__law_pool ["_law_script", "_law_at"] [] := FunD.bindsN F__law_pool fun _ _ _ _ _ _ us hl => match us, hl with | [_, _], _ => rfl
  have v__law_pool_0 : Vals [] [] := .nil
  have b__law_draw_0 : Binds K fd__law_draw ["_law_pool_here", "_law_many"] [] := FunD.bindsN F__law_draw fun _ _ _ _ _ _ us hl => match us, hl with | [_, _], _ => rfl
  have v__law_draw_0 : Vals [] [] := .nil
  have b__law_kinds_0 : Binds K fd__law_kinds ["_law_e"] [] := FunD.bindsN F__law_kinds fun _ _ _ _ _ _ us hl => match us, hl with | [_], _ => rfl
  have v__law_kinds_0 : Vals [] [] := .nil
  have b__law_raised_0 : Binds K fd__law_raised ["_law_way", "_law_thing"] [] := FunD.bindsN F__law_raised fun _ _ _ _ _ _ us hl => match us, hl with | [_, _], _ => rfl
  have v__law_raised_0 : Vals [] [] := .nil
  have z_16 : Binds K fd_y16 ["self", "row"] [] := FunD.bindsN F_y16 fun _ _ _ _ _ _ us hl => match us, hl with | [_, _], _ => rfl
  have z_17 : Binds K fd_y17 ["self", "reader"] [] := FunD.bindsN F_y17 fun _ _ _ _ _ _ us hl => match us, hl with | [_, _], _ => rfl
  have z_18 : Binds K fd_y18 ["self", "position"] [] := FunD.bindsN F_y18 fun _ _ _ _ _ _ us hl => match us, hl with | [_, _], _ => rfl
  have z_19 : Binds K fd_y19 ["self", "limit"] [] := FunD.bindsN F_y19 fun _ _ _ _ _ _ us hl => match us, hl with | [_, _], _ => rfl
  refine ⟨fd_law, fun s v => bl s [v] rfl, fun base _ _ => ?_⟩
  have y_16 : FnOk P w K mg base CX0 1 _ fd_y16 ["self", "row"] (spI (He.ga K (errC 16)) "row") := ini_y16 T F_y16
  have y_17 : FnOk P w K mg base CX0 1 _ fd_y17 ["self", "reader"] (spI (He.ga K (errC 17)) "reader") := ini_y17 T F_y17
  have y_18 : FnOk P w K mg base CX0 1 _ fd_y18 ["self", "position"] (spI (He.ga K (errC 18)) "position") := ini_y18 T F_y18
  have y_19 : FnOk P w K mg base CX0 1 _ fd_y19 ["self", "limit"] (spI (He.ga K (errC 19)) "limit") := ini_y19 T F_y19
  have d__law_draw : FnZ P w K mg base 1 (He.ga K "_law_draw") fd__law_draw ["_law_pool_here", "_law_many"] hg_draw_k00 := ok__law_draw F__law_draw T
  have d__law_kinds : FnZ P w K mg base 1 (He.ga K "_law_kinds") fd__law_kinds ["_law_e"] hg_kinds_k00 := ok__law_kinds F__law_kinds T
  have d__law_pool : FnZ P w K mg base 1 (He.ga K "_law_pool") fd__law_pool ["_law_script", "_law_at"] hg_pool := ok__law_pool F__law_pool T
  have d__law_raised : FnZ P w K mg base 4 (He.ga K "_law_raised") fd__law_raised ["_law_way", "_law_thing"] hg_raised_k00 := ok__law_raised F__law_raised T y_16 z_16 y_17 z_17 y_18 z_18 y_19 z_19
  exact ok_law F_law T d__law_draw b__law_draw_0 v__law_draw_0 d__law_kinds b__law_kinds_0 v__law_kinds_0 d__law_pool b__law_pool_0 v__law_pool_0 d__law_raised b__law_raised_0 v__law_raised_0 y_16 z_16 y_17 z_17 y_18 z_18 y_19 z_19
end Zl.K00

namespace Zl
open PySem L2
/-- is_integer(value, least, greatest); slots 0:value 1:least 2:greatest -/
def m_is_integer : MS := (sSeq (sIf (tOrZ (tNotZ (tE (eCall fIsi (aCons (eVar 0) (aCons (eC (.ty "int")) aNil))))) (tOrZ (tE (eCall fIsi (aCons (eVar 0) (aCons (eC (.ty "bool")) aNil)))) (tE (eBin cLt (eVar 0) (eVar 1))))) (sRet (eC (.bl false))) sPass) (sRet (eOr (eUn cIsN (eVar 2)) (eBin cLe (eVar 0) (eVar 2)))))
def f_is_integer : FL := cutF (runD 3 m_is_integer)

/-- is_id(value); slots 0:value -/
def m_is_id : MS := (sRet (eFn f_is_integer [] (aCons (eVar 0) (aCons (eC (.int 1)) (aCons (eC (.int 1000000000000000000000000000000)) aNil)))))
def f_is_id : FL := cutF (runD 1 m_is_id)

/-- is_order(value); slots 0:value 1:row -/
def m_is_order_C1 : ME := eComp fuelN true (iListZ (eVar 0)) [1] (gSet 1) tYesZ (eFn f_is_id [] (aCons (eVar 1) aNil))
def m_is_order : MS := (sSeq (sIf (tOrZ (tNotZ (tE (eCall fIsi (aCons (eVar 0) (aCons (eC (.ty "list")) aNil))))) (tOrZ (tE (eBin cGt (eCall fLen (aCons (eVar 0) aNil)) (eC (.int 30)))) (tNotZ (tCut (tE (eCall fAll (aCons m_is_order_C1 aNil))))))) (sRet (eC (.bl false))) sPass) (sRet (eBin cEq (eUn fLenSet (eVar 0)) (eCall fLen (aCons (eVar 0) aNil)))))
def f_is_order : FL := cutF (runD 2 m_is_order)

/-- require_order(order); slots 0:order -/
def m_require_order : MS := (sIf (tNotZ (tE (eFn f_is_order [] (aCons (eVar 0) aNil)))) sNever sPass)
def f_require_order : FL := cutF (runD 1 m_require_order)

end Zl

namespace Zl
open PySem L2
theorem is_integer_int (i lo hi : Int) (G : Hz) : f_is_integer [.int i, .int lo, .int hi] G = some (.bl (decide (lo ≤ i ∧ i ≤ hi)), G) := by
  simp [-Option.bind_some, -List.map_take, -List.map_drop, -List.map_append, -List.map_reverse, -List.map_set, -List.map_dropLast, -getElem?_pos, f_is_integer, m_is_integer, isiT]
  by_cases h : i < lo
  · simp [-Option.bind_some, -List.map_take, -List.map_drop, -List.map_append, -List.map_reverse, -List.map_set, -List.map_dropLast, -getElem?_pos, h]
    omega
  · simp [-Option.bind_some, -List.map_take, -List.map_drop, -List.map_append, -List.map_reverse, -List.map_set, -List.map_dropLast, -getElem?_pos, h]
    omega
theorem is_id_int (i : Int) (G : Hz) : f_is_id [.int i] G = some (.bl (decide (1 ≤ i ∧ i ≤ 1000000000000000000000000000000)), G) := by
  simp [-Option.bind_some, -List.map_take, -List.map_drop, -List.map_append, -List.map_reverse, -List.map_set, -List.map_dropLast, -getElem?_pos, f_is_id, m_is_id, is_integer_int]
/-- an order of ids -/
structure Ord (ns : List Int) : Prop where
  len : ns.length ≤ 30
  rng : ∀ i ∈ ns, 1 ≤ i ∧ i ≤ 1000000000000000000000000000000
  nd : ns.Nodup
theorem Ord.small {ns : List Int} (h : Ord ns) : Small ns := ⟨by have := h.len; omega, fun n hn => by
  have := h.rng n hn
  omega⟩
theorem Ord.perm {ns ms : List Int} (h : Ord ns) (p : ns.Perm ms) : Ord ms := ⟨by rw [← p.length_eq]; exact h.len, fun i hi => h.rng i (p.mem_iff.mpr hi), p.nodup_iff.mp h.nd⟩
theorem Ord.sub {ns ms : List Int} (h : Ord ns) (s : ms.Sublist ns) : Ord ms := ⟨Nat.le_trans s.length_le h.len, fun i hi => h.rng i (s.subset hi), h.nd.sublist s⟩
theorem nDist_nodup {ns : List Int} (h : ns.Nodup) : nDist ns = ns.length := by
  unfold nDist
  rw [RZ.firstMet_nodup h _ (Nat.le_refl _), List.take_length]
theorem is_order_C1 {G : Hz} {a : Nat} {ns : List Int} (h : G[a]? = some (.lst (ns.map V.int))) (hn : ns.length ≤ 1000) :
  m_is_order_C1 [some (.ref a), none] G = some (.ref G.length, G ++ [.lst (ns.map fun i => .bl (decide (1 ≤ i ∧ i ≤ 1000000000000000000000000000000)))]) := by
  unfold m_is_order_C1
  rw [comp_ints (it := itL a) (G0 := G) ns (fun i => .bl (decide (1 ≤ i ∧ i ≤ 1000000000000000000000000000000))) (by simp [-Option.bind_some, -List.map_take, -List.map_drop, -List.map_append, -List.map_reverse, -List.map_set, -List.map_dropLast, -getElem?_pos, h]) (yl_list h) (lt_fuel (by omega)) (by simp [-Option.bind_some, -List.map_take, -List.map_drop, -List.map_append, -List.map_reverse, -List.map_set, -List.map_dropLast, -getElem?_pos, sizeLine_eq]; omega) (by simp [-Option.bind_some, -List.map_take, -List.map_drop, -List.map_append, -List.map_reverse, -List.map_set, -List.map_dropLast, -getElem?_pos, is_id_int])]
theorem is_order_ok {G : Hz} {a : Nat} {ns : List Int} (h : G[a]? = some (.lst (ns.map V.int))) (o : Ord ns) : f_is_order [.ref a] G = some (.bl true, G) := by
  have hn := o.len
  simp [-Option.bind_some, -List.map_take, -List.map_drop, -List.map_append, -List.map_reverse, -List.map_set, -List.map_dropLast, -getElem?_pos, f_is_order, m_is_order, isiT, h, is_order_C1 h (by omega), nDist_nodup o.nd]
  rw [if_neg, if_pos (by omega)]
  rintro (h1 | ⟨x, hx, h1⟩)
  · omega
  · have := o.rng x hx
    omega
@[simp] theorem require_order_ok {G : Hz} {a : Nat} {ns : List Int} (h : G[a]? = some (.lst (ns.map V.int))) (o : Ord ns) : f_require_order [.ref a] G = some (.non, G) := by
  simp [-Option.bind_some, -List.map_take, -List.map_drop, -List.map_append, -List.map_reverse, -List.map_set, -List.map_dropLast, -getElem?_pos, f_require_order, m_require_order, is_order_ok h o]
/-- the tops behind each id -/
def topsF : Int → List Int → List Int
  | _, [] => []
  | t, i :: ns => max t i :: topsF (max t i) ns
def tops (ns : List Int) : List Int := 0 :: topsF 0 ns
/-- the top behind so many ids -/
def topAt (ns : List Int) (k : Nat) : Int := (tops ns).getD k 0
/-! ### draws -/
/-- the state of a source of draws -/
structure Pool (P : List V) (k : Nat) : Prop where
  ex : ∃ p q c : Int, P = [.int p, .int q, .int c] ∧ 0 ≤ p ∧ 0 ≤ q ∧ q ≤ 10 ^ 60 ∧ 0 ≤ c ∧ c ≤ k
theorem Pool.mono {P : List V} {k j : Nat} (h : Pool P k) (l : k ≤ j) : Pool P j := by
  obtain ⟨p, q, c, e, h1, h2, h3, h4, h5⟩ := h.ex
  exact ⟨p, q, c, e, h1, h2, h3, h4, by omega⟩
theorem Pool.ok {P : List V} {k : Nat} (h : Pool P k) (n : Nat) : okO n (.lst P) = true := by
  obtain ⟨p, q, c, rfl, _⟩ := h.ex
  simp [-Option.bind_some, -List.map_take, -List.map_drop, -List.map_append, -List.map_reverse, -List.map_set, -List.map_dropLast, -getElem?_pos]
theorem Pool.all {P : List V} {k : Nat} (h : Pool P k) (n : Nat) : P.all (okV n) = true := h.ok n
end Zl

namespace Zl
open PySem L2
/-- ids made in ascending order -/
structure Asc (l : List Int) (last : Int) : Prop where
  rng : ∀ x ∈ l, 1 ≤ x ∧ x ≤ last
  nd : l.Nodup
theorem Asc.nil : Asc [] 0 := ⟨by simp [-Option.bind_some, -List.map_take, -List.map_drop, -List.map_append, -List.map_reverse, -List.map_set, -List.map_dropLast, -getElem?_pos], by simp [-Option.bind_some, -List.map_take, -List.map_drop, -List.map_append, -List.map_reverse, -List.map_set, -List.map_dropLast, -getElem?_pos]⟩
theorem Asc.snoc {l : List Int} {last x : Int} (h : Asc l last) (h0 : 0 ≤ last) (q : last < x) : Asc (l ++ [x]) x := by
  refine ⟨fun y hy => ?_, ?_⟩
  · rcases List.mem_append.mp hy with hy | hy
    · have := h.rng y hy; omega
    · simp [-Option.bind_some, -List.map_take, -List.map_drop, -List.map_append, -List.map_reverse, -List.map_set, -List.map_dropLast, -getElem?_pos] at hy; omega
  · refine List.nodup_append.mpr ⟨h.nd, by simp [-Option.bind_some, -List.map_take, -List.map_drop, -List.map_append, -List.map_reverse, -List.map_set, -List.map_dropLast, -getElem?_pos], fun y hy z hz => ?_⟩
    have := h.rng y hy
    simp [-Option.bind_some, -List.map_take, -List.map_drop, -List.map_append, -List.map_reverse, -List.map_set, -List.map_dropLast, -getElem?_pos] at hz
    omega
theorem set_last {l : List Int} (h : l ≠ []) (y : Int) : l.set (l.length - 1) y = l.dropLast ++ [y] := by
  obtain ⟨x, hx⟩ : ∃ x, l = l.dropLast ++ [x] := ⟨_, (List.dropLast_concat_getLast h).symm⟩
  rw [hx]
  simp [-Option.bind_some, -List.map_take, -List.map_drop, -List.map_append, -List.map_reverse, -List.map_set, -List.map_dropLast, -getElem?_pos]
end Zl

namespace Zl
open PySem L2
theorem Ord.isort {ns : List Int} (o : Ord ns) (k : Nat) : Small (isort (ns.take k)) := ((o.sub (List.take_sublist k ns)).perm (isort_perm _).symm).small
end Zl

namespace Pl
open PySem L2 Zl
def idB (i : Int) : Bool := decide (1 ≤ i) && decide (i ≤ 1000000000000000000000000000000)
@[simp] theorem blsT_idB (ns : List Int) : blsT (ns.map fun i => B (idB i)) = some (ns.map idB) := blsT_map _ ns
/-- a source of draws -/
structure Po (t : Tr) (k : Nat) : Prop where
  ex : ∃ p q c : Int, t = .nd .own .lst [I p, I q, I c] ∧ 0 ≤ p ∧ 0 ≤ q ∧ q ≤ 10 ^ 60 ∧ 0 ≤ c ∧ c ≤ k
theorem Po.mono {t : Tr} {k j : Nat} (h : Po t k) (l : k ≤ j) : Po t j := by
  obtain ⟨p, q, c, e, h1, h2, h3, h4, h5⟩ := h.ex
  exact ⟨p, q, c, e, h1, h2, h3, h4, by omega⟩
theorem pdraw_k00 {t : Tr} {k : Nat} {l : Int} (hP : Po t k) (hk : k ≤ 10 ^ 9) (h1 : 0 < l) (h2 : l ≤ 10 ^ 60) :
    ∃ r t', pg_draw_k00 [t, I l] = some (I r, [some t', none]) ∧ Po t' (k + 1) ∧ 0 ≤ r ∧ r < l := by
  obtain ⟨p, q, c, rfl, p0, q0, q1, c0, c1⟩ := hP.ex
  have sl : smallN l = true := smallN_of (by omega) (by omega)
  by_cases hp : 0 < p
  · refine ⟨p.fmod l, .nd .own .lst [I (p.fdiv l), I q, I c], ?_, ⟨_, _, _, rfl, ?_, q0, q1, c0, by omega⟩, ?_, ?_⟩
    · simp [-Option.bind_some, -List.map_take, -List.map_drop, -List.map_append, -List.map_reverse, -List.map_set, -List.map_dropLast, -getElem?_pos, pg_draw_k00, pg_draw_k00_S, hp, sl, Int.ne_of_gt h1]
    · exact Int.fdiv_nonneg p0 (by omega)
    · exact Int.fmod_nonneg_of_pos _ h1
    · exact Int.fmod_lt_of_pos _ h1
  · have hp2 : p = 0 := by omega
    subst hp2
    have e1 : smallN (c + 1) = true := smallN_of (by omega) (by omega)
    have e2 : smallN (q + 104729 * (c + 1)) = true := smallN_of (by omega) (by omega)
    have b1 := Int.emod_nonneg ((q + 104729 * (c + 1)) ^ 3) (show (618970019642690137449562111 : Int) ≠ 0 by decide)
    have b2 := Int.emod_lt_of_pos ((q + 104729 * (c + 1)) ^ 3) (show (0 : Int) < 618970019642690137449562111 by decide)
    have f1 : ((q + 104729 * (c + 1)) ^ 3).fmod 618970019642690137449562111 = ((q + 104729 * (c + 1)) ^ 3) % 618970019642690137449562111 := Int.fmod_eq_emod_of_nonneg _ (by decide)
    generalize hx : ((q + 104729 * (c + 1)) ^ 3) % 618970019642690137449562111 = x at *
    have e3 : smallN (x + 1299709 * (c + 1)) = true := smallN_of (by omega) (by omega)
    have s1 : smallN 104729 = true := smallN_of (by omega) (by omega)
    have s2 : smallN 1299709 = true := smallN_of (by omega) (by omega)
    have s3 : smallN 4096 = true := smallN_of (by omega) (by omega)
    generalize hy : ((x + 1299709 * (c + 1)) ^ 3).fmod 162259276829213363391578010288127 = y
    refine ⟨(y.fdiv 4096).fmod l, .nd .own .lst [I 0, I q, I (c + 1)], ?_, ⟨_, _, _, rfl, by omega, q0, q1, by omega, by omega⟩, ?_, ?_⟩
    · simp [-Option.bind_some, -List.map_take, -List.map_drop, -List.map_append, -List.map_reverse, -List.map_set, -List.map_dropLast, -getElem?_pos, pg_draw_k00, pg_draw_k00_S, sl, Int.ne_of_gt h1, e1, e2, e3, s1, s2, s3, f1, hx, hy]
    · exact Int.fmod_nonneg_of_pos _ h1
    · exact Int.fmod_lt_of_pos _ h1
end Pl

namespace Pl
open PySem L2 Zl
theorem Po.v {t : Tr} {k : Nat} (h : Po t k) (i : Nat) (ρ : PSt) : varK i ρ t = some (.al i, ρ) := by
  obtain ⟨p, q, c, rfl, _⟩ := h.ex
  rfl
theorem Po.n {t : Tr} {k : Nat} (h : Po t k) : t.nob = true := by
  obtain ⟨p, q, c, rfl, _⟩ := h.ex
  rfl
theorem rgT0 (n : Int) : rgT 0 n = (List.range n.toNat).map fun (k : Nat) => I (k : Int) := by
  unfold rgT
  rw [Int.sub_zero]
  simp
theorem rgTN (n : Nat) : rgT 0 (n : Int) = (List.range n).map fun (k : Nat) => I (k : Int) := by
  rw [rgT0]
  rfl
theorem range_mid {n y : Nat} {pre post : List Nat} (e : List.range n = pre ++ y :: post) : pre.length = y ∧ y < n := by
  have h := congrArg (·[pre.length]?) e
  simp only [List.getElem?_append_right (Nat.le_refl _), Nat.sub_self, List.getElem?_cons_zero] at h
  have l := congrArg List.length e
  rw [List.length_range, List.length_append, List.length_cons] at l
  rw [List.getElem?_range (by omega)] at h
  cases h
  exact ⟨rfl, by omega⟩
structure PL0 where
  t : Tr
  l : List Int
  x : Int
structure PW where
  t : Tr
  l : List Int
  f : List Int
end Pl

namespace Zl
open PySem L2
structure Looks (L : List Int) (n : Int) : Prop where
  asc : L.Pairwise (· ≤ ·)
  rng : ∀ x ∈ L, 0 ≤ x ∧ x ≤ n
theorem Looks.irange {n : Nat} : Looks (irange 0 (n + 1)) n := by
  unfold Zl.irange
  refine ⟨?_, ?_⟩
  · rw [List.pairwise_map]
    exact List.pairwise_lt_range.imp fun h => by omega
  · intro x hx
    obtain ⟨i, hi, rfl⟩ := List.mem_map.mp hx
    have := List.mem_range.mp hi
    omega
theorem Looks.snoc {L : List Int} {n : Int} (h : Looks L n) (h0 : 0 ≤ n) : Looks (L ++ [n]) n := by
  refine ⟨List.pairwise_append.mpr ⟨h.asc, by simp, fun x hx y hy => ?_⟩, fun x hx => ?_⟩
  · rw [List.mem_singleton] at hy
    rw [hy]
    exact (h.rng x hx).2
  · rcases List.mem_append.mp hx with hx | hx
    · exact h.rng x hx
    · rw [List.mem_singleton] at hx
      omega
theorem Looks.sub {L M : List Int} {n : Int} (h : Looks L n) (s : M.Sublist L) : Looks M n := ⟨h.asc.sublist s, fun x hx => h.rng x (s.subset hx)⟩
theorem Looks.last {L : List Int} {n : Int} (h : Looks L n) (h0 : 0 ≤ n) (hne : L ≠ []) : Looks (L.set (L.length - 1) n) n := by
  rw [set_last hne]
  exact (h.sub (List.dropLast_sublist L)).snoc h0
theorem Looks.sorted {L : List Int} {n : Int} (h : ∀ x ∈ L, 0 ≤ x ∧ x ≤ n) : Looks (isort L) n := ⟨isort_sorted L, fun x hx => h x ((isort_perm L).mem_iff.mp hx)⟩
end Zl

namespace Pl
open PySem L2 Zl
theorem atI_nat {α : Type} {xs : List α} {n : Nat} (h : n < xs.length) : atI xs (n : Int) = xs[n]? := by
  unfold atI ixN
  rw [if_pos (Int.natCast_nonneg n), if_pos (by omega)]
  rfl
theorem ppool_ok {ns : List Int} {k : Nat} (hk : k < 100) : ∃ t, pg_pool [.nd .bor .fz (ns.map I), I k] = some (t, [none, none]) ∧ Po t 0 := by
  have main : ∀ c : Int, (if (k : Int) < ns.length then ns[k]? else some 0) = some c → ∃ t, pg_pool [.nd .bor .fz (ns.map I), I k] = some (t, [none, none]) ∧ Po t 0 := by
    intro c hc
    have f1 : c.fmod 2305843009213693951 = c % 2305843009213693951 := Int.fmod_eq_emod_of_nonneg _ (by decide)
    have b1 := Int.emod_nonneg c (show (2305843009213693951 : Int) ≠ 0 by decide)
    have b2 := Int.emod_lt_of_pos c (show (0 : Int) < 2305843009213693951 by decide)
    generalize hx : c % 2305843009213693951 = x at *
    have s1 : smallN 7919 = true := smallN_of (by omega) (by omega)
    have s2 : smallN ((k : Int) + 1) = true := smallN_of (by omega) (by omega)
    refine ⟨.nd .own .lst [I (max 0 ((if c < 0 then -c else c) - 1000000000000000000)), I (x + 7919 * (k + 1)), I 0], ?_, ⟨_, _, _, rfl, by omega, by omega, by omega, by omega, by omega⟩⟩
    by_cases q : (k : Int) < ns.length
    · rw [if_pos q] at hc
      have q2 : k < ns.length := by omega
      have ha : atI (ns.map I) (k : Int) = some (I c) := by
        rw [atI_nat (by simpa using q2), List.getElem?_map, hc]
        rfl
      simp [-Option.bind_some, -Zl.append_map, -Zl.append_int, -List.map_take, -List.map_drop, -List.map_reverse, -List.map_set, -List.map_dropLast, -getElem?_pos, pg_pool, pg_pool_S, q2, ha, f1, s1, s2]
    · rw [if_neg q] at hc
      cases hc
      have q2 : ¬ k < ns.length := by omega
      have : x = 0 := by rw [← hx]; rfl
      subst this
      simp [-Option.bind_some, -Zl.append_map, -Zl.append_int, -List.map_take, -List.map_drop, -List.map_reverse, -List.map_set, -List.map_dropLast, -getElem?_pos, pg_pool, pg_pool_S, q2, s1, s2]
  by_cases q : (k : Int) < ns.length
  · exact main ns[k] (by rw [if_pos q, List.getElem?_eq_getElem (by omega)])
  · exact main 0 (by rw [if_neg q])
end Pl

namespace Zl
open PySem L2
/-! ### counts: lists of pairs of ints -/
def tupO (t : Int × Int) : O := .tup [.int t.1, .int t.2]
def tupD (t : Int × Int) : PyData := .tuple [.int t.1, .int t.2]
def RT (G : Hz) (r : Nat) (ts : List (Int × Int)) : Prop := ∃ rs : List Nat, G[r]? = some (.lst (rs.map V.ref)) ∧ rs.map (fun p => G[p]?) = ts.map fun t => some (tupO t)
structure Cnt (ts : List (Int × Int)) : Prop where
  len : ts.length ≤ 12
  rng : ∀ t ∈ ts, 0 ≤ t.1 ∧ t.1 ≤ 30 ∧ 0 ≤ t.2 ∧ t.2 ≤ 1000000000000000000000000000000
structure Ids (ns : List Int) : Prop where
  len : ns.length ≤ 30
  rng : ∀ i ∈ ns, 1 ≤ i ∧ i ≤ 1000000000000000000000000000000
  asc : ns.Pairwise (· < ·)
theorem Ids.small {ns : List Int} (h : Ids ns) : Small ns := ⟨by have := h.len; omega, fun n hn => by have := h.rng n hn; omega⟩
theorem Ids.drop {ns : List Int} (h : Ids ns) (k : Nat) : Ids (ns.drop k) := ⟨by rw [List.length_drop]; have := h.len; omega, fun i hi => h.rng i (List.mem_of_mem_drop hi), h.asc.sublist (List.drop_sublist k ns)⟩
theorem map_mem {G : Hz} {rs : List Nat} {ts : List (Int × Int)} (h : rs.map (fun p => G[p]?) = ts.map fun t => some (tupO t)) {p : Nat} (hp : p ∈ rs) : ∃ t ∈ ts, G[p]? = some (tupO t) := by
  have : G[p]? ∈ rs.map (fun p => G[p]?) := List.mem_map_of_mem (f := fun p => G[p]?) hp
  rw [h] at this
  obtain ⟨t, ht, e⟩ := List.mem_map.mp this
  exact ⟨t, ht, e.symm⟩
theorem map_to {G H : Hz} {rs : List Nat} {ts : List (Int × Int)} (h : rs.map (fun p => G[p]?) = ts.map fun t => some (tupO t)) (k : ∀ p o, G[p]? = some o → p ∈ rs → H[p]? = some o) : rs.map (fun p => H[p]?) = ts.map fun t => some (tupO t) := by
  rw [← h]
  refine List.map_congr_left fun p hp => ?_
  obtain ⟨t, _, e⟩ := map_mem h hp
  rw [e]
  exact k p _ e hp
theorem RT.app {G S : Hz} {r : Nat} {ts : List (Int × Int)} (h : RT G r ts) : RT (G ++ S) r ts := by
  obtain ⟨rs, h1, h2⟩ := h
  exact ⟨rs, get_app h1, map_to h2 fun p o e _ => get_app e⟩
theorem RT.lt {G : Hz} {r : Nat} {ts : List (Int × Int)} (h : RT G r ts) : r < G.length := by
  obtain ⟨rs, h1, _⟩ := h
  exact lt_get h1
/-- a list that begins with an int is changed -/
theorem RT.set {G : Hz} {r a : Nat} {i : Int} {P : List V} {o : O} {ts : List (Int × Int)} (h : RT G r ts) (ha : G[a]? = some (.lst (.int i :: P))) : RT (G.set a o) r ts := by
  obtain ⟨rs, h1, h2⟩ := h
  have hne : a ≠ r := fun z => by
    subst z
    rw [h1] at ha
    cases rs with
    | nil => cases ha
    | cons x rs => cases ha
  refine ⟨rs, by rw [List.getElem?_set_ne hne]; exact h1, map_to h2 fun p o e hp => ?_⟩
  obtain ⟨t, _, e2⟩ := map_mem h2 hp
  have : a ≠ p := fun z => by
    subst z
    rw [e2] at ha
    cases ha
  rw [List.getElem?_set_ne this]
  exact e
theorem rd_tups {G : Hz} {k : Nat} {rs : List Nat} {ts : List (Int × Int)} (h2 : rs.map (fun p => G[p]?) = ts.map fun t => some (tupO t)) : mapO (rdD (k + 1) G) (rs.map V.ref) = some (ts.map tupD) := by
  induction rs generalizing ts with
  | nil =>
    cases ts with
    | nil => rfl
    | cons t ts => cases h2
  | cons p rs ih =>
    cases ts with
    | nil => cases h2
    | cons t ts =>
      rw [List.map_cons, List.map_cons] at h2
      obtain ⟨e1, e2⟩ := List.cons.inj h2
      rw [List.map_cons, mapO_cons, ih e2, rd_tup (ds := [.int t.1, .int t.2]) e1 (by simp)]
      rfl
theorem RT.rd {G : Hz} {r : Nat} {ts : List (Int × Int)} (h : RT G r ts) : rdD 19 G (.ref r) = some (.list (ts.map tupD)) := by
  obtain ⟨rs, h1, h2⟩ := h
  exact rd_lst h1 (rd_tups h2)
theorem tupD_tame {t : Int × Int} (h1 : t.1.natAbs < 10 ^ 150) (h2 : t.2.natAbs < 10 ^ 150) : Tame (tupD t) 400 1 := by
  refine (Tame.tup (L := 152) (k := 0) fun x hx => ?_).mono (by simp) (Nat.le_refl _)
  simp at hx
  rcases hx with rfl | rfl
  · exact .int h1
  · exact .int h2
theorem Cnt.tame {ts : List (Int × Int)} (h : Cnt ts) : Tame (.list (ts.map tupD)) 6000 2 := by
  have := h.len
  refine (Tame.list (L := 400) (k := 1) fun x hx => ?_).mono (by rw [List.length_map]; omega) (Nat.le_refl _)
  obtain ⟨t, ht, rfl⟩ := List.mem_map.mp hx
  have := h.rng t ht
  exact tupD_tame (by omega) (by omega)
/-! ### what is asked of the arguments -/
/-! ### the parts -/
end Zl

namespace Pl
open PySem L2 Zl
/-- a list of int lists, nobody's any more -/
def FL (ds : List (List Int)) : List Tr := ds.map fun d => .nd .frz .lst (d.map I)
@[simp] theorem FL_nil : FL [] = [] := rfl
@[simp] theorem FL_len (ds : List (List Int)) : (FL ds).length = ds.length := List.length_map ..
@[simp] theorem FL_nob (ds : List (List Int)) : nobs (FL ds) = true := nobs_map _ _ fun d => by rw [nob_frz]; exact nobs_I d
@[simp] theorem FL_sh (ds : List (List Int)) : shL (FL ds) = true := shL_map _ _ fun d => rfl
structure PY where
  ds : List (List Int)
  cs : List Int
  g : List Int
/-- a list of natural numbers -/
def NI (ks : List Nat) : List Tr := ks.map fun (k : Nat) => I (k : Int)
@[simp] theorem NI_len (ks : List Nat) : (NI ks).length = ks.length := List.length_map ..
@[simp] theorem NI_sh (ks : List Nat) : shL (NI ks) = true := shL_map _ _ fun _ => rfl
def PY.c (s : PY) : Int := s.cs.getLastD 0
structure PYok (n : Nat) (s : PY) : Prop where
  dl : s.ds.length = n
  cl : s.cs.length = n + 1
  gl : s.g.length ≤ 30 * n
end Pl

namespace Zl
open PySem L2
structure PS where
  c : Int
  g : List Int
  ds : List (List Int)
end Zl

namespace Zl
open PySem L2
/-! ### dangers -/
def dangF (ns : List Int) (row : Int) : Option Nat := (List.range (ns.idxOf row + 1)).find? fun m => decide (row < topAt ns m)
def dangD (ns : List Int) (row : Int) : PyData := match dangF ns row with
  | none => .none
  | some m => .tuple [.int m, .int (ns.idxOf row : Nat)]
/-! ### the law's own dangers -/
/-- the dict of the dangers stands at d -/
structure Dues (H : Hz) (d : Nat) (ns : List Int) : Prop where
  ex : ∃ kvs, H[d]? = some (.dK kvs) ∧ mapO (entD 19 H) kvs = some (ns.map fun n => (Sum.inl n, dangD ns n))
theorem Dues.app {H S : Hz} {d : Nat} {ns : List Int} (h : Dues H d ns) : Dues (H ++ S) d ns := by
  obtain ⟨kvs, h1, h2⟩ := h.ex
  exact ⟨kvs, get_app h1, mapO_mono (fun x y hxy => entD_app hxy) h2⟩
theorem Dues.get {H : Hz} {d : Nat} {ns : List Int} {row : Int} (h : Dues H d ns) (hr : row ∈ ns) : ∃ v, xDK (.ref d) (.int row) H = some (v, H) ∧ rdD 20 H v = some (dangD ns row) ∧ decide (v = .non) = decide (dangF ns row = none) := by
  obtain ⟨kvs, h1, h2⟩ := h.ex
  obtain ⟨v, h3, h4⟩ := entD_get hr h2
  refine ⟨v, by simp [-Option.bind_some, -List.map_take, -List.map_drop, -List.map_append, -List.map_reverse, -List.map_set, -List.map_dropLast, -getElem?_pos, h1, h3], rd_mono h4, ?_⟩
  unfold dangD at h4
  cases q : dangF ns row with
  | none =>
    rw [q] at h4
    dsimp only at h4
    cases v with
    | non => simp [-Option.bind_some, -List.map_take, -List.map_drop, -List.map_append, -List.map_reverse, -List.map_set, -List.map_dropLast, -getElem?_pos]
    | ref b =>
      unfold rdD at h4
      split at h4 <;> first | (cases h4; done) | (obtain ⟨z, _, h4⟩ := bnd h4; cases h4)
    | _ => cases h4
  | some m =>
    rw [q] at h4
    dsimp only at h4
    cases v with
    | non => cases h4
    | _ => simp [-Option.bind_some, -List.map_take, -List.map_drop, -List.map_append, -List.map_reverse, -List.map_set, -List.map_dropLast, -getElem?_pos]
end Zl

namespace Zl
open PySem L2
/-- the ids that one poll makes lost -/
def missL (ns : List Int) (m : Nat) : List Int := (ns.drop m).filter fun row => decide (row < topAt ns m)
/-! ### the law's own -/
end Zl

namespace Zl
open PySem L2
structure Inv9 (ns : List Int) (s : PS) (j : Nat) : Prop where
  le : j ≤ ns.length
  c0 : 0 ≤ s.c
  c1 : s.c ≤ topAt ns j
  sub : ∀ x ∈ s.g, x ∈ ns.take j
  all : ∀ x ∈ ns.take j, x ∈ s.g
end Zl

namespace Pl
open PySem L2 Zl
@[simp] theorem pNe_ee (f g : Fl) : pNe (.nd f .lst []) (.nd g .lst []) = some (B false) := pNe_nil f g []
@[simp] theorem pEq_ee (f g : Fl) : pEq (.nd f .lst []) (.nd g .lst []) = some (B true) := pEq_nil f g []
def aheadL (ns L : List Int) (r : Int) : List Int := L.filter fun m => decide (m < (ns.idxOf r : Nat) + 1)
def behindL (ns L : List Int) (r : Int) : List Int := L.filter fun m => decide (((ns.idxOf r : Nat) : Int) + 1 ≤ m)
/-- what waits finds -/
def passN (ns L : List Int) (r : Int) : Nat := ((aheadL ns L r).filter fun m => decide (r < topAt ns m.toNat)).length
def oT : Option Int → Tr
  | some i => I i
  | none => NN
def WK (f : Fl) (kvs : List (Int × Option Int)) : Tr := .nd f (.dct (kvs.map fun p => .inl p.1)) (kvs.map fun p => oT p.2)
@[simp] theorem WK_v (kvs : List (Int × Option Int)) (i : Nat) (ρ : PSt) : varK i ρ (WK .own kvs) = some (.al i, ρ) := rfl
@[simp] theorem WK_n (f : Fl) (hf : f ≠ .bor) (kvs : List (Int × Option Int)) : (WK f kvs).nob = true := by
  have : nobs (kvs.map fun p => oT p.2) = true := nobs_map _ _ fun p => by cases p.2 <;> rfl
  cases f with
  | bor => exact absurd rfl hf
  | _ => exact this
end Pl

namespace Pl
open PySem L2 Zl
/-! the parts of the ids between the cursors; both programs' forms -/
structure PPt where
  l : List (List Int)
  o : Int
end Pl

namespace Pl
open PySem L2 Zl
structure LGs where
  t : Tr
  gs : List (List Int)
  cur : List Int
end Pl

namespace Pl
open PySem L2 Zl
structure CTs where
  l : List (Int × Int)
  c : Int
/-! bent counts -/
theorem Cnt.one {a b : Int} (h : 0 ≤ a ∧ a ≤ 30 ∧ 0 ≤ b ∧ b ≤ 1000000000000000000000000000000) : Cnt [(a, b)] := ⟨by simp, fun t ht => by rw [List.mem_singleton.mp ht]; exact h⟩
end Pl

namespace Pl
open PySem L2 Zl
inductive Ev where
  | b | c (i : Int) | r (i : Int)
end Pl

namespace Pl
open PySem L2 Zl
/-! what is open -/
structure OS where
  n : Int
  op : List Int
def opS (s : OS) : Ev → Option OS
  | .b => some ⟨s.n + 1, s.op ++ [s.n + 1]⟩
  | .c i => if i ∈ s.op then some ⟨s.n, s.op.filter fun x => decide (x ≠ i)⟩ else none
  | .r i => if i ∈ s.op then some ⟨s.n, s.op.filter fun x => decide (x ≠ i)⟩ else none
theorem opS_c {s s2 : OS} {i : Int} (h : opS s (.c i) = some s2) : i ∈ s.op ∧ s2 = ⟨s.n, s.op.filter fun x => decide (x ≠ i)⟩ := by
  have h : (if i ∈ s.op then some (⟨s.n, s.op.filter fun x => decide (x ≠ i)⟩ : OS) else none) = some s2 := h
  by_cases m : i ∈ s.op
  · rw [if_pos m] at h
    exact ⟨m, (Option.some.inj h).symm⟩
  · rw [if_neg m] at h
    cases h
theorem opS_r {s s2 : OS} {i : Int} (h : opS s (.r i) = some s2) : i ∈ s.op ∧ s2 = ⟨s.n, s.op.filter fun x => decide (x ≠ i)⟩ := opS_c h
def runO : OS → List Ev → Option OS
  | s, [] => some s
  | s, e :: es => (opS s e).bind fun s2 => runO s2 es
theorem runO_app : ∀ (xs ys : List Ev) (s : OS), runO s (xs ++ ys) = (runO s xs).bind fun s2 => runO s2 ys
  | [], ys, s => rfl
  | x :: xs, ys, s => by
    show (opS s x).bind _ = ((opS s x).bind _).bind _
    cases opS s x with
    | none => rfl
    | some s2 => exact runO_app xs ys s2
structure OI (s : OS) : Prop where
  rng : ∀ x ∈ s.op, 1 ≤ x ∧ x ≤ s.n
  asc : s.op.Pairwise (· < ·)
  n0 : 0 ≤ s.n
theorem OI.step {s s2 : OS} {e : Ev} (h : OI s) (q : opS s e = some s2) : OI s2 ∧ s.n ≤ s2.n ∧ s2.n ≤ s.n + 1 := by
  have hn := h.n0
  have del : ∀ i, OI ⟨s.n, s.op.filter fun x => decide (x ≠ i)⟩ := fun i => ⟨fun x hx => h.rng x (List.mem_filter.mp hx).1, h.asc.sublist List.filter_sublist, h.n0⟩
  cases e with
  | b =>
    cases q
    refine ⟨⟨fun x hx => ?_, List.pairwise_append.mpr ⟨h.asc, List.pairwise_singleton _ _, fun a ha b hb => ?_⟩, by dsimp only; omega⟩, by dsimp only; omega, by dsimp only; omega⟩
    · rcases List.mem_append.mp hx with hx | hx
      · have := h.rng x hx; dsimp only; omega
      · rw [List.mem_singleton.mp hx]; dsimp only; omega
    · rw [List.mem_singleton.mp hb]
      have := h.rng a ha
      omega
  | c i =>
    obtain ⟨_, rfl⟩ := opS_c q
    exact ⟨del i, by dsimp only; omega, by dsimp only; omega⟩
  | r i =>
    obtain ⟨_, rfl⟩ := opS_r q
    exact ⟨del i, by dsimp only; omega, by dsimp only; omega⟩
theorem OI.run : ∀ {es : List Ev} {s s2 : OS}, OI s → runO s es = some s2 → OI s2 ∧ s2.n ≤ s.n + es.length
  | [], s, s2, h, q => by cases q; exact ⟨h, by simp⟩
  | e :: es, s, s2, h, q => by
    obtain ⟨s1, q1, q2⟩ := Option.bind_eq_some_iff.mp q
    obtain ⟨h1, h2, h3⟩ := h.step q1
    obtain ⟨g1, g2⟩ := OI.run h1 q2
    exact ⟨g1, by rw [List.length_cons]; omega⟩
def os0 : OS := ⟨0, []⟩
/-- a history -/
structure Hi (hs : List Ev) : Prop where
  len : hs.length ≤ 60
  run : ∃ s, runO os0 hs = some s
theorem Hi.pre {hs ks : List Ev} (h : Hi (hs ++ ks)) : Hi hs := by
  obtain ⟨s, hr⟩ := h.run
  rw [runO_app] at hr
  obtain ⟨s1, h1, _⟩ := Option.bind_eq_some_iff.mp hr
  have := h.len
  rw [List.length_append] at this
  exact ⟨by omega, s1, h1⟩
/-! the dict of the open ids -/
end Pl

namespace Pl
open PySem L2 Zl
theorem OI.len {s : OS} (h : OI s) : (s.op.length : Int) ≤ s.n := by
  have : ∀ (l : List Int) (a : Int), l.Pairwise (· < ·) → (∀ x ∈ l, a < x ∧ x ≤ s.n) → a ≤ s.n → a + l.length ≤ s.n := by
    intro l
    induction l with
    | nil => intro a _ _ ha; simpa using ha
    | cons x l ih =>
      intro a hp hr ha
      obtain ⟨p1, p2⟩ := List.pairwise_cons.mp hp
      have := ih x p2 (fun y hy => ⟨p1 y hy, (hr y (List.mem_cons_of_mem _ hy)).2⟩) (hr x (List.mem_cons_self ..)).2
      have h2 := (hr x (List.mem_cons_self ..)).1
      rw [List.length_cons]
      omega
  have := this s.op 0 h.asc (fun x hx => ⟨by have := (h.rng x hx).1; omega, (h.rng x hx).2⟩) h.n0
  omega
end Pl

namespace Pl
open PySem L2 Zl
def LT (L : List (List Int)) : List Tr := L.map fun d => .nd .own .lst (d.map I)
@[simp] theorem LT_nil : LT [] = [] := rfl
@[simp] theorem LT_len (L : List (List Int)) : (LT L).length = L.length := List.length_map ..
@[simp] theorem LT_nob (L : List (List Int)) : nobs (LT L) = true := nobs_map _ _ fun d => nobs_I d
def BT (L : List (List Int)) : List Tr := L.map fun d => .nd .bor .lst (d.map I)
@[simp] theorem LT_b (L : List (List Int)) : toBs (LT L) = BT L := by
  induction L with
  | nil => rfl
  | cons d L ih =>
    show Tr.toB (.nd .own .lst (d.map I)) :: toBs (LT L) = _
    rw [ih]
    simp [-Option.bind_some, -Zl.append_map, -Zl.append_int, -List.map_take, -List.map_drop, -List.map_reverse, -List.map_set, -List.map_dropLast, -getElem?_pos, BT]
structure LSt where
  t : Tr
  y : List Int
  ids : List Int
  h : Int
structure LI (F ids : List Int) (h h0 w rm : Int) : Prop where
  sub : F.Sublist ids
  asc : ids.Pairwise (· < ·)
  rng : ∀ x ∈ ids, h0 < x ∧ x ≤ h
  lo : h0 ≤ h
  hi : h ≤ h0 + ids.length * w
  len : (ids.length : Int) ≤ rm
theorem LI.add {F ids : List Int} {h h0 w rm r : Int} (s : LI F ids h h0 w rm) (hl : (ids.length : Int) < rm) (r0 : 0 ≤ r) (r1 : r < w) : LI F (ids ++ [h + 1 + r]) (h + 1 + r) h0 w rm where
  sub := s.sub.trans (List.sublist_append_left _ _)
  asc := List.pairwise_append.mpr ⟨s.asc, List.pairwise_singleton _ _, fun a ha b hb => by
    rw [List.mem_singleton.mp hb]
    have := (s.rng a ha).2
    omega⟩
  rng := fun x hx => by
    have lo := s.lo
    rcases List.mem_append.mp hx with hx | hx
    · have := s.rng x hx; omega
    · rw [List.mem_singleton.mp hx]; omega
  lo := by have := s.lo; omega
  hi := by
    have := s.hi
    rw [List.length_append, List.length_singleton]
    have e : (((ids.length + 1 : Nat) : Int)) * w = ids.length * w + w := by rw [Int.natCast_add, Int.add_mul]; simp
    omega
  len := by rw [List.length_append, List.length_singleton]; omega
theorem LI.snoc {F ids : List Int} {h h0 w rm x : Int} {a : List Int} (s : LI F ids h h0 w rm) (hl : (ids.length : Int) < rm) (r : Int) (r0 : 0 ≤ r) (r1 : r < w) : LI (F ++ [h + 1 + r]) (ids ++ [h + 1 + r]) (h + 1 + r) h0 w rm where
  sub := s.sub.append (List.Sublist.refl _)
  asc := (s.add hl r0 r1).asc
  rng := (s.add hl r0 r1).rng
  lo := (s.add hl r0 r1).lo
  hi := (s.add hl r0 r1).hi
  len := (s.add hl r0 r1).len
end Pl

namespace Pl
open PySem L2 Zl
structure LS2 where
  t : Tr
  L : List (List Int)
  ids : List Int
  h : Int
end Pl

namespace Pl
open PySem L2 Zl
structure LS3 where
  t : Tr
  ids : List Int
  h : Int
structure Lg (L : List (List Int)) : Prop where
  len : L.length ≤ 12
  ids : Ids L.flatten
theorem LI.ids {F ids : List Int} {h h0 w rm : Int} (s : LI F ids h h0 w rm) (h00 : 0 ≤ h0) (hw : 0 ≤ w) (hm : h0 + 30 * w ≤ 1000000000000000000000000000000) (hr : rm ≤ 30) : Ids ids where
  len := by have := s.len; omega
  asc := s.asc
  rng := fun x hx => by
    have h1 := s.rng x hx
    have h2 := s.hi
    have h3 : (ids.length : Int) * w ≤ 30 * w := Int.mul_le_mul_of_nonneg_right (by have := s.len; omega) hw
    omega
theorem Ids.sub {F ids : List Int} (o : Ids ids) (s : F.Sublist ids) : Ids F := ⟨Nat.le_trans s.length_le o.len, fun i hi => o.rng i (s.subset hi), o.asc.sublist s⟩
end Pl

namespace Pl
open PySem L2 Zl
section
variable {β : Type} {g g1 : PG} {t t1 : PT} {w1 : PI} {vs vs1 : List Nat} {e : PE} {kk : Bool} {ρ ρ0 : PSt} {w : PI}
end
theorem BT_sh2 (L : List (List Int)) : shL (L.map fun d => Tr.nd .bor .lst (d.map I)) = true := shL_map _ _ fun _ => rfl
@[simp] theorem BT_sh (L : List (List Int)) : shL (BT L) = true := BT_sh2 L
@[simp] theorem BT_b (L : List (List Int)) : toBs (BT L) = BT L := by
  unfold BT
  rw [toBs_map]
  exact List.map_congr_left fun d _ => by simp [-Option.bind_some, -Zl.append_map, -Zl.append_int, -List.map_take, -List.map_drop, -List.map_reverse, -List.map_set, -List.map_dropLast, -getElem?_pos]
end Pl

namespace Pl
open PySem L2 Zl
structure RS where
  r : List (Int × Int)
  c : List Int
  b : Int
  n : Int
def rs2 (s : RS) (x : Int) : RS := if s.b + 1 < x then ⟨s.r ++ [(s.b + 1, x - 1)], s.c ++ [s.n], x, 1⟩ else ⟨s.r, s.c, x, s.n + 1⟩
end Pl

namespace Pl
open PySem L2 Zl
structure SO where
  t : Tr
  f : List Int
end Pl

namespace Pl
open PySem L2 Zl
theorem flat_set {L : List (List Int)} {k : Nat} {d e : List Int} (h : L[k]? = some d) (s : e.Sublist d) : (L.set k e).flatten.Sublist L.flatten := by
  induction L generalizing k with
  | nil => cases h
  | cons a L ih =>
    cases k with
    | zero =>
      cases h
      rw [List.set_cons_zero, List.flatten_cons, List.flatten_cons]
      exact s.append (List.Sublist.refl _)
    | succ k =>
      rw [List.set_cons_succ, List.flatten_cons, List.flatten_cons]
      exact (List.Sublist.refl _).append (ih h)
theorem Lg.set {L : List (List Int)} (h : Lg L) {k : Nat} {d e : List Int} (hd : L[k]? = some d) (s : e.Sublist d) : Lg (L.set k e) := ⟨by rw [List.length_set]; exact h.len, Ids.sub h.ids (flat_set hd s)⟩
theorem flat_erase (L : List (List Int)) (k : Nat) : (L.eraseIdx k).flatten.Sublist L.flatten := by
  induction L generalizing k with
  | nil => exact List.Sublist.refl _
  | cons a L ih =>
    cases k with
    | zero =>
      rw [List.eraseIdx_cons_zero, List.flatten_cons]
      exact List.sublist_append_right _ _
    | succ k =>
      rw [List.eraseIdx_cons_succ, List.flatten_cons, List.flatten_cons]
      exact (List.Sublist.refl _).append (ih k)
theorem Lg.erase {L : List (List Int)} (h : Lg L) (k : Nat) : Lg (L.eraseIdx k) := ⟨Nat.le_trans (List.length_eraseIdx_le ..) h.len, Ids.sub h.ids (flat_erase L k)⟩
end Pl

namespace Pl
open PySem L2 Zl
def btw (p q : Int × Int) (x : Int) : Bool := decide (p.2 < x) && decide (x < q.1)
def cst (ns : List Int) (p q : Int × Int) : Int := ((ns.filter (btw p q)).length : Int)
def lastR (r : List (Int × Int)) : Int := (r.getLast?.map (·.2)).getD 0
structure RI (pre : List Int) (s : RS) : Prop where
  len : s.c.length = s.r.length
  lt : ∀ p ∈ s.r, p.1 ≤ s.b ∧ p.2 < s.b
  le : ∀ x ∈ pre, x ≤ s.b
  b0 : 0 ≤ s.b
  n : s.n = ((pre.filter fun x => decide (lastR s.r < x)).length : Int)
  cs : ∀ i p q, s.r[i]? = some p → s.r[i + 1]? = some q → s.c[i + 1]? = some (cst pre p q)
  sum : s.c.sum + s.n = pre.length
  nn : ∀ x ∈ s.c, 0 ≤ x
theorem lastR_lt {pre : List Int} {s : RS} (h : RI pre s) {x : Int} (hx : s.b < x) : lastR s.r < x := by
  have hb := h.b0
  unfold lastR
  cases e : s.r.getLast? with
  | none => show (0 : Int) < x; omega
  | some p =>
    have := h.lt p (List.mem_of_getLast? e)
    show p.2 < x
    omega
theorem RI.step {pre : List Int} {s : RS} (h : RI pre s) {x : Int} (hx : s.b < x) : RI (pre ++ [x]) (rs2 s x) := by
  have hb := h.b0
  have hn0 : 0 ≤ s.n := by rw [h.n]; omega
  have hl := lastR_lt h hx
  have le2 : ∀ y ∈ pre ++ [x], y ≤ x := fun y hy => by
    rcases List.mem_append.mp hy with hy | hy
    · have := h.le y hy; omega
    · rw [List.mem_singleton.mp hy]; omega
  have oldc : ∀ p q : Int × Int, q ∈ s.r → cst (pre ++ [x]) p q = cst pre p q := fun p q hq => by
    have := (h.lt q hq).1
    unfold cst
    rw [List.filter_append, List.filter_cons_of_neg (by unfold btw; simp; omega)]
    simp
  by_cases w : s.b + 1 < x
  · have e : rs2 s x = ⟨s.r ++ [(s.b + 1, x - 1)], s.c ++ [s.n], x, 1⟩ := if_pos w
    rw [e]
    refine ⟨by simp [h.len], fun p hp => ?_, le2, by dsimp only; omega, ?_, fun i p q hp hq => ?_, ?_, fun y hy => ?_⟩
    · rcases List.mem_append.mp hp with hp | hp
      · have := h.lt p hp; dsimp only; omega
      · rw [List.mem_singleton.mp hp]; dsimp only; omega
    · have : lastR (s.r ++ [(s.b + 1, x - 1)]) = x - 1 := by unfold lastR; simp
      show (1 : Int) = ((List.filter (fun y => decide (lastR (s.r ++ [(s.b + 1, x - 1)]) < y)) (pre ++ [x])).length : Int)
      rw [this, List.filter_append, List.filter_eq_nil_iff.mpr fun y hy => by have := h.le y hy; simp; omega, List.filter_cons_of_pos (by simp; omega)]
      simp
    · have hi : i + 1 ≤ s.r.length := by
        have := (List.getElem?_eq_some_iff.mp hq).1
        simp at this
        omega
      have hp' : s.r[i]? = some p := by
        have hp : (s.r ++ [(s.b + 1, x - 1)])[i]? = some p := hp
        rwa [List.getElem?_append_left (by omega)] at hp
      by_cases q1 : i + 1 < s.r.length
      · have hq : (s.r ++ [(s.b + 1, x - 1)])[i + 1]? = some q := hq
        rw [List.getElem?_append_left q1] at hq
        show (s.c ++ [s.n])[i + 1]? = _
        rw [List.getElem?_append_left (by rw [h.len]; exact q1), h.cs i p q hp' hq, oldc p q (List.mem_of_getElem? hq)]
      · have q2 : i + 1 = s.r.length := by omega
        have hq : (s.r ++ [(s.b + 1, x - 1)])[i + 1]? = some q := hq
        rw [q2, List.getElem?_concat_length] at hq
        cases hq
        show (s.c ++ [s.n])[i + 1]? = _
        rw [q2, ← h.len, List.getElem?_concat_length, h.n]
        congr 1
        have hla : lastR s.r = p.2 := by
          unfold lastR
          rw [List.getLast?_eq_getElem?, show s.r.length - 1 = i by omega, hp']
          rfl
        unfold cst
        rw [hla, List.filter_append, List.filter_cons_of_neg (by unfold btw; simp; omega)]
        rw [List.filter_congr (q := btw p (s.b + 1, x - 1)) fun y hy => by
          have := h.le y hy
          unfold btw
          rw [decide_eq_true (show y < (s.b + 1, x - 1).1 by dsimp only; omega), Bool.and_true]]
        simp
    · show (s.c ++ [s.n]).sum + 1 = _
      have := h.sum
      rw [List.sum_append, List.length_append]
      simp
      omega
    · rcases List.mem_append.mp hy with hy | hy
      · exact h.nn y hy
      · rw [List.mem_singleton.mp hy]; exact hn0
  · have e : rs2 s x = ⟨s.r, s.c, x, s.n + 1⟩ := if_neg w
    rw [e]
    refine ⟨h.len, fun p hp => ?_, le2, by dsimp only; omega, ?_, fun i p q hp hq => ?_, ?_, h.nn⟩
    · have := h.lt p hp; dsimp only; omega
    · show s.n + 1 = ((List.filter (fun y => decide (lastR s.r < y)) (pre ++ [x])).length : Int)
      rw [List.filter_append, List.filter_cons_of_pos (by simpa using hl), List.length_append, h.n]
      simp
    · show s.c[i + 1]? = _
      rw [h.cs i p q hp hq, oldc p q (List.mem_of_getElem? hq)]
    · show s.c.sum + (s.n + 1) = _
      have := h.sum
      rw [List.length_append]
      simp
      omega
end Pl

namespace Pl
open PySem L2 Zl
def lexL (x y : Int × Int) : Bool := SrtO.lexB x y
def srtP (cs : List (Int × Int)) : List (Int × Int) := cs.mergeSort (leB lexL)
end Pl

namespace Pl
open PySem L2 Zl
structure SP where
  n : Int
  kvs : List (Int × Int)
def spS (z : SP) : Ev → SP
  | .b => ⟨z.n + 1, z.kvs⟩
  | .c i => ⟨z.n, z.kvs ++ [(i, z.n - i)]⟩
  | .r _ => z
def spL (hs : List Ev) : SP := hs.foldl spS ⟨0, []⟩
structure SPI (s : OS) (z : SP) : Prop where
  n : z.n = s.n
  ko : ∀ p ∈ z.kvs, p.1 ∉ s.op ∧ 1 ≤ p.1 ∧ p.1 ≤ s.n
  nd : (z.kvs.map (·.1)).Nodup
  v : ∀ p ∈ z.kvs, 0 ≤ p.2 ∧ p.2 ≤ s.n
theorem SPI.step {s s2 : OS} {z : SP} {e : Ev} (h : SPI s z) (o : OI s) (q : opS s e = some s2) : SPI s2 (spS z e) := by
  have hn := o.n0
  cases e with
  | b =>
    cases q
    refine ⟨by show z.n + 1 = s.n + 1; rw [h.n], fun p hp => ?_, h.nd, fun p hp => ?_⟩
    · obtain ⟨a, b, c⟩ := h.ko p hp
      refine ⟨fun m => ?_, b, by dsimp only; omega⟩
      rcases List.mem_append.mp m with m | m
      · exact a m
      · have := List.mem_singleton.mp m
        omega
    · have := h.v p hp
      dsimp only
      omega
  | c i =>
    obtain ⟨m, rfl⟩ := opS_c q
    have ri := o.rng i m
    have hz := h.n
    refine ⟨h.n, fun p hp => ?_, ?_, fun p hp => ?_⟩
    · rcases List.mem_append.mp hp with hp | hp
      · obtain ⟨a, b, c⟩ := h.ko p hp
        exact ⟨fun w => a (List.mem_filter.mp w).1, b, c⟩
      · rw [List.mem_singleton.mp hp]
        refine ⟨fun w => ?_, ri.1, ri.2⟩
        have := (List.mem_filter.mp w).2
        simp at this
    · show ((z.kvs ++ [(i, z.n - i)]).map (·.1)).Nodup
      rw [List.map_append]
      refine List.nodup_append.mpr ⟨h.nd, by simp, fun a ha b hb w => ?_⟩
      obtain ⟨p, hp, rfl⟩ := List.mem_map.mp ha
      have hb : b = i := by simpa using hb
      exact (h.ko p hp).1 (by rw [w, hb]; exact m)
    · rcases List.mem_append.mp hp with hp | hp
      · exact h.v p hp
      · rw [List.mem_singleton.mp hp]
        dsimp only
        omega
  | r i =>
    obtain ⟨m, rfl⟩ := opS_r q
    refine ⟨h.n, fun p hp => ?_, h.nd, h.v⟩
    obtain ⟨a, b, c⟩ := h.ko p hp
    exact ⟨fun w => a (List.mem_filter.mp w).1, b, c⟩
def KD (kvs : List (Int × Int)) : Tr := .nd .own (.dct ((kvs.map (·.1)).map .inl)) (kvs.map fun p => I p.2)
theorem sp_len (hs : List Ev) : ∀ z : SP, (hs.foldl spS z).kvs.length ≤ z.kvs.length + hs.length := by
  induction hs with
  | nil => intro z; simp
  | cons e hs ih =>
    intro z
    have h := ih (spS z e)
    have h2 : (spS z e).kvs.length ≤ z.kvs.length + 1 := by
      cases e with
      | b => show z.kvs.length ≤ _; omega
      | c i => show (z.kvs ++ [(i, z.n - i)]).length ≤ _; simp
      | r i => show z.kvs.length ≤ _; omega
    rw [List.foldl_cons, List.length_cons]
    omega
def SD (kvs : List (Int × Int)) : Tr := KD (srtP kvs)
end Pl

namespace Zl
open PySem L2
section
variable {α : Type}
end
def duesR (d n : Nat) : List V := (List.range (n + 1)).map fun i => V.ref (d + 1 + i : Nat)
/-- the lists stand at d -/
structure Miss (H : Hz) (d : Nat) (ns : List Int) : Prop where
  at_ : H[d]? = some (.lst (duesR d ns.length))
  it : ∀ m, m ≤ ns.length → H[d + 1 + m]? = some (.lst ((isort (missL ns m)).map V.int))
theorem Miss.app {H S : Hz} {d : Nat} {ns : List Int} (h : Miss H d ns) : Miss (H ++ S) d ns := ⟨get_app h.at_, fun m hm => get_app (h.it m hm)⟩
end Zl

namespace Pl
open PySem L2 Zl
abbrev tpA (ns : List Int) (k : Int) : Int := topAt ns k.toNat
structure IY (p : Nat) (ns pre : List Int) (s : PY) : Prop where
  cs : s.cs = 0 :: pre.map (tpA ns)
  dl : s.ds.length = pre.length
  mem : ∀ r ∈ ns, (r ∈ s.g ↔ behindL ns pre r ≠ [] ∧ passN ns pre r ≤ p)
  sub : ∀ x ∈ s.g, x ∈ ns
  fl : s.ds.flatten = s.g
end Pl

namespace Pl
open PySem L2 Zl
structure HG where
  t : Tr
  hs : List Ev
  s : OS
structure HGI (k j : Nat) (z : HG) : Prop where
  po : Po z.t (k + 4 * j)
  run : runO os0 z.hs = some z.s
  len : z.hs.length = j
theorem HGI.add {k j : Nat} {z : HG} (h : HGI k j z) {t : Tr} {e : Ev} {s2 : OS} (p : Po t (k + 4 * (j + 1))) (q : opS z.s e = some s2) : HGI k (j + 1) ⟨t, z.hs ++ [e], s2⟩ := ⟨p, by rw [runO_app, h.run]; show (opS z.s e).bind _ = _; rw [q]; rfl, by rw [List.length_append, h.len]; rfl⟩
end Pl

namespace Pl
open PySem L2 Zl
theorem kv0 : SD (spL []).kvs = .nd .own (.dct []) [] := by
  have s : srtP [] = [] := List.perm_nil.mp (List.mergeSort_perm _ _)
  unfold SD
  rw [show (spL []).kvs = [] from rfl, s]
  rfl
end Pl

namespace Pl
open PySem L2 Zl
/-- the top at a moment -/
structure Top (ns : List Int) (m : Nat) (v : Int) : Prop where
  get : (tops ns)[m]? = some v
  ge : ∀ x ∈ ns.take m, x ≤ v
  is : v = 0 ∨ v ∈ ns.take m
  nn : 0 ≤ v
theorem Top.at {ns : List Int} {m : Nat} {v : Int} (h : Top ns m v) : atI ((tops ns).map I) (m : Int) = some (I v) := by
  rw [atI_nat (by rw [List.length_map]; exact (List.getElem?_eq_some_iff.mp h.get).1), List.getElem?_map, h.get]
  rfl
def missL (ns : List Int) (m : Nat) (v : Int) : List Int := isort ((ns.drop m).filter fun x => decide (x < v))
end Pl

namespace Pl
open PySem L2 Zl
def isC : Ev → Bool
  | .c _ => true
  | _ => false
def rowE : Ev → Int
  | .b => 0
  | .c i => i
  | .r i => i
def ordL (hs : List Ev) : List Int := (hs.filter isC).map rowE
theorem Hi.take {hs : List Ev} (h : Hi hs) (p : Nat) : Hi (hs.take p) := Hi.pre (ks := hs.drop p) (by rw [List.take_append_drop]; exact h)
def safeV (s : OS) : Int := match s.op with
  | [] => s.n
  | m :: _ => m - 1
end Pl

namespace Pl
open PySem L2 Zl
/-- one position: all but the step to the next -/
structure PosF (hs A D : List Ev) (s : OS) (v : Int) : Prop where
  hi : Hi hs
  e : hs = A ++ D
  run : runO os0 A = some s
  oi : OI s
  sm : s.op.length ≤ 60
  n60 : s.n ≤ 60
  tk : (ordL hs).take (ordL A).length = ordL A
  dr : (ordL hs).drop (ordL A).length = ordL D
  le : (ordL A).length ≤ (ordL hs).length
  l2 : ∀ x ∈ ordL D, ¬ x ≤ safeV s
  tp : Top (ordL hs) (ordL A).length v
  vn : v ≤ s.n
  m1 : ∀ x ∈ missL (ordL hs) (ordL A).length v, ¬ x ≤ safeV s
  m2 : ∀ x ∈ missL (ordL hs) (ordL A).length v, x ∈ s.op
  ml : (missL (ordL hs) (ordL A).length v).length ≤ 60
end Pl

namespace Pl
open PySem L2 Zl
structure BS where
  s : OS
  o : List Int
end Pl

namespace Pl
open PySem L2 Zl
/-! k00: the errors and their fields -/
abbrev rs00 : List Nat := [0, 1, 2, 3, 4, 5, 6, 7, 8, 9, 10, 11, 12, 13, 14, 15, 16, 17, 18, 19, 20]
theorem mem00 {c : Nat} (h : c < 21) : c ∈ rs00 := (by decide : ∀ c < 21, c ∈ rs00) c h
theorem isJ00 {c i : Nat} (h : c % 32 < 21) : isJ [0, 1, 2, 3, 4, 5, 6, 7, 8, 9, 10, 11, 12, 13, 14, 15, 16, 17, 18, 19, 20] [i] c = some (decide (c % 32 = i)) := by
  unfold isJ
  rw [if_pos (mem00 h)]
  congr 1
  exact decide_eq_decide.mpr List.mem_singleton
theorem isV00 {c : Nat} (h : c % 32 < 21) : isV [0, 1, 2, 3, 4, 5, 6, 7, 8, 9, 10, 11, 12, 13, 14, 15, 16, 17, 18, 19, 20] c = some true := by
  unfold isV
  exact if_pos (mem00 h)
def kd00 (c : Nat) : List Bool := (List.range 20).map fun i => decide (c % 32 = i)
theorem kd00_B (c : Nat) : (kd00 c).map B = [B (decide (c % 32 = 0)), B (decide (c % 32 = 1)), B (decide (c % 32 = 2)), B (decide (c % 32 = 3)), B (decide (c % 32 = 4)), B (decide (c % 32 = 5)), B (decide (c % 32 = 6)), B (decide (c % 32 = 7)), B (decide (c % 32 = 8)), B (decide (c % 32 = 9)), B (decide (c % 32 = 10)), B (decide (c % 32 = 11)), B (decide (c % 32 = 12)), B (decide (c % 32 = 13)), B (decide (c % 32 = 14)), B (decide (c % 32 = 15)), B (decide (c % 32 = 16)), B (decide (c % 32 = 17)), B (decide (c % 32 = 18)), B (decide (c % 32 = 19))] := rfl
theorem pkinds00 {c : Nat} (h : c % 32 < 21) : pg_kinds_k00 [.nd .bor (.ex c) []] = some (.nd .own .lst ((kd00 c).map B), [none]) := by
  have j : ∀ i, isJ [0, 1, 2, 3, 4, 5, 6, 7, 8, 9, 10, 11, 12, 13, 14, 15, 16, 17, 18, 19, 20] [i] c = some (decide (c % 32 = i)) := fun i => isJ00 h
  have vk : ∀ ρ, varK 0 ρ (.nd .bor (.ex c) []) = some (.t (.nd .bor (.ex c) []), ρ) := fun _ => rfl
  rw [kd00_B]
  simp [-Option.bind_some, -Zl.append_map, -Zl.append_int, -List.map_take, -List.map_drop, -List.map_reverse, -List.map_set, -List.map_dropLast, -getElem?_pos, pg_kinds_k00, pg_kinds_k00_S, j, vk]
theorem neB {f g : Fl} (xs : List Bool) (h : xs.length ≤ 100) : pNe (.nd f .lst (xs.map B)) (.nd g .lst (xs.map B)) = some (B false) := by
  have r1 := Rd.list (f := f) (xs := xs) (g := B) (d := PyData.bool) (L := 5) (k := 0) fun b _ => Rd.bl b
  have r2 := Rd.list (f := g) (xs := xs) (g := B) (d := PyData.bool) (L := 5) (k := 0) fun b _ => Rd.bl b
  show eqD true _ _ = _
  unfold eqD
  have e1 : rdT dep (.nd f .lst (xs.map B)) = some _ := r1.rd 20 (by omega)
  have e2 : rdT dep (.nd g .lst (xs.map B)) = some _ := r2.rd 20 (by omega)
  have sh := r1.tm.shaped (by omega)
  rw [e1, e2]
  dsimp only
  rw [if_pos ⟨sh, sh⟩, eqv_refl _ r1.tm.nd]
  rfl
/-! the body of the walk -/
theorem pc3_00 {a b c d e g i j : Tr} {s : Nat} : pg_law_k00_C3 [some a, some b, some c, some d, some e, some g, some (I (s : Int)), some i, none, none, none] = some (.t (.nd .own .lst (((List.range 20).map fun k => decide (k = s)).map B)), [some a, some b, some c, some d, some e, some g, some (I (s : Int)), some i, none, none, none]) := by
  unfold pg_law_k00_C3
  rw [comp_m (fun (k : Nat) => I (k : Int)) (List.range 20) (fun k => B (decide (k = s))) (ρ0 := [some a, some b, some c, some d, some e, some g, some (I (s : Int)), some i, none, none, none]) (by simp [-Option.bind_some, -Zl.append_map, -Zl.append_int, -List.map_take, -List.map_drop, -List.map_reverse, -List.map_set, -List.map_dropLast, -getElem?_pos, small62_nat (i := 20) (by omega) (by omega), show rgT 0 20 = _ from rgTN 20]) (by simp [-Option.bind_some, -Zl.append_map, -Zl.append_int, -List.map_take, -List.map_drop, -List.map_reverse, -List.map_set, -List.map_dropLast, -getElem?_pos]) (fun y hy acc hl => by
    have z : decide ((y : Int) = (s : Int)) = decide (y = s) := decide_eq_decide.mpr (by omega)
    simp [-Option.bind_some, -Zl.append_map, -Zl.append_int, -List.map_take, -List.map_drop, -List.map_reverse, -List.map_set, -List.map_dropLast, -getElem?_pos, hl, z])]
  rw [List.map_map]
  rfl
theorem law00_B2 {a b c d e g : Tr} {s k : Nat} (h : k % 32 = s) (hs : s < 20) : pg_law_k00_B2 [some a, some b, some c, some d, some e, some g, some (I (s : Int)), some (.nd .frz (.ex k) []), none, none, none] = some (.nx [some a, some b, some c, some d, some e, some g, none, none, none, none, none]) := by
  have v := isV00 (c := k) (by omega)
  have kn := pkinds00 (c := k) (by omega)
  have c3 := pc3_00 (a := a) (b := b) (c := c) (d := d) (e := e) (g := g) (i := .nd .frz (.ex k) []) (j := a) (s := s)
  have ee : ((List.range 20).map fun q => decide (q = s)) = kd00 k := by
    unfold kd00
    rw [h]
    exact List.map_congr_left fun q _ => decide_eq_decide.mpr ⟨Eq.symm, Eq.symm⟩
  rw [ee] at c3
  have ne := neB (f := .own) (g := .own) (kd00 k) (by unfold kd00; rw [List.length_map, List.length_range]; decide)
  generalize (kd00 k).map B = Z at *
  simp [-Option.bind_some, -Zl.append_map, -Zl.append_int, -List.map_take, -List.map_drop, -List.map_reverse, -List.map_set, -List.map_dropLast, -getElem?_pos, pg_law_k00_B2, v, kn, c3, ne]
def cds00 (q : Nat) : List Nat := [0, 1, 2, 3, 4, 5, 6, 7, 8, 9, 10, 11, 12, 13, 14, 15, exC 16 q, exC 17 q, exC 18 q, exC 19 q]
theorem cds00_at (q : Nat) : ∀ i k, (cds00 q)[i]? = some k → k % 32 = i ∧ i < 20 := by
  intro i k h
  have hi := (List.getElem?_eq_some_iff.mp h).1
  have hi : i < 20 := hi
  refine ⟨?_, hi⟩
  have key : ∀ i < 20, ∀ k, (cds00 q)[i]? = some k → k % 32 = i := by
    intro i hi k h
    rcases (by omega : i = 0 ∨ i = 1 ∨ i = 2 ∨ i = 3 ∨ i = 4 ∨ i = 5 ∨ i = 6 ∨ i = 7 ∨ i = 8 ∨ i = 9 ∨ i = 10 ∨ i = 11 ∨ i = 12 ∨ i = 13 ∨ i = 14 ∨ i = 15 ∨ i = 16 ∨ i = 17 ∨ i = 18 ∨ i = 19) with rfl | rfl | rfl | rfl | rfl | rfl | rfl | rfl | rfl | rfl | rfl | rfl | rfl | rfl | rfl | rfl | rfl | rfl | rfl | rfl <;> first
      | (cases h; rfl)
      | (cases h; exact exC_mod (by decide))
  exact key i hi k h
def emE00 (p : Nat × Nat) : Tr := .nd .own .tup [I (p.2 : Int), .nd .frz (.ex p.1) []]
theorem law00_F2 {a b c d g : Tr} {q : Nat} : pg_law_k00_F2 [some a, some b, some c, some d, some (.nd .own .lst ((cds00 q).map fun k => .nd .frz (.ex k) [])), some g, none, none, none, none, none] = some (.nx [some a, some b, some c, some d, some (.nd .own .lst ((cds00 q).map fun k => .nd .frz (.ex k) [])), some g, none, none, none, none, none]) := by
  have en : enT 0 ((cds00 q).map fun k => Tr.nd .frz (.ex k) []) = (cds00 q).zipIdx.map emE00 := by
    unfold enT
    rw [List.zipIdx_map, List.map_map]
    refine List.map_congr_left fun p _ => ?_
    show U .own [I (0 + (p.2 : Int)), Tr.nd .frz (.ex p.1) []] = _
    rw [Int.zero_add]
    rfl
  have sh : shL ((cds00 q).map fun k => Tr.nd .frz (.ex k) []) = true := shL_map _ _ fun _ => rfl
  have at_ := cds00_at q
  have hl : (cds00 q).length = 20 := rfl
  generalize cds00 q = cs at *
  obtain ⟨_, e, _⟩ := for_R (g := gU [gS 6, gS 7]) (b := pg_law_k00_B2) (w := wEn 0 (pVar 4)) (ρ := [some a, some b, some c, some d, some (.nd .own .lst (cs.map fun k => .nd .frz (.ex k) [])), some g, none, none, none, none, none]) emE00 cs.zipIdx (fun (_ : Unit) => [some a, some b, some c, some d, some (.nd .own .lst (cs.map fun k => .nd .frz (.ex k) [])), some g, none, none, none, none, none]) (fun _ _ => True) ()
    (by rw [← en]; generalize (cs.map fun k => Tr.nd .frz (.ex k) []) = C at *; simp [-Option.bind_some, -Zl.append_map, -Zl.append_int, -List.map_take, -List.map_drop, -List.map_reverse, -List.map_set, -List.map_dropLast, -getElem?_pos, sh]) (by rw [List.length_zipIdx]; omega) trivial (fun pre y post u e _ => by
      have hy : cs.zipIdx[pre.length]? = some y := by rw [e, List.getElem?_append_right (Nat.le_refl _), Nat.sub_self]; rfl
      rw [List.getElem?_zipIdx] at hy
      obtain ⟨v, hv, ey⟩ := Option.map_eq_some_iff.mp hy
      rw [Nat.zero_add] at ey
      subst ey
      obtain ⟨h1, h2⟩ := at_ _ _ hv
      have b2 := law00_B2 (a := a) (b := b) (c := c) (d := d) (e := .nd .own .lst (cs.map fun k => .nd .frz (.ex k) [])) (g := g) h1 h2
      refine ⟨(), .inl ?_, trivial⟩
      show (gU [gS 6, gS 7] (Tr.nd .own .tup [I (pre.length : Int), .nd .frz (.ex v) []]) _).bind _ = _
      generalize (cs.map fun k => Tr.nd .frz (.ex k) []) = C at *
      simp [-Option.bind_some, -Zl.append_map, -Zl.append_int, -List.map_take, -List.map_drop, -List.map_reverse, -List.map_set, -List.map_dropLast, -getElem?_pos, b2])
  exact e
/-! the fields -/
theorem row00 {k : Nat} {n : Str} {f : Fl} {v : Int} (h16 : 16 ≤ k) (h20 : k < 20) (hn : fldL.getD (k - 16) "" = n) : pRow [0, 1, 2, 3, 4, 5, 6, 7, 8, 9, 10, 11, 12, 13, 14, 15, 16, 17, 18, 19, 20] n (.nd f (.ex (exC k (zig v))) []) = some (I v) := by
  rw [pRow_ev, if_pos (by rw [exC_mod (by omega)]; exact mem00 (by omega)), payF_exC h16 h20]
  show rwV n (fldL.getD (k - 16) "", zag (zig v)) = _
  unfold rwV
  rw [if_pos hn, zag_payC (v := .int v) rfl]
  rfl
theorem raised00 {w : Nat} {v : Int} (hw : w < 4) : pg_raised_k00 [I (w : Int), I v] = some (I v, [none, none]) := by
  have m16 : exC 16 (zig v) % 32 = 16 := exC_mod (by decide)
  have m17 : exC 17 (zig v) % 32 = 17 := exC_mod (by decide)
  have m18 : exC 18 (zig v) % 32 = 18 := exC_mod (by decide)
  have m19 : exC 19 (zig v) % 32 = 19 := exC_mod (by decide)
  have r16 := row00 (k := 16) (n := "row") (f := .own) (v := v) (by omega) (by omega) rfl
  have r17 := row00 (k := 17) (n := "reader") (f := .own) (v := v) (by omega) (by omega) rfl
  have r18 := row00 (k := 18) (n := "position") (f := .own) (v := v) (by omega) (by omega) rfl
  have r19 := row00 (k := 19) (n := "limit") (f := .own) (v := v) (by omega) (by omega) rfl
  match w, hw with
  | 0, _ => simp [-Option.bind_some, -Zl.append_map, -Zl.append_int, -List.map_take, -List.map_drop, -List.map_reverse, -List.map_set, -List.map_dropLast, -getElem?_pos, pg_raised_k00, pg_raised_k00_S, exT, m16, r16]
  | 1, _ => simp [-Option.bind_some, -Zl.append_map, -Zl.append_int, -List.map_take, -List.map_drop, -List.map_reverse, -List.map_set, -List.map_dropLast, -getElem?_pos, pg_raised_k00, pg_raised_k00_S, exT, m17, r17]
  | 2, _ => simp [-Option.bind_some, -Zl.append_map, -Zl.append_int, -List.map_take, -List.map_drop, -List.map_reverse, -List.map_set, -List.map_dropLast, -getElem?_pos, pg_raised_k00, pg_raised_k00_S, exT, m18, r18]
  | 3, _ => simp [-Option.bind_some, -Zl.append_map, -Zl.append_int, -List.map_take, -List.map_drop, -List.map_reverse, -List.map_set, -List.map_dropLast, -getElem?_pos, pg_raised_k00, pg_raised_k00_S, exT, m19, r19]
end Pl

namespace Pl
open PySem L2 Zl
/-! k00: the law -/
theorem mul00 : A2 bMulS (S "x") (I 40) = some (S (Txt.mul "x" 40)) := by
  have e : bMulS (.str "x") (.int 40) [] = some (.str (Txt.mul "x" 40), []) := by
    unfold bMulS
    exact if_pos (by decide +kernel)
  have h : A2 bMulS (.av (.str "x")) (.av (.int 40)) = some (.av (.str (Txt.mul "x" 40))) := by
    unfold A2
    dsimp only
    rw [e]
    rfl
  exact h
theorem c4_00 {a b c d e g i j : Tr} {v : Int} : pg_law_k00_C4 [some a, some b, some c, some d, some e, some (I v), none, none, some i, none, none] = some (.t (.nd .own .lst [I v, I v, I v, I v]), [some a, some b, some c, some d, some e, some (I v), none, none, some i, none, none]) := by
  unfold pg_law_k00_C4
  rw [comp_m (fun (k : Nat) => I (k : Int)) (List.range 4) (fun _ => I v) (ρ0 := [some a, some b, some c, some d, some e, some (I v), none, none, some i, none, none]) (by simp [-Option.bind_some, -Zl.append_map, -Zl.append_int, -List.map_take, -List.map_drop, -List.map_reverse, -List.map_set, -List.map_dropLast, -getElem?_pos, small62_nat (i := 4) (by omega) (by omega), show rgT 0 4 = _ from rgTN 4]) (by simp [-Option.bind_some, -Zl.append_map, -Zl.append_int, -List.map_take, -List.map_drop, -List.map_reverse, -List.map_set, -List.map_dropLast, -getElem?_pos]) (fun y hy acc hl => by
    have r := raised00 (w := y) (v := v) (List.mem_range.mp hy)
    simp [-Option.bind_some, -Zl.append_map, -Zl.append_int, -List.map_take, -List.map_drop, -List.map_reverse, -List.map_set, -List.map_dropLast, -getElem?_pos, hl, r])]
  rfl
theorem plaw00_B1 {ns : List Int} {k : Nat} (hk : k < 100) : pg_law_k00_B1 ([some (.nd .frz .fz (ns.map I)), some (I (k : Int)), none, none, none, none, none, none, none, none, none] : PSt) = some (.nx ([some (.nd .frz .fz (ns.map I)), none, none, none, none, none, none, none, none, none, none] : PSt)) := by
  obtain ⟨t0, e0, p0⟩ := ppool_ok (ns := ns) hk
  obtain ⟨r1, t1, e1, p1, a1, b1⟩ := pdraw_k00 (l := 4) p0 (by omega) (by omega) (by omega)
  obtain ⟨w, hw⟩ : ∃ w : Str, atI [S "a", S "", S "not an order", S (Txt.mul "x" 40)] r1 = some (S w) := by
    rcases (by omega : r1 = 0 ∨ r1 = 1 ∨ r1 = 2 ∨ r1 = 3) with rfl | rfl | rfl | rfl
    · exact ⟨_, rfl⟩
    · exact ⟨_, rfl⟩
    · exact ⟨_, rfl⟩
    · exact ⟨_, rfl⟩
  obtain ⟨r2, t2, e2, p2, a2, b2⟩ := pdraw_k00 (l := 1000000000) p1 (by omega) (by omega) (by omega)
  obtain ⟨r3, t3, e3, p3, a3, b3⟩ := pdraw_k00 (l := 6) p2 (by omega) (by omega) (by omega)
  obtain ⟨v, hv⟩ : ∃ v : Int, atI [I r2, I 0, I 1, I 7, I 40, I 1000000000000000000000000000000] r3 = some (I v) := by
    rcases (by omega : r3 = 0 ∨ r3 = 1 ∨ r3 = 2 ∨ r3 = 3 ∨ r3 = 4 ∨ r3 = 5) with rfl | rfl | rfl | rfl | rfl | rfl
    · exact ⟨_, rfl⟩
    · exact ⟨_, rfl⟩
    · exact ⟨_, rfl⟩
    · exact ⟨_, rfl⟩
    · exact ⟨_, rfl⟩
    · exact ⟨_, rfl⟩
  have nE : ∀ k (w : Str), pNewE k (S w) = some (.nd .own (.ex k) []) := fun _ _ => rfl
  have f2 := law00_F2 (a := .nd .frz .fz (ns.map I)) (b := I (k : Int)) (c := t3) (d := S w) (g := I v) (q := zig v)
  have ix16 : atI ((cds00 (zig v)).map fun k => Tr.nd .frz (.ex k) []) 16 = some (.nd .frz (.ex (exC 16 (zig v))) []) := rfl
  have ix17 : atI ((cds00 (zig v)).map fun k => Tr.nd .frz (.ex k) []) 17 = some (.nd .frz (.ex (exC 17 (zig v))) []) := rfl
  have ix18 : atI ((cds00 (zig v)).map fun k => Tr.nd .frz (.ex k) []) 18 = some (.nd .frz (.ex (exC 18 (zig v))) []) := rfl
  have ix19 : atI ((cds00 (zig v)).map fun k => Tr.nd .frz (.ex k) []) 19 = some (.nd .frz (.ex (exC 19 (zig v))) []) := rfl
  have cl : ((cds00 (zig v)).map fun k => Tr.nd .frz (.ex k) []) = [.nd .frz (.ex 0) [], .nd .frz (.ex 1) [], .nd .frz (.ex 2) [], .nd .frz (.ex 3) [], .nd .frz (.ex 4) [], .nd .frz (.ex 5) [], .nd .frz (.ex 6) [], .nd .frz (.ex 7) [], .nd .frz (.ex 8) [], .nd .frz (.ex 9) [], .nd .frz (.ex 10) [], .nd .frz (.ex 11) [], .nd .frz (.ex 12) [], .nd .frz (.ex 13) [], .nd .frz (.ex 14) [], .nd .frz (.ex 15) [], .nd .frz (.ex (exC 16 (zig v))) [], .nd .frz (.ex (exC 17 (zig v))) [], .nd .frz (.ex (exC 18 (zig v))) [], .nd .frz (.ex (exC 19 (zig v))) []] := rfl
  rw [cl] at f2 ix16 ix17 ix18 ix19
  have r16 := row00 (k := 16) (n := "row") (f := .frz) (v := v) (by omega) (by omega) rfl
  have r17 := row00 (k := 17) (n := "reader") (f := .frz) (v := v) (by omega) (by omega) rfl
  have r18 := row00 (k := 18) (n := "position") (f := .frz) (v := v) (by omega) (by omega) rfl
  have r19 := row00 (k := 19) (n := "limit") (f := .frz) (v := v) (by omega) (by omega) rfl
  have mul4 : pMul (.nd .own .lst [I v]) (I 4) = some (.nd .own .lst [I v, I v, I v, I v]) := rfl
  have ne4 : pNe (.nd .own .lst [I v, I v, I v, I v]) (.nd .own .lst [I v, I v, I v, I v]) = some (B false) := by
    have := pNe_ints .own .own [v, v, v, v] [v, v, v, v]
    rw [decide_eq_true rfl] at this
    exact this
  have c4 := c4_00 (a := .nd .frz .fz (ns.map I)) (b := I (k : Int)) (c := t3) (d := S w) (e := .nd .own .lst [.nd .frz (.ex 0) [], .nd .frz (.ex 1) [], .nd .frz (.ex 2) [], .nd .frz (.ex 3) [], .nd .frz (.ex 4) [], .nd .frz (.ex 5) [], .nd .frz (.ex 6) [], .nd .frz (.ex 7) [], .nd .frz (.ex 8) [], .nd .frz (.ex 9) [], .nd .frz (.ex 10) [], .nd .frz (.ex 11) [], .nd .frz (.ex 12) [], .nd .frz (.ex 13) [], .nd .frz (.ex 14) [], .nd .frz (.ex 15) [], .nd .frz (.ex (exC 16 (zig v))) [], .nd .frz (.ex (exC 17 (zig v))) [], .nd .frz (.ex (exC 18 (zig v))) [], .nd .frz (.ex (exC 19 (zig v))) []]) (g := I v) (i := .nd .own .lst [.nd .frz (.ex (exC 16 (zig v))) [], .nd .frz (.ex (exC 17 (zig v))) [], .nd .frz (.ex (exC 18 (zig v))) [], .nd .frz (.ex (exC 19 (zig v))) []]) (j := I v) (v := v)
  have k20 := pkinds00 (c := 20) (by decide)
  have in20 : pIn false (B true) (.nd .own .lst ((kd00 20).map B)) = some (B false) := by rfl
  have m := mul00
  generalize Txt.mul "x" 40 = X40 at *
  generalize (kd00 20).map B = KD at *
  simp [-Option.bind_some, -Zl.append_map, -Zl.append_int, -List.map_take, -List.map_drop, -List.map_reverse, -List.map_set, -List.map_dropLast, -getElem?_pos, pg_law_k00_B1, e0, p0.v, p0.n, m, e1, p1.v, p1.n, hw, e2, p2.v, p2.n, e3, p3.v, p3.n, hv, nE, f2, ix16, ix17, ix18, ix19, r16, r17, r18, r19, mul4, ne4, c4, k20, in20]
theorem plaw00 {ns : List Int} (hn : ns.length ≤ 63) : ∃ fs, pg_law_k00 [.nd .frz .fz (ns.map I)] = some (B true, fs) := by
  obtain ⟨N, hN, hN2⟩ : ∃ N : Nat, (N : Int) = max 1 (min 3 (ns.length : Int)) ∧ N ≤ 3 := ⟨(max 1 (min 3 (ns.length : Int))).toNat, by omega, by omega⟩
  have f1 : pg_law_k00_F1 ([some (.nd .frz .fz (ns.map I)), none, none, none, none, none, none, none, none, none, none] : PSt) = some (.nx ([some (.nd .frz .fz (ns.map I)), none, none, none, none, none, none, none, none, none, none] : PSt)) := by
    unfold pg_law_k00_F1
    obtain ⟨_, e, _⟩ := for_R (g := gS 1) (b := pg_law_k00_B1) (w := wR1 (pCall pMax (aConsP (pC (.int 1)) (aConsP (pCall pMin (aConsP (pC (.int 3)) (aConsP (pCall pLen (aConsP (pVar 0) aNilP)) aNilP))) aNilP)))) (ρ := ([some (.nd .frz .fz (ns.map I)), none, none, none, none, none, none, none, none, none, none] : PSt)) (fun (k : Nat) => I (k : Int)) (List.range N) (fun (_ : Unit) => ([some (.nd .frz .fz (ns.map I)), none, none, none, none, none, none, none, none, none, none] : PSt)) (fun _ _ => True) ()
      (by simp [-Option.bind_some, -Zl.append_map, -Zl.append_int, -List.map_take, -List.map_drop, -List.map_reverse, -List.map_set, -List.map_dropLast, -getElem?_pos, ← hN, small62_nat (i := (N : Int)) (by omega) (by omega), rgTN]) (by rw [List.length_range]; omega) trivial (fun pre y post a e _ => by
        have hd := range_mid e
        have b := plaw00_B1 (ns := ns) (k := y) (by omega)
        refine ⟨(), .inl ?_, trivial⟩
        simp [-Option.bind_some, -Zl.append_map, -Zl.append_int, -List.map_take, -List.map_drop, -List.map_reverse, -List.map_set, -List.map_dropLast, -getElem?_pos]
        exact b)
    exact e
  refine ⟨[none], ?_⟩
  simp [-Option.bind_some, -Zl.append_map, -Zl.append_int, -List.map_take, -List.map_drop, -List.map_reverse, -List.map_set, -List.map_dropLast, -getElem?_pos, pg_law_k00, pg_law_k00_S, f1]
theorem spec_hg_law_k00 (ns : List Int) (hn : ns.length ≤ 63) : ∃ G', hg_law_k00 [.ref 0] (G0 ns) = some (.bl true, G') := by
  obtain ⟨fs, h⟩ := plaw00 hn
  exact law_pl pk_pg_law_k00 h
end Pl

open PySem PySem.W PySem.Calls PyProof.Rows in
set_option maxRecDepth 100000 in
set_option maxHeartbeats 0 in
theorem PySem.Challenge.cw_lateids_k00_errors_holds : PySem.Challenge.rw_lateids_k00_errors.Holds := by
  w_on; o_law
  refine HandSHeadRun.head_any (r := OpenLaw.row PySem.Challenge.rw_lateids_k00_errors) (q := view (OpenLaw.row PySem.Challenge.rw_lateids_k00_errors).prog [28]) (H := Zl.K00.hk) (ob := Zl.K00.ob) (M := 40000) (loose := Zl.K00.loose) (d := HandSHeadRun.topDef (OpenLaw.row PySem.Challenge.rw_lateids_k00_errors).prog 28) (kwd := []) Zl.K00.ob_eq
    (by kernel_rfl) (fun s => by kernel_rfl) Zl.K00.run (by kernel_rfl) (by kernel_rfl) (by kernel_rfl) (by rfl) (by first | assumption | decide +kernel) (by decide +kernel) ⟨rfl, rfl, rfl, rfl, rfl, by decide +kernel⟩ ?hw ?hc
  case hw => w_witness2
  case hc =>
    refine Zl.walk_ofZE (l := PySem.Challenge.rw_lateids_k00_errors) (n := 63) (k := 5) (x := "_law_script") (m := Pl.hg_law_k00) rfl (by decide) (by kernel_rfl) ⟨rfl, by decide, by decide⟩ ?F Pl.spec_hg_law_k00
    intro w mg fa h Y G hmg0
    obtain ⟨K, KX, cx, c⟩ := Y
    have hmg : mg ("law" : PySem.Str) = some (.ref fa) := by
      have e : (HandSHeadRun.topDef (OpenLaw.row PySem.Challenge.rw_lateids_k00_errors).prog 28).name = ("law" : PySem.Str) := by kernel_rfl
      rw [← e]
      exact hmg0
    obtain ⟨fd, hb, hF⟩ := Zl.K00.facts (P := (PySem.Challenge.rw_lateids_k00_errors).prog) (w := w) KX G hmg cx c
    exact ⟨K, fd, KX, hb, hF⟩
#print axioms PySem.Challenge.cw_lateids_k00_errors_holds
