import PyProof.Rows.All
import HandS.ForMost
import HandS.SortInts
import HandS.IsInst
import HandS.Wide
import HandS.Flow
import PyProof.ReprRoads
import HandS.Zip
import HandS.More
import HandS.Conv
import HandS.SetFor
import HandS.Style
import HandS.TryOnly
import HandS.Defaults
import HandS.Head0
import HandS.Head1
import HandS.Head2
import HandS.HeadEnd
import HandS.HeadHook1
import HandS.HeadHook2
import HandS.DictComp
import HandS.Dict
import HandS.Small
import HandS.Iter
import KE.GoesEnum
import PySem.Challenge.RW_lateids_k29_greatest_reach
import PyProof.ReprLen
set_option Elab.async false
set_option linter.all false
set_option maxRecDepth 100000
/-! Zl, part 0: a plain heap and a plain meaning of the language's pieces; no program, no machine. -/
namespace Zl
open PySem L2

/-- what stands at a place of the plain heap -/
inductive O where
  | lst (xs : List V) | tup (xs : List V) | dK (kvs : List (Key × V)) | fz (xs : List V)
  deriving DecidableEq
abbrev Hz := List O
def okV (n : Nat) : V → Bool
  | .ref a => decide (a < n)
  | _ => true
def okO (n : Nat) : O → Bool
  | .lst xs => xs.all (okV n)
  | .tup xs => xs.all (okV n)
  | .dK kvs => kvs.all fun p => okV n p.2
  | .fz xs => xs.all (okV n)
def isFz : O → Bool
  | .fz _ => true
  | _ => false
def okS (n : Nat) (σ : St) : Bool := σ.all fun o => match o with | some v => okV n v | none => true

abbrev ME := St → Hz → Option (V × Hz)
abbrev MA := St → Hz → Option (List V × Hz)
abbrev MT := St → Hz → Option (Bool × Hz)
abbrev F1 := V → Hz → Option (V × Hz)
abbrev F2 := V → V → Hz → Option (V × Hz)
abbrev FL := List V → Hz → Option (V × Hz)
abbrev FM := V → List V → Hz → Option (V × Hz)

def alloc (o : O) (G : Hz) : Option (V × Hz) := some (.ref G.length, G ++ [o])

/-! ### expressions -/
def eVar (i : Nat) : ME := fun σ G => match σ[i]? with
  | some (some v) => some (v, G)
  | _ => none
def eC (v : V) : ME := fun _ G => some (v, G)
def eBin (f : F2) (a b : ME) : ME := fun σ G => (a σ G).bind fun p => (b σ p.2).bind fun q => f p.1 q.1 q.2
def eUn (f : F1) (a : ME) : ME := fun σ G => (a σ G).bind fun p => f p.1 p.2
def eChain (f g : F2) (a b c : ME) : ME := fun σ G => (a σ G).bind fun p => (b σ p.2).bind fun q => (f p.1 q.1 q.2).bind fun r =>
  match r.1 with
  | .bl true => (c σ r.2).bind fun s => g q.1 s.1 s.2
  | .bl false => some (.bl false, r.2)
  | _ => none
def eAnd (a b : ME) : ME := fun σ G => (a σ G).bind fun p => match p.1 with
  | .bl true => b σ p.2
  | .bl false => some (.bl false, p.2)
  | _ => none
def eOr (a b : ME) : ME := fun σ G => (a σ G).bind fun p => match p.1 with
  | .bl true => some (.bl true, p.2)
  | .bl false => b σ p.2
  | _ => none
def eNot (a : ME) : ME := fun σ G => (a σ G).bind fun p => match p.1 with
  | .bl k => some (.bl (!k), p.2)
  | _ => none
def eIf (t : MT) (a b : ME) : ME := fun σ G => (t σ G).bind fun p => if p.1 = true then a σ p.2 else b σ p.2
def aNil : MA := fun _ G => some ([], G)
def aCons (a : ME) (r : MA) : MA := fun σ G => (a σ G).bind fun p => (r σ p.2).bind fun q => some (p.1 :: q.1, q.2)
def eLst (r : MA) : ME := fun σ G => (r σ G).bind fun p => if p.1.length ≤ sizeLine then alloc (.lst p.1) p.2 else none
def eTup (r : MA) : ME := fun σ G => (r σ G).bind fun p => if p.1.length ≤ sizeLine then alloc (.tup p.1) p.2 else none
def eCall (f : FL) (r : MA) : ME := fun σ G => (r σ G).bind fun p => f p.1 p.2
def eMeth (T : V → Hz → Bool) (f : FM) (o : ME) (r : MA) : ME := fun σ G => (o σ G).bind fun p => if T p.1 p.2 = true then (r σ p.2).bind fun q => f p.1 q.1 q.2 else none
/-- a part of a slice -/
abbrev MO := St → Hz → Option (Option Int × Hz)
def oNone : MO := fun _ G => some (none, G)
def oSome (a : ME) : MO := fun σ G => (a σ G).bind fun p => match p.1 with
  | .int i => some (some i, p.2)
  | _ => none
def eSlice (f : V → Option Int → Option Int → Hz → Option (V × Hz)) (a : ME) (l h : MO) : ME := fun σ G => (a σ G).bind fun p => (l σ p.2).bind fun q => (h σ q.2).bind fun r => f p.1 q.1 r.1 r.2

/-! ### tests -/
def tE (a : ME) : MT := fun σ G => (a σ G).bind fun p => match p.1 with
  | .bl k => some (k, p.2)
  | _ => none
def tAndZ (a b : MT) : MT := fun σ G => (a σ G).bind fun p => if p.1 = true then b σ p.2 else some (false, p.2)
def tOrZ (a b : MT) : MT := fun σ G => (a σ G).bind fun p => if p.1 = true then some (true, p.2) else b σ p.2
def tNotZ (a : MT) : MT := fun σ G => (a σ G).bind fun p => some (!p.1, p.2)
def tYesZ : MT := fun _ G => some (true, G)

/-! ### what is thrown away -/
/-- each place below n is as it was, or knows only places below n -/
def keptB (n : Nat) : Hz → Hz → Bool
  | o :: G, o' :: G' => (decide (o = o') || okO n o') && keptB n G G'
  | [], _ => true
  | _ :: _, [] => false
/-- behind an expression: the new places go but for the answer's own -/
def cut (G : Hz) (v : V) (G' : Hz) : Option (V × Hz) :=
  if keptB G.length G G' = true then
    match v with
    | .ref a => if a < G.length then some (.ref a, G'.take G.length) else match G'[a]? with
      | some o => if okO G.length o = true ∧ isFz o = false then some (.ref G.length, G'.take G.length ++ [o]) else none
      | none => none
    | v => some (v, G'.take G.length)
  else none
def eCut (m : ME) : ME := fun σ G => (m σ G).bind fun p => cut G p.1 p.2
/-- the answer goes too -/
def eDrop (m : ME) : ME := fun σ G => (m σ G).bind fun p => if keptB G.length G p.2 = true then some (.non, p.2.take G.length) else none
def tCut (m : MT) : MT := fun σ G => (m σ G).bind fun p => if keptB G.length G p.2 = true then some (p.1, p.2.take G.length) else none

/-! ### statements -/
inductive R where
  | nx (σ : St) (G : Hz) | rt (v : V) (G : Hz) | bk (σ : St) (G : Hz) | ct (σ : St) (G : Hz)
abbrev MS := St → Hz → Option R
def R.then (r : R) (k : St → Hz → Option R) : Option R := match r with
  | .nx σ G => k σ G
  | r => some r
def sSeq (a b : MS) : MS := fun σ G => (a σ G).bind fun r => r.then b
def sPass : MS := fun σ G => some (.nx σ G)
def sNever : MS := fun _ _ => none
def sBreak : MS := fun σ G => some (.bk σ G)
def sCont : MS := fun σ G => some (.ct σ G)
def sExpr (a : ME) : MS := fun σ G => (a σ G).bind fun p => some (.nx σ p.2)
def sRet (a : ME) : MS := fun σ G => (a σ G).bind fun p => some (.rt p.1 p.2)
def sRetN : MS := fun _ G => some (.rt .non G)
def sIf (t : MT) (a b : MS) : MS := fun σ G => (t σ G).bind fun p => if p.1 = true then a σ p.2 else b σ p.2
/-- targets -/
abbrev MG := V → St → Hz → Option (St × Hz)
abbrev MGs := List V → St → Hz → Option (St × Hz)
def gSet (i : Nat) : MG := fun v σ G => some (σ.set i (some v), G)
def gsNil : MGs := fun vs σ G => match vs with
  | [] => some (σ, G)
  | _ => none
def gsCons (g : MG) (r : MGs) : MGs := fun vs σ G => match vs with
  | v :: vs => (g v σ G).bind fun p => r vs p.1 p.2
  | [] => none
def gUn (n : Nat) (r : MGs) : MG := fun v σ G => match v with
  | .ref a => match G[a]? with
    | some (.tup xs) => if xs.length = n then r xs σ G else none
    | some (.lst xs) => if xs.length = n then r xs σ G else none
    | _ => none
  | _ => none
def gPut (f : V → V → V → Hz → Option Hz) (o i : ME) : MG := fun v σ G => (o σ G).bind fun p => (i σ p.2).bind fun q => (f p.1 q.1 v q.2).bind fun G' => some (σ, G')
def sAsg (e : ME) (g : MG) : MS := fun σ G => (e σ G).bind fun p => (g p.1 σ p.2).bind fun q => some (.nx q.1 q.2)
def sPar (is : List Nat) (r : MA) : MS := fun σ G => (r σ G).bind fun p => if p.1.length = is.length then some (.nx ((is.zip p.1).foldl (fun σ q => σ.set q.1 (some q.2)) σ) p.2) else none
def sAug (i : Nat) (f : F2) (e : ME) : MS := fun σ G => match σ[i]? with
  | some (some x) => (e σ G).bind fun p => (f x p.1 p.2).bind fun q => some (.nx (σ.set i (some q.1)) q.2)
  | _ => none
/-- the slots ds forgotten, the places that the block made thrown away -/
def sGc (ds : List Nat) (b : MS) : MS := fun σ G => (b σ G).bind fun r => match r with
  | .nx σ' G' => if okS G.length (wipe σ' ds) = true ∧ keptB G.length G G' = true then some (.nx (wipe σ' ds) (G'.take G.length)) else none
  | .ct σ' G' => if okS G.length (wipe σ' ds) = true ∧ keptB G.length G G' = true then some (.ct (wipe σ' ds) (G'.take G.length)) else none
  | r => some r
/-- loops -/
abbrev MIt := Nat → Hz → Option (Option (V × Hz))
def itL (a : Nat) : MIt := fun i G => match G[a]? with
  | some (.lst xs) => some (xs[i]?.map fun x => (x, G))
  | some (.fz xs) => some (xs[i]?.map fun x => (x, G))
  | _ => none
def itT (a : Nat) : MIt := fun i G => match G[a]? with
  | some (.tup xs) => some (xs[i]?.map fun x => (x, G))
  | _ => none
def itR (lo : Int) (n : Nat) : MIt := fun i G => some (if i < n then some (.int (lo + (i : Int)), G) else none)
/-- enumerate: each turn lays a pair -/
def itE (a : Nat) : MIt := fun i G => match G[a]? with
  | some (.lst xs) => some (xs[i]?.map fun x => (.ref G.length, G ++ [.tup [.int (i : Int), x]]))
  | _ => none
def itZ (a b : Nat) : MIt := fun i G => match G[a]?, G[b]? with
  | some (.lst xs), some (.lst ys) => some (match xs[i]?, ys[i]? with
    | some x, some y => some (.ref G.length, G ++ [.tup [x, y]])
    | _, _ => none)
  | _, _ => none
abbrev MI := St → Hz → Option (MIt × Hz)
def iSeq (e : ME) : MI := fun σ G => (e σ G).bind fun p => match p.1 with
  | .ref a => match p.2[a]? with
    | some (.lst _) => some (itL a, p.2)
    | some (.fz _) => some (itL a, p.2)
    | some (.tup _) => some (itT a, p.2)
    | _ => none
  | _ => none
def small62 (i : Int) : Bool := decide (-(2 ^ 62) ≤ i ∧ i < 2 ^ 62)
def iRange1 (e : MA) : MI := fun σ G => (e σ G).bind fun p => match p.1 with
  | [.int j] => if small62 j = true then some (itR 0 j.toNat, p.2) else none
  | _ => none
def iRange2 (e : MA) : MI := fun σ G => (e σ G).bind fun p => match p.1 with
  | [.int i, .int j] => if small62 i = true ∧ small62 j = true then some (itR i (j - i).toNat, p.2) else none
  | _ => none
def iEnumZ (e : MA) : MI := fun σ G => (e σ G).bind fun p => match p.1 with
  | [.ref a] => match p.2[a]? with
    | some (.lst _) => some (itE a, p.2)
    | _ => none
  | _ => none
def iZipZ (e : MA) : MI := fun σ G => (e σ G).bind fun p => match p.1 with
  | [.ref a, .ref b] => match p.2[a]?, p.2[b]? with
    | some (.lst _), some (.lst _) => some (itZ a b, p.2)
    | _, _ => none
  | _ => none
def loopF (it : MIt) (g : MG) (b : MS) : Nat → Nat → St → Hz → Option R
  | 0, _, _, _ => none
  | f + 1, i, σ, G => match it i G with
    | none => none
    | some none => some (.nx σ G)
    | some (some (x, G1)) => (g x σ G1).bind fun p => (b p.1 p.2).bind fun r => match r with
      | .nx σ2 G2 => loopF it g b f (i + 1) σ2 G2
      | .ct σ2 G2 => loopF it g b f (i + 1) σ2 G2
      | .bk σ2 G2 => some (.nx σ2 G2)
      | .rt v G2 => some (.rt v G2)
def sFor (n : Nat) (w : MI) (g : MG) (b : MS) : MS := fun σ G => (w σ G).bind fun p => loopF p.1 g b n 0 σ p.2
def loopW (c : MT) (b : MS) : Nat → St → Hz → Option R
  | 0, _, _ => none
  | f + 1, σ, G => (c σ G).bind fun p => if p.1 = true then (b σ p.2).bind fun r => match r with
      | .nx σ2 G2 => loopW c b f σ2 G2
      | .ct σ2 G2 => loopW c b f σ2 G2
      | .bk σ2 G2 => some (.nx σ2 G2)
      | .rt v G2 => some (.rt v G2)
    else some (.nx σ p.2)
def sWhile (n : Nat) (c : MT) (b : MS) : MS := fun σ G => loopW c b n σ G
/-- comprehensions: one turn, D the new list's place; cm: what a turn makes is thrown away but for the item -/
def turnC (cm : Bool) (g : MG) (t : MT) (e : ME) (D : Nat) (σ : St) (x : V) (G G1 : Hz) : Option Hz :=
  (g x σ G1).bind fun p => (t p.1 p.2).bind fun q => if q.1 = true then (e p.1 q.2).bind fun r =>
      (if cm = true then cut G r.1 r.2 else some r).bind fun s => match s.2[D]? with
        | some (.lst acc) => if acc.length < sizeLine then some (s.2.set D (.lst (acc ++ [s.1]))) else none
        | _ => none
    else if cm = true then (if keptB G.length G q.2 = true then some (q.2.take G.length) else none) else some q.2
def loopC (it : MIt) (turn : V → Hz → Hz → Option Hz) : Nat → Nat → Hz → Option Hz
  | 0, _, _ => none
  | f + 1, i, G => match it i G with
    | none => none
    | some none => some G
    | some (some (x, G1)) => (turn x G G1).bind fun G2 => loopC it turn f (i + 1) G2
def eComp (n : Nat) (cm : Bool) (w : MI) (vs : List Nat) (g : MG) (t : MT) (e : ME) : ME := fun σ G => (w σ G).bind fun p =>
  (loopC p.1 (turnC cm g t e p.2.length (wipe σ vs)) n 0 (p.2 ++ [.lst []])).bind fun G' => some (.ref p.2.length, G')
/-- a def: its slots at the entry, what its body answers -/
def startZ (n : Nat) (vs : List V) : St := vs.map some ++ List.replicate (n - vs.length) none
def runD (n : Nat) (b : MS) : FL := fun vs G => (b (startZ n vs) G).bind fun r => match r with
  | .nx _ G' => some (.non, G')
  | .rt v G' => some (v, G')
  | _ => none
def cutF (f : FL) : FL := fun vs G => (f vs G).bind fun p => cut G p.1 p.2

/-! ### operators by values -/
def bAdd : F2 := fun x y G => match x, y with
  | .int i, .int j => some (.int (i + j), G)
  | .str i, .str j => if i.length + j.length ≤ sizeLine then some (.str (i ++ j), G) else none
  | .ref a, .ref b => match G[a]?, G[b]? with
    | some (.lst xs), some (.lst ys) => if xs.length + ys.length ≤ sizeLine then alloc (.lst (xs ++ ys)) G else none
    | _, _ => none
  | _, _ => none
def bSub : F2 := fun x y G => match x, y with
  | .int i, .int j => some (.int (i - j), G)
  | _, _ => none
/-- a great bound; never unfolded -/
@[irreducible] def bigN : Nat := 2 ^ 2000
def smallN (i : Int) : Bool := decide (i.natAbs < bigN)
def bMul : F2 := fun x y G => match x, y with
  | .int i, .int j => if smallN i = true ∧ smallN j = true then some (.int (i * j), G) else none
  | .ref a, .int k => match G[a]? with
    | some (.lst xs) => if -(2 ^ 63) ≤ k ∧ k < 2 ^ 63 ∧ xs.length * k.toNat ≤ sizeLine then alloc (.lst (List.replicate k.toNat xs).flatten) G else none
    | _ => none
  | _, _ => none
def bMod : F2 := fun x y G => match x, y with
  | .int i, .int j => if j ≠ 0 then some (.int (i.fmod j), G) else none
  | _, _ => none
def bDiv : F2 := fun x y G => match x, y with
  | .int i, .int j => if j ≠ 0 ∧ smallN j = true then some (.int (i.fdiv j), G) else none
  | _, _ => none
def bPow : F2 := fun x y G => match x, y with
  | .int i, .int j => if smallN i = true ∧ 0 ≤ j ∧ j ≤ 1000 then some (.int (i ^ j.toNat), G) else none
  | _, _ => none
def cLt : F2 := fun x y G => match x, y with
  | .int i, .int j => some (.bl (decide (i < j)), G)
  | _, _ => none
def cLe : F2 := fun x y G => match x, y with
  | .int i, .int j => some (.bl (decide (i ≤ j)), G)
  | _, _ => none
def cGt : F2 := fun x y G => match x, y with
  | .int i, .int j => some (.bl (decide (j < i)), G)
  | _, _ => none
def cGe : F2 := fun x y G => match x, y with
  | .int i, .int j => some (.bl (decide (j ≤ i)), G)
  | _, _ => none
/-- what a value shows as data, to a depth -/
def mapO {α β : Type} (f : α → Option β) : List α → Option (List β)
  | [] => some []
  | x :: xs => (f x).bind fun y => (mapO f xs).bind fun ys => some (y :: ys)
def rdD : Nat → Hz → V → Option PyData
  | _, _, .non => some .none
  | _, _, .bl b => some (.bool b)
  | _, _, .int i => some (.int i)
  | _, _, .str x => some (.str x)
  | k + 1, G, .ref a => match G[a]? with
    | some (.lst xs) => (mapO (rdD k G) xs).bind fun ds => some (.list ds)
    | some (.tup xs) => (mapO (rdD k G) xs).bind fun ds => some (.tuple ds)
    | some (.dK kvs) => (mapO (fun p => (rdD k G p.2).bind fun d => some ((match p.1 with | .inl i => PyData.int i | .inr s => PyData.str s), d)) kvs).bind fun ds => some (.dict ds)
    | _ => none
  | _, _, _ => none
def dep : Nat := 20
def cEq : F2 := fun x y G => if scal x y = true then some (.bl (decide (x = y)), G) else
  match rdD dep G x, rdD dep G y with
  | some d, some e => if SeqAt.shaped d = true ∧ SeqAt.shaped e = true then some (.bl (PyData.eqv d e), G) else none
  | _, _ => none
def cNe : F2 := fun x y G => if scal x y = true then some (.bl (!decide (x = y)), G) else
  match rdD dep G x, rdD dep G y with
  | some d, some e => if SeqAt.shaped d = true ∧ SeqAt.shaped e = true then some (.bl (!PyData.eqv d e), G) else none
  | _, _ => none
def cIsN : F1 := fun x G => some (.bl (decide (x = .non)), G)
def cNotN : F1 := fun x G => some (.bl (!decide (x = .non)), G)
def keyOf : V → Option Key
  | .int i => some (.inl i)
  | .str s => some (.inr s)
  | _ => none
def cInG (neg : Bool) : F2 := fun x y G => match y with
  | .ref a => match G[a]? with
    | some (.lst xs) => if flatV x = true ∧ xs.all flatV = true then some (.bl (neg != inV x xs), G) else none
    | some (.tup xs) => if flatV x = true ∧ xs.all flatV = true then some (.bl (neg != inV x xs), G) else none
    | some (.dK kvs) => match keyOf x with
      | some k => some (.bl (neg != (valV kvs k).isSome), G)
      | none => none
    | _ => none
  | _ => none
abbrev cIn : F2 := cInG false
abbrev cNotIn : F2 := cInG true
/-! ### subscripts -/
def xIx : F2 := fun x y G => match x, y with
  | .ref a, .int i => match G[a]? with
    | some (.lst xs) => (atI xs i).bind fun v => some (v, G)
    | some (.fz xs) => (atI xs i).bind fun v => some (v, G)
    | some (.tup xs) => (atI xs i).bind fun v => some (v, G)
    | _ => none
  | .str z, .int i => if z.length ≤ sizeLine then (atI z.cps.toList i).bind fun c => some (.str ⟨#[c]⟩, G) else none
  | _, _ => none
def xCut : V → Option Int → Option Int → Hz → Option (V × Hz) := fun x lo hi G => match x with
  | .ref a => match G[a]? with
    | some (.lst xs) => alloc (.lst (cutV xs lo hi)) G
    | _ => none
  | _ => none
def pLst : V → V → V → Hz → Option Hz := fun o i v G => match o, i with
  | .ref a, .int k => match G[a]? with
    | some (.lst xs) => (ixN xs.length k).bind fun j => some (G.set a (.lst (xs.set j v)))
    | _ => none
  | _, _ => none
/-! ### built-ins -/
def ints? : List V → Option (List Int) := mapO fun v => match v with | .int i => some i | _ => none
def bls? : List V → Option (List Bool) := mapO fun v => match v with | .bl i => some i | _ => none
def fLen : FL := fun vs G => match vs with
  | [.ref a] => match G[a]? with
    | some (.lst xs) => some (.int xs.length, G)
    | some (.fz xs) => some (.int xs.length, G)
    | some (.tup xs) => some (.int xs.length, G)
    | some (.dK kvs) => some (.int kvs.length, G)
    | _ => none
  | [.str z] => if z.length ≤ sizeLine then some (.int z.length, G) else none
  | _ => none
def maxI : Int → List Int → Int
  | m, [] => m
  | m, x :: xs => maxI (if x > m then x else m) xs
def minI : Int → List Int → Int
  | m, [] => m
  | m, x :: xs => minI (if x < m then x else m) xs
def fMax : FL := fun vs G => match vs with
  | [.int i, .int j] => some (.int (if j > i then j else i), G)
  | [.ref a] => match G[a]? with
    | some (.lst xs) => match ints? xs with
      | some (m :: ns) => some (.int (maxI m ns), G)
      | _ => none
    | _ => none
  | _ => none
def fMin : FL := fun vs G => match vs with
  | [.int i, .int j] => some (.int (if j < i then j else i), G)
  | [.ref a] => match G[a]? with
    | some (.lst xs) => match ints? xs with
      | some (m :: ns) => some (.int (minI m ns), G)
      | _ => none
    | _ => none
  | _ => none
def fSum : FL := fun vs G => match vs with
  | [.ref a] => match G[a]? with
    | some (.lst xs) => (ints? xs).bind fun ns => some (.int ns.sum, G)
    | _ => none
  | _ => none
def fAll : FL := fun vs G => match vs with
  | [.ref a] => match G[a]? with
    | some (.lst xs) => (bls? xs).bind fun bs => some (.bl (bs.all id), G)
    | _ => none
  | _ => none
def fAny : FL := fun vs G => match vs with
  | [.ref a] => match G[a]? with
    | some (.lst xs) => (bls? xs).bind fun bs => some (.bl (bs.any id), G)
    | _ => none
  | _ => none
def isort (ns : List Int) : List Int := ns.mergeSort (fun a b => decide (a ≤ b))
def fSorted : FL := fun vs G => match vs with
  | [.ref a] => match G[a]? with
    | some (.lst xs) => (ints? xs).bind fun ns => alloc (.lst ((isort ns).map V.int)) G
    | _ => none
  | _ => none
def fList : FL := fun vs G => match vs with
  | [.ref a] => match G[a]? with
    | some (.lst xs) => alloc (.lst xs) G
    | some (.tup xs) => alloc (.lst xs) G
    | _ => none
  | _ => none
def fAbs : FL := fun vs G => match vs with
  | [.int i] => some (.int (if i < 0 then -i else i), G)
  | _ => none
def fInt : FL := fun vs G => match vs with
  | [.int i] => some (.int i, G)
  | [.bl k] => some (.int (if k then 1 else 0), G)
  | _ => none
def fRepr : FL := fun vs G => match vs with
  | [v] => match rdD dep G v with
    | some d => if d.showable = true ∧ d.shown.length ≤ sizeLine ∧ d.depth ≤ 30 then some (.str d.shown, G) else none
    | none => none
  | _ => none
/-! ### methods -/
def isLst (v : V) (G : Hz) : Bool := match v with
  | .ref a => match G[a]? with
    | some (.lst _) => true
    | _ => false
  | _ => false
def mAppend : FM := fun o vs G => match o, vs with
  | .ref a, [y] => match G[a]? with
    | some (.lst xs) => if xs.length < sizeLine then some (.non, G.set a (.lst (xs ++ [y]))) else none
    | _ => none
  | _, _ => none
def mPop : FM := fun o vs G => match o, vs with
  | .ref a, [] => match G[a]? with
    | some (.lst xs) => match xs[xs.length - 1]? with
      | some y => some (y, G.set a (.lst xs.dropLast))
      | none => none
    | _ => none
  | .ref a, [.int i] => match G[a]? with
    | some (.lst xs) => if -(2 ^ 63) ≤ i ∧ i < 2 ^ 63 then match seqIndex? i xs.length with
        | some k => match xs[k]? with
          | some y => some (y, G.set a (.lst (xs.eraseIdx k)))
          | none => none
        | none => none
      else none
    | _ => none
  | _, _ => none
def mClear : FM := fun o vs G => match o, vs with
  | .ref a, [] => match G[a]? with
    | some (.lst _) => some (.non, G.set a (.lst []))
    | _ => none
  | _, _ => none
def mReverse : FM := fun o vs G => match o, vs with
  | .ref a, [] => match G[a]? with
    | some (.lst xs) => some (.non, G.set a (.lst xs.reverse))
    | _ => none
  | _, _ => none
def mInsert : FM := fun o vs G => match o, vs with
  | .ref a, [.int i, y] => match G[a]? with
    | some (.lst xs) => if xs.length < sizeLine ∧ 0 ≤ i ∧ i < 2 ^ 63 then some (.non, G.set a (.lst (xs.take i.toNat ++ [y] ++ xs.drop i.toNat))) else none
    | _ => none
  | _, _ => none
def mExtend : FM := fun o vs G => match o, vs with
  | .ref a, [.ref b] => match G[a]?, G[b]? with
    | some (.lst xs), some (.lst ys) => if xs.length + ys.length ≤ sizeLine then some (.non, G.set a (.lst (xs ++ ys))) else none
    | _, _ => none
  | _, _ => none
/-- the first place of an int -/
def mIndex : FM := fun o vs G => match o, vs with
  | .ref a, [.int k] => match G[a]? with
    | some (.lst xs) => match ints? xs with
      | some ns => if k ∈ ns then some (.int ((ns.idxOf k : Nat) : Int), G) else none
      | none => none
    | _ => none
  | _, _ => none
end Zl

/-! Zl, part 1: the plain heap stands in the layer's heap; the rules. -/
namespace Zl
open PySem PySem.Spec L2
open PyProof.Rows hiding St

def mv (ι : Nat → Addr) : V → V
  | .ref a => .ref (ι a)
  | v => v
def O.ho (ι : Nat → Addr) : O → HO
  | .lst xs => .lst (xs.map (mv ι))
  | .tup xs => .tup (xs.map (mv ι))
  | .dK kvs => .dK (kvs.map fun p => (p.1, mv ι p.2))
  | .fz xs => .lst (xs.map (mv ι))
def ms (ι : Nat → Addr) (σ : St) : St := σ.map fun o => o.map (mv ι)
def KL (K : PySem.W.Frag) (a : Addr) (xs : List V) : Prop :=
  ∃ (o : Obj) (its : Array Value) (n : Nat), K.lookup a = some o ∧ o.cls = .type "list" ∧ o.dict = none ∧ o.data = .seq its n ∧ its.size ≤ sizeLine ∧ Vals xs its.toList
def AtZ (K : PySem.W.Frag) (ι : Nat → Addr) (H : Hp) (i : Nat) : O → Prop
  | .fz xs => (∃ ob, H (ι i) = some (.frz ob (.lst (xs.map (mv ι))))) ∨ KL K (ι i) (xs.map (mv ι))
  | .lst xs => H (ι i) = some (.lst (xs.map (mv ι)))
  | .tup xs => H (ι i) = some (.tup (xs.map (mv ι)))
  | .dK kvs => H (ι i) = some (.dK (kvs.map fun p => (p.1, mv ι p.2)))
def Agr (n : Nat) (ι ι' : Nat → Addr) : Prop := ∀ i, i < n → ι i = ι' i
theorem Agr.refl {n : Nat} {ι : Nat → Addr} : Agr n ι ι := fun _ _ => rfl
theorem Agr.mono {n m : Nat} {ι ι' : Nat → Addr} (h : Agr n ι ι') (l : m ≤ n) : Agr m ι ι' := fun i hi => h i (Nat.lt_of_lt_of_le hi l)
theorem Agr.trans {n m : Nat} {ι ι' κ : Nat → Addr} (h : Agr n ι ι') (k : Agr m ι' κ) (l : n ≤ m) : Agr n ι κ := fun i hi => (h i hi).trans (k i (Nat.lt_of_lt_of_le hi l))
theorem mv_agr {n : Nat} {ι ι' : Nat → Addr} {v : V} (a : Agr n ι ι') (o : okV n v = true) : mv ι v = mv ι' v := by
  cases v with
  | ref b => exact congrArg V.ref (a b (of_decide_eq_true o))
  | _ => rfl
theorem mvs_agr {n : Nat} {ι ι' : Nat → Addr} {xs : List V} (a : Agr n ι ι') (o : xs.all (okV n) = true) : xs.map (mv ι) = xs.map (mv ι') :=
  List.map_congr_left fun v hv => mv_agr a (List.all_eq_true.mp o v hv)
theorem kvs_agr {n : Nat} {ι ι' : Nat → Addr} {kvs : List (Key × V)} (a : Agr n ι ι') (o : (kvs.all fun p => okV n p.2) = true) :
    (kvs.map fun p => (p.1, mv ι p.2)) = kvs.map fun p => (p.1, mv ι' p.2) :=
  List.map_congr_left fun v hv => by rw [mv_agr a (List.all_eq_true.mp o v hv)]
theorem ms_agr {n : Nat} {ι ι' : Nat → Addr} {σ : St} (a : Agr n ι ι') (o : okS n σ = true) : ms ι σ = ms ι' σ :=
  List.map_congr_left fun v hv => by
    cases v with
    | none => rfl
    | some v => exact congrArg some (mv_agr a (List.all_eq_true.mp o (some v) hv))
theorem okV_mono {n m : Nat} {v : V} (l : n ≤ m) (h : okV n v = true) : okV m v = true := by
  cases v with
  | ref b => exact decide_eq_true (Nat.lt_of_lt_of_le (of_decide_eq_true h) l)
  | _ => rfl
theorem okVs_mono {n m : Nat} {xs : List V} (l : n ≤ m) (h : xs.all (okV n) = true) : xs.all (okV m) = true :=
  List.all_eq_true.mpr fun v hv => okV_mono l (List.all_eq_true.mp h v hv)
theorem okO_mono {n m : Nat} {o : O} (l : n ≤ m) (h : okO n o = true) : okO m o = true := by
  cases o with
  | lst xs => exact okVs_mono l h
  | tup xs => exact okVs_mono l h
  | fz xs => exact okVs_mono l h
  | dK kvs => exact List.all_eq_true.mpr fun v hv => okV_mono l (List.all_eq_true.mp h v hv)
theorem okS_mono {n m : Nat} {σ : St} (l : n ≤ m) (h : okS n σ = true) : okS m σ = true :=
  List.all_eq_true.mpr fun v hv => by
    have := List.all_eq_true.mp h v hv
    cases v with
    | none => rfl
    | some v => exact okV_mono l this
theorem okS_get {n i : Nat} {σ : St} {v : V} (h : okS n σ = true) (e : σ[i]? = some (some v)) : okV n v = true := List.all_eq_true.mp h (some v) (List.mem_of_getElem? e)
theorem okS_set {n i : Nat} {σ : St} {v : V} (h : okS n σ = true) (o : okV n v = true) : okS n (σ.set i (some v)) = true :=
  List.all_eq_true.mpr fun x hx => by
    rcases List.mem_or_eq_of_mem_set hx with e | e
    · exact List.all_eq_true.mp h x e
    · subst e
      exact o
theorem okS_none {n i : Nat} {σ : St} (h : okS n σ = true) : okS n (σ.set i none) = true :=
  List.all_eq_true.mpr fun x hx => by
    rcases List.mem_or_eq_of_mem_set hx with e | e
    · exact List.all_eq_true.mp h x e
    · subst e
      rfl
theorem okS_wipe {n : Nat} {σ : St} (h : okS n σ = true) : ∀ ds : List Nat, okS n (wipe σ ds) = true
  | [] => h
  | _ :: ds => okS_none (okS_wipe h ds)
theorem ms_get {ι : Nat → Addr} {σ : St} {i : Nat} {v : V} (e : σ[i]? = some (some v)) : (ms ι σ)[i]? = some (some (mv ι v)) := by
  unfold ms
  rw [List.getElem?_map, e]
  rfl
theorem ms_set {ι : Nat → Addr} {σ : St} {i : Nat} {v : V} : ms ι (σ.set i (some v)) = (ms ι σ).set i (some (mv ι v)) := by
  unfold ms
  rw [List.map_set]
  rfl
theorem ms_none {ι : Nat → Addr} {σ : St} {i : Nat} : ms ι (σ.set i none) = (ms ι σ).set i none := by
  unfold ms
  rw [List.map_set]
  rfl
theorem ms_wipe {ι : Nat → Addr} {σ : St} : ∀ ds : List Nat, ms ι (wipe σ ds) = wipe (ms ι σ) ds
  | [] => rfl
  | d :: ds => by
    show ms ι ((wipe σ ds).set d none) = (wipe (ms ι σ) ds).set d none
    rw [ms_none, ms_wipe ds]
theorem ms_length {ι : Nat → Addr} {σ : St} : (ms ι σ).length = σ.length := List.length_map ..

/-- the plain heap stands in the layer's -/
structure Rel (K : PySem.W.Frag) (ι : Nat → Addr) (G : Hz) (H : Hp) : Prop where
  at_ : ∀ (i : Nat) o, G[i]? = some o → AtZ K ι H i o
  inj : ∀ (i j : Nat) o u, G[i]? = some o → G[j]? = some u → isFz o = false → isFz u = false → ι i = ι j → i = j
  ok : ∀ (i : Nat) o, G[i]? = some o → okO G.length o = true

section
variable {K : PySem.W.Frag} {ι ι' : Nat → Addr} {G : Hz} {H : Hp} {i : Nat}
theorem Rel.lstM {xs : List V} (R : Rel K ι G H) (e : G[i]? = some (.lst xs)) : H (ι i) = some (.lst (xs.map (mv ι))) := R.at_ i _ e
theorem Rel.tupM {xs : List V} (R : Rel K ι G H) (e : G[i]? = some (.tup xs)) : H (ι i) = some (.tup (xs.map (mv ι))) := R.at_ i _ e
theorem Rel.dkM {kvs : List (Key × V)} (R : Rel K ι G H) (e : G[i]? = some (.dK kvs)) : H (ι i) = some (.dK (kvs.map fun p => (p.1, mv ι p.2))) := R.at_ i _ e
theorem Rel.lstS {xs : List V} (R : Rel K ι G H) (e : G[i]? = some (.lst xs)) : SqL K H (ι i) (xs.map (mv ι)) := .of (R.lstM e)
theorem Rel.tupS {xs : List V} (R : Rel K ι G H) (e : G[i]? = some (.tup xs)) : SqT K H (ι i) (xs.map (mv ι)) := .of (R.tupM e)
theorem Rel.fzS {xs : List V} (R : Rel K ι G H) (e : G[i]? = some (.fz xs)) : SqL K H (ι i) (xs.map (mv ι)) := by
  rcases R.at_ i _ e with ⟨ob, h⟩ | h
  · exact .inl (.inr ⟨ob, h⟩)
  · exact .inr h
theorem AtZ.of_ho {o : O} (n : isFz o = false) (h : H (ι i) = some (o.ho ι)) : AtZ K ι H i o := by
  cases o with
  | fz xs => cases n
  | _ => exact h
theorem AtZ.ho {o : O} (n : isFz o = false) (h : AtZ K ι H i o) : H (ι i) = some (o.ho ι) := by
  cases o with
  | fz xs => cases n
  | _ => exact h
theorem ho_agr {n : Nat} {o : O} (a : Agr n ι ι') (k : okO n o = true) : o.ho ι = o.ho ι' := by
  cases o with
  | lst xs => exact congrArg HO.lst (mvs_agr a k)
  | tup xs => exact congrArg HO.tup (mvs_agr a k)
  | fz xs => exact congrArg HO.lst (mvs_agr a k)
  | dK kvs => exact congrArg HO.dK (kvs_agr a k)
/-- what stands at a place of the heap stands there in another one that agrees -/
theorem AtZ.to {H' : Hp} {n : Nat} {o : O} (a : Agr n ι ι') (hi : i < n) (k : okO n o = true) (hn : isFz o = false → H (ι i) = some (o.ho ι) → H' (ι i) = some (o.ho ι))
    (hf : ∀ ob u, H (ι i) = some (.frz ob u) → H' (ι i) = some (.frz ob u)) (h : AtZ K ι H i o) : AtZ K ι' H' i o := by
  have e : ι i = ι' i := a i hi
  cases o with
  | lst xs =>
    show H' (ι' i) = some (.lst (xs.map (mv ι')))
    rw [← e, ← mvs_agr a k]
    exact hn rfl h
  | tup xs =>
    show H' (ι' i) = some (.tup (xs.map (mv ι')))
    rw [← e, ← mvs_agr a k]
    exact hn rfl h
  | dK kvs =>
    show H' (ι' i) = some (.dK (kvs.map fun p => (p.1, mv ι' p.2)))
    rw [← e, ← kvs_agr a k]
    exact hn rfl h
  | fz xs =>
    rcases h with ⟨ob, h⟩ | h
    · refine .inl ⟨ob, ?_⟩
      rw [← e, ← mvs_agr a k]
      exact hf _ _ h
    · refine .inr ?_
      rw [← e, ← mvs_agr a k]
      exact h

def ext (ι : Nat → Addr) (n : Nat) (p : Addr) : Nat → Addr := fun i => if i = n then p else ι i
theorem ext_agr {n : Nat} {p : Addr} : Agr n ι (ext ι n p) := fun i hi => by
  unfold ext
  rw [if_neg (Nat.ne_of_lt hi)]
theorem ext_self {n : Nat} {p : Addr} : ext ι n p n = p := if_pos rfl

theorem lt_of_get {α : Type} {l : List α} {i : Nat} {x : α} (e : l[i]? = some x) : i < l.length := (List.getElem?_eq_some_iff.mp e).1
/-- a new object -/
theorem Rel.new {o : O} {p : Addr} (R : Rel K ι G H) (k : okO G.length o = true) (n : isFz o = false) (hp : H p = none) : Rel K (ext ι G.length p) (G ++ [o]) (upd H p (o.ho ι)) := by
  have get : ∀ {i : Nat} {u}, (G ++ [o])[i]? = some u → (i < G.length ∧ G[i]? = some u) ∨ (i = G.length ∧ u = o) := fun {i u} e => by
    by_cases hi : i < G.length
    · exact .inl ⟨hi, by rwa [List.getElem?_append_left hi] at e⟩
    · have := lt_of_get e
      simp only [List.length_append, List.length_cons, List.length_nil] at this
      obtain rfl : i = G.length := by omega
      refine .inr ⟨rfl, ?_⟩
      simpa using e.symm
  have there : ∀ {i : Nat} {u}, G[i]? = some u → isFz u = false → ι i ≠ p := fun {i u} e nf z => by
    have := (R.at_ i u e).ho nf
    rw [z, hp] at this
    cases this
  refine ⟨fun i u e => ?_, fun i j u v e1 e2 n1 n2 q => ?_, fun i u e => ?_⟩
  · rcases get e with ⟨hi, e⟩ | ⟨rfl, rfl⟩
    · refine (R.at_ i u e).to ext_agr hi (R.ok i u e) (fun _ hw => ?_) fun _ _ hw => ?_ <;>
      · rw [upd_ne (ne_of_none hw hp)]
        exact hw
    · refine .of_ho n ?_
      rw [ext_self, upd_same, ho_agr (ext_agr (ι := ι) (p := p)) k]
  · rcases get e1 with ⟨hi, f1⟩ | ⟨z1, w1⟩
    · rcases get e2 with ⟨hj, f2⟩ | ⟨z2, w2⟩
      · rw [← ext_agr i hi, ← ext_agr j hj] at q
        exact R.inj i j u v f1 f2 n1 n2 q
      · rw [← ext_agr i hi, z2, ext_self] at q
        exact absurd q (there f1 n1)
    · rcases get e2 with ⟨hj, f2⟩ | ⟨z2, w2⟩
      · rw [← ext_agr j hj, z1, ext_self] at q
        exact absurd q.symm (there f2 n2)
      · exact z1.trans z2.symm
  · have l : G.length ≤ (G ++ [o]).length := by simp
    rcases get e with ⟨hi, e⟩ | ⟨rfl, rfl⟩
    · exact okO_mono l (R.ok i u e)
    · exact okO_mono l k
/-- an object is changed -/
theorem Rel.put {o o' : O} (R : Rel K ι G H) (e : G[i]? = some o) (n : isFz o = false) (k : okO G.length o' = true) (n' : isFz o' = false) : Rel K ι (G.set i o') (upd H (ι i) (o'.ho ι)) := by
  have hi := lt_of_get e
  have get : ∀ {j : Nat} {u}, (G.set i o')[j]? = some u → (j ≠ i ∧ G[j]? = some u) ∨ (j = i ∧ u = o') := fun {j u} q => by
    by_cases z : j = i
    · subst z
      rw [List.getElem?_set_self hi] at q
      exact .inr ⟨rfl, (Option.some.inj q).symm⟩
    · rw [List.getElem?_set_ne (Ne.symm z)] at q
      exact .inl ⟨z, q⟩
  refine ⟨fun j u q => ?_, fun j l u v e1 e2 n1 n2 q => ?_, fun j u q => ?_⟩
  · rcases get q with ⟨z, q⟩ | ⟨rfl, rfl⟩
    · have h1 := (R.at_ i o e).ho n
      refine (R.at_ j u q).to (Agr.refl (n := G.length)) (lt_of_get q) (R.ok j u q) (fun f hw => ?_) fun ob w hw => ?_
      · rw [upd_ne fun y => z (R.inj j i u o q e f n y)]
        exact hw
      · rw [upd_ne fun y => ?_]
        · exact hw
        · rw [y, h1] at hw
          cases o <;> cases hw
    · exact .of_ho n' upd_same
  · rcases get e1 with ⟨z1, f1⟩ | ⟨z1, w1⟩
    · rcases get e2 with ⟨z2, f2⟩ | ⟨z2, w2⟩
      · exact R.inj j l u v f1 f2 n1 n2 q
      · rw [z2] at q ⊢
        exact R.inj j i u o f1 e n1 n q
    · rcases get e2 with ⟨z2, f2⟩ | ⟨z2, w2⟩
      · rw [z1] at q ⊢
        exact R.inj i l o v e f2 n n2 q
      · exact z1.trans z2.symm
  · rw [List.length_set]
    rcases get q with ⟨z, q⟩ | ⟨rfl, rfl⟩
    · exact R.ok j u q
    · exact k
end
end Zl

/-! Zl, part 2: rules for expressions, tests, arguments. -/
namespace Zl
open PySem PySem.Spec L2
open PyProof.Rows hiding St

def Pz (K : PySem.W.Frag) (ι : Nat → Addr) (n : Nat) (v : V) (G' : Hz) (Q : VK) : Prop :=
  ∀ (ι' : Nat → Addr) (H' : Hp), Agr n ι ι' → Rel K ι' G' H' → n ≤ G'.length → okV G'.length v = true → Q (mv ι' v) H'
def liftE (K : PySem.W.Frag) (m : ME) : TE := fun σ H Q => ∃ (ι : Nat → Addr) (σ0 : L2.St) (G : Hz) (v : V) (G' : Hz),
  σ = ms ι σ0 ∧ okS G.length σ0 = true ∧ Rel K ι G H ∧ m σ0 G = some (v, G') ∧ Pz K ι G.length v G' Q
def PzA (K : PySem.W.Frag) (ι : Nat → Addr) (n : Nat) (vs : List V) (G' : Hz) (Q : List V → Hp → Prop) : Prop :=
  ∀ (ι' : Nat → Addr) (H' : Hp), Agr n ι ι' → Rel K ι' G' H' → n ≤ G'.length → vs.all (okV G'.length) = true → Q (vs.map (mv ι')) H'
def liftA (K : PySem.W.Frag) (m : MA) : TA := fun σ H Q => ∃ (ι : Nat → Addr) (σ0 : L2.St) (G : Hz) (vs : List V) (G' : Hz),
  σ = ms ι σ0 ∧ okS G.length σ0 = true ∧ Rel K ι G H ∧ m σ0 G = some (vs, G') ∧ PzA K ι G.length vs G' Q
def PzB {α : Type} (K : PySem.W.Frag) (ι : Nat → Addr) (n : Nat) (v : α) (G' : Hz) (Q : α → Hp → Prop) : Prop :=
  ∀ (ι' : Nat → Addr) (H' : Hp), Agr n ι ι' → Rel K ι' G' H' → n ≤ G'.length → Q v H'
def liftB {α : Type} (K : PySem.W.Frag) (m : L2.St → Hz → Option (α × Hz)) : L2.St → Hp → (α → Hp → Prop) → Prop := fun σ H Q => ∃ (ι : Nat → Addr) (σ0 : L2.St) (G : Hz) (v : α) (G' : Hz),
  σ = ms ι σ0 ∧ okS G.length σ0 = true ∧ Rel K ι G H ∧ m σ0 G = some (v, G') ∧ PzB K ι G.length v G' Q

def SE (X : Cx) (e : Expr) (m : ME) : Prop := PE X e (liftE X.K m)
def SA (X : Cx) (es : List Expr) (m : MA) : Prop := PA X es (liftA X.K m)
def SO (X : Cx) (e : Option Expr) (m : MO) : Prop := PO X e (liftB X.K m)
def STt (X : Cx) (e : Expr) (m : MT) : Prop := PT X e (liftB X.K m)
def SW (X : Cx) (e : Expr) (m : MT) : Prop := PW X e (liftB X.K m)

section
variable {X : Cx} {e a b c : Expr} {es rest : List Expr} {pos : Pos}
theorem PE.imp {t t' : TE} (h : PE X e t) (i : ∀ σ H Q, t' σ H Q → t σ H Q) : PE X e t' := ⟨fun pins s σ H Q I q => h.run pins s σ H Q I (i σ H Q q)⟩
theorem PA.imp {t t' : TA} (h : PA X es t) (i : ∀ σ H Q, t' σ H Q → t σ H Q) : PA X es t' := ⟨fun pos pins s σ H Q I q => h.run pos pins s σ H Q I (i σ H Q q)⟩
theorem PO.imp {o : Option Expr} {t t' : TO} (h : PO X o t) (i : ∀ σ H Q, t' σ H Q → t σ H Q) : PO X o t' := ⟨fun pins s σ H Q I q => h.run pins s σ H Q I (i σ H Q q)⟩
theorem PT.imp {t t' : TT} (h : PT X e t) (i : ∀ σ H Q, t' σ H Q → t σ H Q) : PT X e t' := ⟨fun pins s σ H Q I q => h.run pins s σ H Q I (i σ H Q q)⟩
theorem PW.imp {t t' : TT} (h : PW X e t) (i : ∀ σ H Q, t' σ H Q → t σ H Q) : PW X e t' := ⟨fun wh pins s σ H Q I q => h.run wh pins s σ H Q I (i σ H Q q)⟩

/-- the pieces of a lifted meaning, one after another -/
theorem liftE.into {K : PySem.W.Frag} {m : ME} {ι : Nat → Addr} {σ0 : L2.St} {G : Hz} {v : V} {G' : Hz} {H : Hp} {Q : VK} (so : okS G.length σ0 = true) (R : Rel K ι G H) (e : m σ0 G = some (v, G')) (p : Pz K ι G.length v G' Q) : liftE K m (ms ι σ0) H Q :=
  ⟨ι, σ0, G, v, G', rfl, so, R, e, p⟩
theorem bnd {α β : Type} {o : Option α} {f : α → Option β} {y : β} (h : o.bind f = some y) : ∃ x, o = some x ∧ f x = some y := Option.bind_eq_some_iff.mp h

/-! ### names, constants -/
theorem se_var {i : Nat} {x : Str} (h : PE X (.Name x pos) (tVar i)) : SE X (.Name x pos) (eVar i) := PE.imp h fun σ H Q h => by
  obtain ⟨ι, σ0, G, v, G', rfl, so, R, e, p⟩ := h
  unfold eVar at e
  cases q : σ0[i]? with
  | none => rw [q] at e; cases e
  | some o => cases o with
    | none => rw [q] at e; cases e
    | some u =>
      rw [q] at e
      cases e
      exact ⟨mv ι v, ms_get q, p ι H Agr.refl R (Nat.le_refl _) (okS_get so q)⟩
def atomV : V → Bool
  | .ref _ => false
  | _ => true
theorem atom_mv {v : V} (h : atomV v = true) (ι : Nat → Addr) : mv ι v = v := by cases v <;> first | rfl | cases h
theorem atom_ok {v : V} (h : atomV v = true) (n : Nat) : okV n v = true := by cases v <;> first | rfl | cases h
theorem se_c {v : V} (h : PE X e (tC v)) (k : atomV v = true := by rfl) : SE X e (eC v) := PE.imp h fun σ H Q h => by
  obtain ⟨ι, σ0, G, u, G', rfl, so, R, e, p⟩ := h
  cases e
  have q := p ι H Agr.refl R (Nat.le_refl _) (atom_ok k _)
  rw [atom_mv k] at q
  exact q
/-- another meaning that gives the same -/
theorem SE.as {m m' : ME} (h : SE X e m) (q : ∀ σ G, m σ G = m' σ G) : SE X e m' := by
  have : m = m' := funext fun σ => funext fun G => q σ G
  rw [← this]
  exact h

/-! ### operators -/
def OpZ (X : Cx) (F : Value → Value → Sem Value) (f : F2) : Prop := ∃ r, OpR X F r ∧ ∀ (ι : Nat → Addr) (G : Hz) (H : Hp) (x y v : V) (G' : Hz) (Q : VK), Rel X.K ι G H → okV G.length x = true → okV G.length y = true →
  f x y G = some (v, G') → Pz X.K ι G.length v G' Q → r (mv ι x) (mv ι y) H Q
theorem two {K : PySem.W.Frag} {ma mb : ME} {f : F2} {ι : Nat → Addr} {σ0 : L2.St} {G G' : Hz} {v : V} {H : Hp} {Q : VK} {r : R2} (so : okS G.length σ0 = true) (R : Rel K ι G H) (e : eBin f ma mb σ0 G = some (v, G')) (p : Pz K ι G.length v G' Q)
    (hf : ∀ (ι : Nat → Addr) (G : Hz) (H : Hp) (x y v : V) (G' : Hz) (Q : VK), Rel K ι G H → okV G.length x = true → okV G.length y = true → f x y G = some (v, G') → Pz K ι G.length v G' Q → r (mv ι x) (mv ι y) H Q) :
    tOp r (liftE K ma) (liftE K mb) (ms ι σ0) H Q := by
  obtain ⟨⟨x, G1⟩, e1, e⟩ := bnd e
  obtain ⟨⟨y, G2⟩, e2, e⟩ := bnd e
  refine liftE.into so R e1 fun ι1 H1 a1 R1 l1 k1 => ?_
  rw [ms_agr a1 so]
  refine liftE.into (okS_mono l1 so) R1 e2 fun ι2 H2 a2 R2 l2 k2 => ?_
  rw [mv_agr a2 k1]
  exact hf ι2 G2 H2 x y v G' Q R2 (okV_mono l2 k1) k2 e fun ι3 H3 a3 R3 l3 k3 => p ι3 H3 ((a1.trans a2 l1).trans a3 (Nat.le_trans l1 l2)) R3 (Nat.le_trans (Nat.le_trans l1 l2) l3) k3
theorem se_bin {op : Operator} {f : F2} {ma mb : ME} (h : OpZ X (binaryOp op) f) (ha : SE X a ma) (hb : SE X b mb) : SE X (.BinOp a op b pos) (eBin f ma mb) := by
  obtain ⟨r, hr, hf⟩ := h
  refine PE.imp (pe_op hr ha hb) fun σ H Q h => ?_
  obtain ⟨ι, σ0, G, v, G', rfl, so, R, e, p⟩ := h
  exact two so R e p hf
theorem se_cmp {op : CmpOp} {f : F2} {ma mb : ME} (h : OpZ X (compareOp op) f) (ha : SE X a ma) (hb : SE X b mb) (hm : behindInMarks op b = false) : SE X (.Compare a [op] [b] pos) (eBin f ma mb) := by
  obtain ⟨r, hr, hf⟩ := h
  refine PE.imp (pe_cmpR hr ha hb hm) fun σ H Q h => ?_
  obtain ⟨ι, σ0, G, v, G', rfl, so, R, e, p⟩ := h
  exact two so R e p hf
theorem te_split {m : ME} {σ : L2.St} {G G' : Hz} {k : Bool} (e : tE m σ G = some (k, G')) : m σ G = some (.bl k, G') := by
  obtain ⟨⟨x, G1⟩, e1, e⟩ := bnd e
  cases x with
  | bl j => cases e; exact e1
  | _ => cases e
theorem st_cmp {op : CmpOp} {f : F2} {ma mb : ME} (h : OpZ X (compareOp op) f) (ha : SE X a ma) (hb : SE X b mb) (hm : behindInMarks op b = false) : STt X (.Compare a [op] [b] pos) (tE (eBin f ma mb)) := by
  obtain ⟨r, hr, hf⟩ := h
  refine PT.imp (pt_cmpR hr ha hb hm) fun σ H Q h => ?_
  obtain ⟨ι, σ0, G, v, G', rfl, so, R, e, p⟩ := h
  exact two (Q := fun x H' => ∃ k, x = V.bl k ∧ Q k H') so R (te_split e) (fun ι' H' a' R' l' _ => ⟨v, rfl, p ι' H' a' R' l'⟩) hf
theorem st_val {m : ME} (h : SE X e m) (he : ∀ whole, isTrue e X.env whole = (do let v ← whole; standAt e.pos; holding [v] (truthy v)) := by intro _; rfl) : STt X e (tE m) := by
  refine PT.imp (pt_val h he) fun σ H Q h => ?_
  obtain ⟨ι, σ0, G, v, G', rfl, so, R, e, p⟩ := h
  exact liftE.into so R (te_split e) fun ι' H' a' R' l' _ => ⟨v, rfl, p ι' H' a' R' l'⟩
theorem st_not {m : MT} (h : STt X a m) : STt X (.UnaryOp .Not a pos) (tNotZ m) := by
  refine PT.imp (pt_not h) fun σ H Q h => ?_
  obtain ⟨ι, σ0, G, v, G', rfl, so, R, e, p⟩ := h
  obtain ⟨⟨k, G1⟩, e1, e⟩ := bnd e
  cases e
  exact ⟨ι, σ0, G, k, G1, rfl, so, R, e1, p⟩
theorem SW.pt {m : MT} (h : SW X e m) : STt X e m := L2.PW.pt h
theorem sw_and1 {m : MT} (h : STt X a m) : SW X (.BoolOp .And [a] pos) m := pw_and1 h
theorem sw_or1 {m : MT} (h : STt X a m) : SW X (.BoolOp .Or [a] pos) m := pw_or1 h
theorem sw_and {m m' : MT} (ha : STt X a m) (hb : SW X (.BoolOp .And (b :: rest) pos) m') : SW X (.BoolOp .And (a :: b :: rest) pos) (tAndZ m m') := by
  refine PW.imp (pw_and ha hb) fun σ H Q h => ?_
  obtain ⟨ι, σ0, G, v, G', rfl, so, R, e, p⟩ := h
  obtain ⟨⟨k, G1⟩, e1, e⟩ := bnd e
  refine ⟨ι, σ0, G, k, G1, rfl, so, R, e1, fun ι1 H1 a1 R1 l1 => ?_⟩
  cases k with
  | false =>
    cases e
    exact p ι1 H1 a1 R1 l1
  | true =>
    rw [if_pos rfl] at e ⊢
    rw [ms_agr a1 so]
    exact ⟨ι1, σ0, G1, v, G', rfl, okS_mono l1 so, R1, e, fun ι2 H2 a2 R2 l2 => p ι2 H2 (a1.trans a2 l1) R2 (Nat.le_trans l1 l2)⟩
theorem sw_or {m m' : MT} (ha : STt X a m) (hb : SW X (.BoolOp .Or (b :: rest) pos) m') : SW X (.BoolOp .Or (a :: b :: rest) pos) (tOrZ m m') := by
  refine PW.imp (pw_or ha hb) fun σ H Q h => ?_
  obtain ⟨ι, σ0, G, v, G', rfl, so, R, e, p⟩ := h
  obtain ⟨⟨k, G1⟩, e1, e⟩ := bnd e
  refine ⟨ι, σ0, G, k, G1, rfl, so, R, e1, fun ι1 H1 a1 R1 l1 => ?_⟩
  cases k with
  | true =>
    rw [if_pos rfl] at e ⊢
    cases e
    exact p ι1 H1 a1 R1 l1
  | false =>
    rw [if_neg Bool.false_ne_true] at e ⊢
    rw [ms_agr a1 so]
    exact ⟨ι1, σ0, G1, v, G', rfl, okS_mono l1 so, R1, e, fun ι2 H2 a2 R2 l2 => p ι2 H2 (a1.trans a2 l1) R2 (Nat.le_trans l1 l2)⟩
/-! and, or, not as values -/
theorem se_one {op} {m : ME} (h : SE X a m) : SE X (.BoolOp op [a] pos) m := pe_one h
theorem se_and {m m' : ME} (ha : SE X a m) (hb : SE X (.BoolOp .And (b :: rest) pos) m') : SE X (.BoolOp .And (a :: b :: rest) pos) (eAnd m m') := by
  refine PE.imp (pe_and ha hb) fun σ H Q h => ?_
  obtain ⟨ι, σ0, G, v, G', rfl, so, R, e, p⟩ := h
  obtain ⟨⟨x, G1⟩, e1, e⟩ := bnd e
  refine liftE.into so R e1 fun ι1 H1 a1 R1 l1 k1 => ?_
  cases x with
  | bl k =>
    refine ⟨k, rfl, ?_⟩
    cases k with
    | false =>
      cases e
      exact p ι1 H1 a1 R1 l1 k1
    | true =>
      rw [if_pos rfl, ms_agr a1 so]
      exact liftE.into (okS_mono l1 so) R1 e fun ι2 H2 a2 R2 l2 k2 => p ι2 H2 (a1.trans a2 l1) R2 (Nat.le_trans l1 l2) k2
  | _ => cases e
theorem se_or {m m' : ME} (ha : SE X a m) (hb : SE X (.BoolOp .Or (b :: rest) pos) m') : SE X (.BoolOp .Or (a :: b :: rest) pos) (eOr m m') := by
  refine PE.imp (pe_or ha hb) fun σ H Q h => ?_
  obtain ⟨ι, σ0, G, v, G', rfl, so, R, e, p⟩ := h
  obtain ⟨⟨x, G1⟩, e1, e⟩ := bnd e
  refine liftE.into so R e1 fun ι1 H1 a1 R1 l1 k1 => ?_
  cases x with
  | bl k =>
    refine ⟨k, rfl, ?_⟩
    cases k with
    | true =>
      cases e
      exact p ι1 H1 a1 R1 l1 k1
    | false =>
      rw [if_neg Bool.false_ne_true, ms_agr a1 so]
      exact liftE.into (okS_mono l1 so) R1 e fun ι2 H2 a2 R2 l2 k2 => p ι2 H2 (a1.trans a2 l1) R2 (Nat.le_trans l1 l2) k2
  | _ => cases e
theorem se_not {m : ME} (h : SE X a m) : SE X (.UnaryOp .Not a pos) (eNot m) := by
  refine PE.imp (pe_not h) fun σ H Q h => ?_
  obtain ⟨ι, σ0, G, v, G', rfl, so, R, e, p⟩ := h
  obtain ⟨⟨x, G1⟩, e1, e⟩ := bnd e
  refine liftE.into so R e1 fun ι1 H1 a1 R1 l1 k1 => ?_
  cases x with
  | bl k =>
    cases e
    exact ⟨k, rfl, p ι1 H1 a1 R1 l1 rfl⟩
  | _ => cases e
theorem se_ifE {mt : MT} {ma mb : ME} (hc : STt X c mt) (ha : SE X a ma) (hb : SE X b mb) : SE X (.IfExp c a b pos) (eIf mt ma mb) := by
  refine PE.imp (pe_ifExp hc ha hb) fun σ H Q h => ?_
  obtain ⟨ι, σ0, G, v, G', rfl, so, R, e, p⟩ := h
  obtain ⟨⟨k, G1⟩, e1, e⟩ := bnd e
  refine ⟨ι, σ0, G, k, G1, rfl, so, R, e1, fun ι1 H1 a1 R1 l1 => ?_⟩
  rw [ms_agr a1 so]
  cases k with
  | true =>
    rw [if_pos rfl] at e ⊢
    exact liftE.into (okS_mono l1 so) R1 e fun ι2 H2 a2 R2 l2 k2 => p ι2 H2 (a1.trans a2 l1) R2 (Nat.le_trans l1 l2) k2
  | false =>
    rw [if_neg Bool.false_ne_true] at e ⊢
    exact liftE.into (okS_mono l1 so) R1 e fun ι2 H2 a2 R2 l2 k2 => p ι2 H2 (a1.trans a2 l1) R2 (Nat.le_trans l1 l2) k2
theorem chain_of {K : PySem.W.Frag} {f g : F2} {ma mb mc : ME} {r r' : R2} {ι : Nat → Addr} {σ0 : L2.St} {G G' : Hz} {v : V} {H : Hp} {Q : VK} (so : okS G.length σ0 = true) (R : Rel K ι G H) (e : eChain f g ma mb mc σ0 G = some (v, G')) (p : Pz K ι G.length v G' Q)
    (hf : ∀ (ι : Nat → Addr) (G : Hz) (H : Hp) (x y v : V) (G' : Hz) (Q : VK), Rel K ι G H → okV G.length x = true → okV G.length y = true → f x y G = some (v, G') → Pz K ι G.length v G' Q → r (mv ι x) (mv ι y) H Q)
    (hg : ∀ (ι : Nat → Addr) (G : Hz) (H : Hp) (x y v : V) (G' : Hz) (Q : VK), Rel K ι G H → okV G.length x = true → okV G.length y = true → g x y G = some (v, G') → Pz K ι G.length v G' Q → r' (mv ι x) (mv ι y) H Q) :
    tChain r r' (liftE K ma) (liftE K mb) (liftE K mc) (ms ι σ0) H Q := by
  obtain ⟨⟨x, G1⟩, e1, e⟩ := bnd e
  obtain ⟨⟨y, G2⟩, e2, e⟩ := bnd e
  obtain ⟨⟨z, G3⟩, e3, e⟩ := bnd e
  refine liftE.into so R e1 fun ι1 H1 a1 R1 l1 k1 => ?_
  rw [ms_agr a1 so]
  refine liftE.into (okS_mono l1 so) R1 e2 fun ι2 H2 a2 R2 l2 k2 => ?_
  rw [mv_agr a2 k1]
  refine hf ι2 G2 H2 x y z G3 _ R2 (okV_mono l2 k1) k2 e3 fun ι3 H3 a3 R3 l3 k3 => ?_
  have a13 := (a1.trans a2 l1).trans a3 (Nat.le_trans l1 l2)
  have l13 := Nat.le_trans (Nat.le_trans l1 l2) l3
  cases z with
  | bl k =>
    refine ⟨k, rfl, ?_⟩
    cases k with
    | false =>
      cases e
      exact p ι3 H3 a13 R3 l13 rfl
    | true =>
      rw [if_pos rfl]
      obtain ⟨⟨w, G4⟩, e4, e⟩ := bnd e
      rw [ms_agr (a2.trans a3 l2) (okS_mono l1 so), mv_agr a3 k2]
      refine liftE.into (okS_mono (Nat.le_trans l2 l3) (okS_mono l1 so)) R3 e4 fun ι4 H4 a4 R4 l4 k4 => ?_
      rw [mv_agr a4 (okV_mono l3 k2)]
      exact hg ι4 G4 H4 y w v G' Q R4 (okV_mono (Nat.le_trans l3 l4) k2) k4 e fun ι5 H5 a5 R5 l5 k5 => p ι5 H5 ((a13.trans a4 l13).trans a5 (Nat.le_trans l13 l4)) R5 (Nat.le_trans (Nat.le_trans l13 l4) l5) k5
  | _ => cases e
theorem se_chain {op op' : CmpOp} {f g : F2} {ma mb mc : ME} (h : OpZ X (compareOp op) f) (h' : OpZ X (compareOp op') g) (ha : SE X a ma) (hb : SE X b mb) (hc : SE X c mc) (hm : lastMarks [op, op'] [b, c] = false := by with_unfolding_all rfl) : SE X (.Compare a [op, op'] [b, c] pos) (eChain f g ma mb mc) := by
  obtain ⟨r, hr, hf⟩ := h
  obtain ⟨r', hr', hg⟩ := h'
  refine PE.imp (pe_chain hr hr' ha hb hc hm) fun σ H Q h => ?_
  obtain ⟨ι, σ0, G, v, G', rfl, so, R, e, p⟩ := h
  exact chain_of so R e p hf hg

/-! ### arguments, displays -/
theorem sa_nil : SA X [] aNil := PA.imp pa_nil fun σ H Q h => by
  obtain ⟨ι, σ0, G, v, G', rfl, so, R, e, p⟩ := h
  cases e
  exact p ι H Agr.refl R (Nat.le_refl _) rfl
theorem sa_cons {m : ME} {r : MA} (ha : SE X e m) (hr : SA X es r) (hs : starEach (e :: es) X.env = (false, eval e X.env) :: starEach es X.env := by rfl) : SA X (e :: es) (aCons m r) := PA.imp (pa_cons ha hr hs) fun σ H Q h => by
  obtain ⟨ι, σ0, G, v, G', rfl, so, R, e, p⟩ := h
  obtain ⟨⟨x, G1⟩, e1, e⟩ := bnd e
  obtain ⟨⟨xs, G2⟩, e2, e⟩ := bnd e
  cases e
  refine liftE.into so R e1 fun ι1 H1 a1 R1 l1 k1 => ?_
  rw [ms_agr a1 so]
  refine ⟨ι1, σ0, G1, xs, G2, rfl, okS_mono l1 so, R1, e2, fun ι2 H2 a2 R2 l2 k2 => ?_⟩
  rw [mv_agr a2 k1]
  exact p ι2 H2 (a1.trans a2 l1) R2 (Nat.le_trans l1 l2) (by rw [List.all_cons, okV_mono l2 k1, k2]; rfl)
theorem Pz.alloc {K : PySem.W.Frag} {ι : Nat → Addr} {G : Hz} {H : Hp} {o : O} {Q : VK} {v : V} {G' : Hz} (R : Rel K ι G H) (k : okO G.length o = true) (n : isFz o = false) (e : alloc o G = some (v, G')) (p : Pz K ι G.length v G' Q) : ∀ q, H q = none → Q (.ref q) (upd H q (o.ho ι)) := fun q hq => by
  cases e
  have := p (ext ι G.length q) (upd H q (o.ho ι)) ext_agr (R.new k n hq) (by simp) (by simp [okV])
  have z : mv (ext ι G.length q) (.ref G.length) = .ref q := congrArg V.ref ext_self
  rw [z] at this
  exact this
theorem se_lst {r : MA} (h : SA X es r) : SE X (.List es pos) (eLst r) := PE.imp (pe_lst h) fun σ H Q h => by
  obtain ⟨ι, σ0, G, v, G', rfl, so, R, e, p⟩ := h
  obtain ⟨⟨xs, G1⟩, e1, e⟩ := bnd e
  dsimp only at e
  split at e
  · rename_i z
    refine ⟨ι, σ0, G, xs, G1, rfl, so, R, e1, fun ι1 H1 a1 R1 l1 k1 => ⟨by rw [List.length_map]; exact z, ?_⟩⟩
    exact Pz.alloc (o := .lst xs) R1 k1 rfl e fun ι2 H2 a2 R2 l2 k2 => p ι2 H2 (a1.trans a2 l1) R2 (Nat.le_trans l1 l2) k2
  · cases e
theorem se_tup {r : MA} {x1} (h : SA X es r) : SE X (.Tuple es x1 pos) (eTup r) := PE.imp (pe_tup h) fun σ H Q h => by
  obtain ⟨ι, σ0, G, v, G', rfl, so, R, e, p⟩ := h
  obtain ⟨⟨xs, G1⟩, e1, e⟩ := bnd e
  dsimp only at e
  split at e
  · rename_i z
    refine ⟨ι, σ0, G, xs, G1, rfl, so, R, e1, fun ι1 H1 a1 R1 l1 k1 => ⟨by rw [List.length_map]; exact z, ?_⟩⟩
    exact Pz.alloc (o := .tup xs) R1 k1 rfl e fun ι2 H2 a2 R2 l2 k2 => p ι2 H2 (a1.trans a2 l1) R2 (Nat.le_trans l1 l2) k2
  · cases e

/-! ### subscripts, slices -/
def IxZ (X : Cx) (f : F2) : Prop := ∃ r, IxR X r ∧ ∀ (ι : Nat → Addr) (G : Hz) (H : Hp) (x y v : V) (G' : Hz) (Q : VK), Rel X.K ι G H → okV G.length x = true → okV G.length y = true →
  f x y G = some (v, G') → Pz X.K ι G.length v G' Q → r (mv ι x) (mv ι y) H Q
theorem se_ix {f : F2} {ma mb : ME} (h : IxZ X f) (ha : SE X a ma) (hb : SE X b mb) (hs : PlainIx b) : SE X (.Subscript a b pos) (eBin f ma mb) := by
  obtain ⟨r, hr, hf⟩ := h
  refine PE.imp (pe_ix hr ha hb hs) fun σ H Q h => ?_
  obtain ⟨ι, σ0, G, v, G', rfl, so, R, e, p⟩ := h
  exact two so R e p hf
theorem so_none : SO X none oNone := PO.imp po_none fun σ H Q h => by
  obtain ⟨ι, σ0, G, v, G', rfl, so, R, e, p⟩ := h
  cases e
  exact p ι H Agr.refl R (Nat.le_refl _)
theorem so_some {m : ME} (h : SE X e m) : SO X (some e) (oSome m) := PO.imp (po_some h) fun σ H Q h => by
  obtain ⟨ι, σ0, G, v, G', rfl, so, R, e, p⟩ := h
  obtain ⟨⟨x, G1⟩, e1, e⟩ := bnd e
  refine liftE.into so R e1 fun ι1 H1 a1 R1 l1 k1 => ?_
  cases x with
  | int i =>
    cases e
    exact ⟨i, rfl, p ι1 H1 a1 R1 l1⟩
  | _ => cases e
def SlZ (X : Cx) (f : V → Option Int → Option Int → Hz → Option (V × Hz)) : Prop := ∃ r, SlR X r ∧ ∀ (ι : Nat → Addr) (G : Hz) (H : Hp) (x : V) (lo hi : Option Int) (v : V) (G' : Hz) (Q : VK), Rel X.K ι G H → okV G.length x = true →
  f x lo hi G = some (v, G') → Pz X.K ι G.length v G' Q → r (mv ι x) lo hi H Q
theorem se_slice {f : V → Option Int → Option Int → Hz → Option (V × Hz)} {m : ME} {ml mh : MO} {lo hi : Option Expr} {p2 : Pos} (h : SlZ X f) (he : SE X e m) (hl : SO X lo ml) (hu : SO X hi mh) : SE X (.Subscript e (.Slice lo hi none p2) pos) (eSlice f m ml mh) := by
  obtain ⟨r, hr, hf⟩ := h
  refine PE.imp (pe_slice hr he hl hu) fun σ H Q h => ?_
  obtain ⟨ι, σ0, G, v, G', rfl, so, R, e, p⟩ := h
  obtain ⟨⟨x, G1⟩, e1, e⟩ := bnd e
  obtain ⟨⟨l, G2⟩, e2, e⟩ := bnd e
  obtain ⟨⟨u, G3⟩, e3, e⟩ := bnd e
  refine liftE.into so R e1 fun ι1 H1 a1 R1 l1 k1 => ?_
  rw [ms_agr a1 so]
  refine ⟨ι1, σ0, G1, l, G2, rfl, okS_mono l1 so, R1, e2, fun ι2 H2 a2 R2 l2 => ?_⟩
  rw [ms_agr a2 (okS_mono l1 so), mv_agr a2 k1]
  refine ⟨ι2, σ0, G2, u, G3, rfl, okS_mono l2 (okS_mono l1 so), R2, e3, fun ι3 H3 a3 R3 l3 => ?_⟩
  rw [mv_agr a3 (okV_mono l2 k1)]
  exact hf ι3 G3 H3 x l u v G' Q R3 (okV_mono l3 (okV_mono l2 k1)) e fun ι4 H4 a4 R4 l4 k4 => p ι4 H4 (((a1.trans a2 l1).trans a3 (Nat.le_trans l1 l2)).trans a4 (Nat.le_trans (Nat.le_trans l1 l2) l3)) R4 (Nat.le_trans (Nat.le_trans (Nat.le_trans l1 l2) l3) l4) k4

/-! ### built-ins by name, methods of built-in types -/
def CallZ (X : Cx) (F : Value) (f : FL) : Prop := ∃ r, CallR X F r ∧ ∀ (ι : Nat → Addr) (G : Hz) (H : Hp) (vs : List V) (v : V) (G' : Hz) (Q : VK), Rel X.K ι G H → vs.all (okV G.length) = true →
  f vs G = some (v, G') → Pz X.K ι G.length v G' Q → r (vs.map (mv ι)) H Q
theorem call_of {K : PySem.W.Frag} {f : FL} {m : MA} {r : List V → Hp → VK → Prop} {ι : Nat → Addr} {σ0 : L2.St} {G G' : Hz} {v : V} {H : Hp} {Q : VK} (so : okS G.length σ0 = true) (R : Rel K ι G H) (e : eCall f m σ0 G = some (v, G')) (p : Pz K ι G.length v G' Q)
    (hf : ∀ (ι : Nat → Addr) (G : Hz) (H : Hp) (vs : List V) (v : V) (G' : Hz) (Q : VK), Rel K ι G H → vs.all (okV G.length) = true → f vs G = some (v, G') → Pz K ι G.length v G' Q → r (vs.map (mv ι)) H Q) :
    liftA K m (ms ι σ0) H fun vs H1 => r vs H1 Q := by
  obtain ⟨⟨xs, G1⟩, e1, e⟩ := bnd e
  refine ⟨ι, σ0, G, xs, G1, rfl, so, R, e1, fun ι1 H1 a1 R1 l1 k1 => ?_⟩
  exact hf ι1 G1 H1 xs v G' Q R1 k1 e fun ι2 H2 a2 R2 l2 k2 => p ι2 H2 (a1.trans a2 l1) R2 (Nat.le_trans l1 l2) k2
theorem se_callB {id : String} {f : FL} {m : MA} {x : Str} {p : Pos} (hc : CallZ X (.builtin id) f) (hg : Gl X x) (hm : X.mg x = none) (hv : bootBuiltins x = some (.builtin id)) (ha : SA X (e :: es) m) (hn : x ≠ "__name__" := by decide) (hdb : (x == ("__debug__" : Str)) = false := by decide)
    (he : starEach (e :: es) X.env = (false, eval e X.env) :: starEach es X.env := by rfl) (hpl : (backTo pos (starEach es X.env)).any (·.1) = false := by rfl) : SE X (.Call (.Name x p) (e :: es) [] pos) (eCall f m) := by
  obtain ⟨r, hr, hf⟩ := hc
  refine PE.imp (pe_callB hr hg hm hv ha hn hdb he hpl) fun σ H Q h => ?_
  obtain ⟨ι, σ0, G, v, G', rfl, so, R, e, p⟩ := h
  exact call_of so R e p hf
theorem se_callT {T : String} {f : FL} {m : MA} {x : Str} {p : Pos} (hc : CallZ X (.type T) f) (hg : Gl X x) (hm : X.mg x = none) (hv : bootBuiltins x = some (.type T)) (ha : SA X (e :: es) m) (hn : x ≠ "__name__" := by decide) (hdb : (x == ("__debug__" : Str)) = false := by decide)
    (he : starEach (e :: es) X.env = (false, eval e X.env) :: starEach es X.env := by rfl) (hpl : (backTo pos (starEach es X.env)).any (·.1) = false := by rfl) : SE X (.Call (.Name x p) (e :: es) [] pos) (eCall f m) := by
  obtain ⟨r, hr, hf⟩ := hc
  refine PE.imp (pe_callTy hr hg hm hv ha hn hdb he hpl) fun σ H Q h => ?_
  obtain ⟨ι, σ0, G, v, G', rfl, so, R, e, p⟩ := h
  exact call_of so R e p hf
/-- a method's rule, and that the receiver is of its type -/
def MtZ (X : Cx) (T id : String) (tp : V → Hz → Bool) (f : FM) : Prop := ∃ r, MtR X id r ∧ (∀ (ι : Nat → Addr) (G : Hz) (H : Hp) (x : V), Rel X.K ι G H → tp x G = true → tyV X.K T (mv ι x) H) ∧
  ∀ (ι : Nat → Addr) (G : Hz) (H : Hp) (x : V) (vs : List V) (v : V) (G' : Hz) (Q : VK), Rel X.K ι G H → okV G.length x = true → vs.all (okV G.length) = true → f x vs G = some (v, G') → Pz X.K ι G.length v G' Q → r (mv ι x) (vs.map (mv ι)) H Q
variable {o : Expr} {name : Str} {apos cpos : Pos} {T id : String} {tp : V → Hz → Bool} {f : FM} {m : ME}
theorem se_meth {mr : MA} (pa : PlainAttrs T) (slot : Slot T name id) (hty : typeOf (.builtin id) = pure (.type "method_descriptor")) (hm : MtZ X T id tp f) (ho : SE X o m) (ha : SA X (e :: es) mr)
    (hbase : attributeBase o name X.env (eval o X.env) = eval o X.env := by rfl)
    (hfew : ((backTo cpos (starEach (e :: es) X.env)).all (fun x => !x.1) && (backToKw cpos (keywordEach [] X.env)).all (fun x => x.1.isSome)
      && decide ((e :: es).length + ([] : List Keyword).length + (if ([] : List Keyword).isEmpty then 0 else 1) < 30)) = true := by rfl)
    (hline : (apos.endLine == cpos.line) = true := by rfl) (hs : starEach (e :: es) X.env = (false, eval e X.env) :: starEach es X.env := by rfl) (hplain : (backTo cpos (starEach es X.env)).any (·.1) = false := by rfl) :
    SE X (.Call (.Attribute o name apos) (e :: es) [] cpos) (eMeth tp f m mr) := by
  obtain ⟨r, hr, ht, hf⟩ := hm
  refine PE.imp (pe_bm pa slot hty hr ho ha hbase hfew hline hs hplain) fun σ H Q h => ?_
  obtain ⟨ι, σ0, G, v, G', rfl, so, R, e, p⟩ := h
  obtain ⟨⟨x, G1⟩, e1, e⟩ := bnd e
  dsimp only at e
  split at e
  · rename_i z
    obtain ⟨⟨xs, G2⟩, e2, e⟩ := bnd e
    refine liftE.into so R e1 fun ι1 H1 a1 R1 l1 k1 => ⟨ht ι1 G1 H1 x R1 z, ?_⟩
    rw [ms_agr a1 so]
    refine ⟨ι1, σ0, G1, xs, G2, rfl, okS_mono l1 so, R1, e2, fun ι2 H2 a2 R2 l2 k2 => ?_⟩
    rw [mv_agr a2 k1]
    exact hf ι2 G2 H2 x xs v G' Q R2 (okV_mono l2 k1) k2 e fun ι3 H3 a3 R3 l3 k3 => p ι3 H3 ((a1.trans a2 l1).trans a3 (Nat.le_trans l1 l2)) R3 (Nat.le_trans (Nat.le_trans l1 l2) l3) k3
  · cases e
theorem se_meth0 (pa : PlainAttrs T) (slot : Slot T name id) (hty : typeOf (.builtin id) = pure (.type "method_descriptor")) (hm : MtZ X T id tp f) (ho : SE X o m)
    (hbase : attributeBase o name X.env (eval o X.env) = eval o X.env := by rfl) (hline : (apos.endLine == cpos.line) = true := by rfl) : SE X (.Call (.Attribute o name apos) [] [] cpos) (eMeth tp f m aNil) := by
  obtain ⟨r, hr, ht, hf⟩ := hm
  refine PE.imp (pe_bm0 pa slot hty hr ho hbase hline) fun σ H Q h => ?_
  obtain ⟨ι, σ0, G, v, G', rfl, so, R, e, p⟩ := h
  obtain ⟨⟨x, G1⟩, e1, e⟩ := bnd e
  dsimp only at e
  split at e
  · rename_i z
    refine liftE.into so R e1 fun ι1 H1 a1 R1 l1 k1 => ⟨ht ι1 G1 H1 x R1 z, ?_⟩
    exact hf ι1 G1 H1 x [] v G' Q R1 k1 rfl e fun ι3 H3 a3 R3 l3 k3 => p ι3 H3 (a1.trans a3 l1) R3 (Nat.le_trans l1 l3) k3
  · cases e

/-! ### what is thrown away -/
theorem kept_len {G : Hz} : ∀ {G' : Hz} {n : Nat}, keptB n G G' = true → G.length ≤ G'.length := by
  induction G with
  | nil => intro _ _ _; exact Nat.zero_le _
  | cons o G ih =>
    intro G' n h
    cases G' with
    | nil => cases h
    | cons o' G' => exact Nat.succ_le_succ (ih (Bool.and_eq_true_iff.mp h).2)
theorem kept_at {G : Hz} : ∀ {G' : Hz} {n i : Nat} {u : O}, keptB n G G' = true → i < G.length → G'[i]? = some u → G[i]? = some u ∨ okO n u = true := by
  induction G with
  | nil => intro _ _ _ _ _ l; exact absurd l (Nat.not_lt_zero _)
  | cons o G ih =>
    intro G' n i u h l e
    cases G' with
    | nil => cases h
    | cons o' G' =>
      obtain ⟨h1, h2⟩ := Bool.and_eq_true_iff.mp h
      cases i with
      | zero =>
        cases e
        rcases Bool.or_eq_true_iff.mp h1 with q | q
        · exact .inl (congrArg some (of_decide_eq_true q))
        · exact .inr q
      | succ i => exact ih (G' := G') h2 (Nat.lt_of_succ_lt_succ l) e
theorem Rel.cut {K : PySem.W.Frag} {ι ι' : Nat → Addr} {G G' : Hz} {H H' : Hp} (R : Rel K ι G H) (R' : Rel K ι' G' H') (h : keptB G.length G G' = true) : Rel K ι' (G'.take G.length) H' := by
  have len : (G'.take G.length).length = G.length := by rw [List.length_take]; exact Nat.min_eq_left (kept_len h)
  have get : ∀ {i : Nat} {u}, (G'.take G.length)[i]? = some u → i < G.length ∧ G'[i]? = some u := fun {i u} e => by
    have l : i < G.length := by rw [← len]; exact lt_of_get e
    rw [List.getElem?_take_of_lt l] at e
    exact ⟨l, e⟩
  refine ⟨fun i u e => R'.at_ i u (get e).2, fun i j u v e1 e2 => R'.inj i j u v (get e1).2 (get e2).2, fun i u e => ?_⟩
  obtain ⟨l, e⟩ := get e
  rw [len]
  rcases kept_at h l e with q | q
  · exact R.ok i u q
  · exact q
theorem cut_to {K : PySem.W.Frag} {ι ι' : Nat → Addr} {G G' G2 : Hz} {H H' : Hp} {v w : V} (R : Rel K ι G H) (R' : Rel K ι' G' H') (a : Agr G.length ι ι') (k : okV G'.length v = true) (h : cut G v G' = some (w, G2)) :
    ∃ ι2, Agr G.length ι ι2 ∧ Rel K ι2 G2 H' ∧ mv ι2 w = mv ι' v ∧ okV G2.length w = true ∧ G.length ≤ G2.length := by
  unfold Zl.cut at h
  split at h
  · rename_i kb
    have R2 := R.cut R' kb
    have len : (G'.take G.length).length = G.length := by rw [List.length_take]; exact Nat.min_eq_left (kept_len kb)
    have old : ∀ {u : V}, okV G.length u = true → ∃ ι2, Agr G.length ι ι2 ∧ Rel K ι2 (G'.take G.length) H' ∧ mv ι2 u = mv ι' u ∧ okV (G'.take G.length).length u = true ∧ G.length ≤ (G'.take G.length).length := fun {u} ku =>
      ⟨ι', a, R2, rfl, by rw [len]; exact ku, Nat.le_of_eq len.symm⟩
    cases v with
    | ref b =>
      dsimp only at h
      split at h
      · rename_i lt
        cases h
        exact old (decide_eq_true lt)
      · cases q : G'[b]? with
        | none => rw [q] at h; cases h
        | some o =>
          rw [q] at h
          dsimp only at h
          split at h
          · rename_i ko
            cases h
            have ag : Agr G.length ι' (ext ι' G.length (ι' b)) := ext_agr
            refine ⟨ext ι' G.length (ι' b), a.trans ag (Nat.le_refl _), ?_, congrArg V.ref ext_self, ?_, ?_⟩
            · have nb : ¬ b < G.length := by assumption
              have get : ∀ {i : Nat} {u}, (G'.take G.length ++ [o])[i]? = some u → (i < G.length ∧ G'[i]? = some u ∧ okO G.length u = true) ∨ (i = G.length ∧ u = o) := fun {i u} e => by
                by_cases hi : i < G.length
                · rw [List.getElem?_append_left (by rw [len]; exact hi)] at e
                  have z := R2.ok i u e
                  rw [len] at z
                  rw [List.getElem?_take_of_lt hi] at e
                  exact .inl ⟨hi, e, z⟩
                · have l := lt_of_get e
                  rw [List.length_append, len, List.length_cons, List.length_nil] at l
                  obtain rfl : i = G.length := by omega
                  rw [List.getElem?_append_right (by rw [len]; exact Nat.le_refl _), len, Nat.sub_self] at e
                  exact .inr ⟨rfl, (Option.some.inj e).symm⟩
              refine ⟨fun i u e => ?_, fun i j u w e1 e2 n1 n2 z => ?_, fun i u e => ?_⟩
              · rcases get e with ⟨hi, e, ku⟩ | ⟨z1, z2⟩
                · exact (R'.at_ i u e).to ag hi ku (fun _ x => x) fun _ _ x => x
                · subst z1 z2
                  have z := (R'.at_ b u q).ho ko.2
                  rw [ho_agr ag ko.1] at z
                  exact .of_ho ko.2 (by rw [ext_self]; exact z)
              · rcases get e1 with ⟨hi, f1, _⟩ | ⟨z1, w1⟩
                · rcases get e2 with ⟨hj, f2, _⟩ | ⟨z2, w2⟩
                  · rw [← ag i hi, ← ag j hj] at z
                    exact R'.inj i j u w f1 f2 n1 n2 z
                  · rw [← ag i hi, z2, ext_self] at z
                    have y := R'.inj i b u o f1 q n1 ko.2 z
                    rw [y] at hi
                    exact absurd hi nb
                · rcases get e2 with ⟨hj, f2, _⟩ | ⟨z2, w2⟩
                  · rw [← ag j hj, z1, ext_self] at z
                    have y := R'.inj b j o w q f2 ko.2 n2 z
                    rw [← y] at hj
                    exact absurd hj nb
                  · exact z1.trans z2.symm
              · have l : G.length ≤ (G'.take G.length ++ [o]).length := by rw [List.length_append, len]; exact Nat.le_add_right _ _
                rcases get e with ⟨hi, e, ku⟩ | ⟨z1, z2⟩
                · exact okO_mono l ku
                · rw [z2]
                  exact okO_mono l ko.1
            · rw [List.length_append, len]
              exact decide_eq_true (Nat.lt_succ_self _)
            · rw [List.length_append, len]
              exact Nat.le_add_right _ _
          · cases h
    | _ =>
      cases h
      exact old rfl
  · cases h
theorem se_cut {m : ME} (h : SE X e m) : SE X e (eCut m) := PE.imp h fun σ H Q h => by
  obtain ⟨ι, σ0, G, v, G', rfl, so, R, e, p⟩ := h
  obtain ⟨⟨x, G1⟩, e1, e⟩ := bnd e
  refine liftE.into so R e1 fun ι1 H1 a1 R1 l1 k1 => ?_
  obtain ⟨ι2, a2, R2, q2, k2, l2⟩ := cut_to R R1 a1 k1 e
  rw [← q2]
  exact p ι2 H1 a2 R2 l2 k2
theorem st_cut {m : MT} (h : STt X e m) : STt X e (tCut m) := PT.imp h fun σ H Q h => by
  obtain ⟨ι, σ0, G, v, G', rfl, so, R, e, p⟩ := h
  obtain ⟨⟨x, G1⟩, e1, e⟩ := bnd e
  refine ⟨ι, σ0, G, x, G1, rfl, so, R, e1, fun ι1 H1 a1 R1 l1 => ?_⟩
  dsimp only at e
  split at e
  · rename_i kb
    cases e
    exact p ι1 H1 a1 (R.cut R1 kb) (by rw [List.length_take]; exact Nat.le_of_eq (Nat.min_eq_left (kept_len kb)).symm)
  · cases e
end
end Zl

/-! Zl, part 3: the operators, built-ins and methods keep to the layer's rules. -/
namespace Zl
open PySem PySem.Spec L2
open PyProof.Rows hiding St

section
variable {X : Cx}
theorem Pz.same {K : PySem.W.Frag} {ι : Nat → Addr} {G : Hz} {H : Hp} {v : V} {Q : VK} (R : Rel K ι G H) (p : Pz K ι G.length v G Q) (k : okV G.length v = true) : Q (mv ι v) H := p ι H .refl R (Nat.le_refl _) k
theorem Pz.put {K : PySem.W.Frag} {ι : Nat → Addr} {G : Hz} {H : Hp} {v : V} {Q : VK} {i : Nat} {o o' : O} (R : Rel K ι G H) (e : G[i]? = some o) (n : isFz o = false) (k : okO G.length o' = true) (n' : isFz o' = false) (p : Pz K ι G.length v (G.set i o') Q) (kv : okV G.length v = true) : Q (mv ι v) (upd H (ι i) (o'.ho ι)) :=
  p ι _ .refl (R.put e n k n') (by rw [List.length_set]; exact Nat.le_refl _) (by rw [List.length_set]; exact kv)
theorem Rel.okl {K : PySem.W.Frag} {ι : Nat → Addr} {G : Hz} {H : Hp} {i : Nat} {xs : List V} (R : Rel K ι G H) (e : G[i]? = some (.lst xs)) : xs.all (okV G.length) = true := R.ok i _ e
theorem Rel.okt {K : PySem.W.Frag} {ι : Nat → Addr} {G : Hz} {H : Hp} {i : Nat} {xs : List V} (R : Rel K ι G H) (e : G[i]? = some (.tup xs)) : xs.all (okV G.length) = true := R.ok i _ e
theorem all_mem {xs : List V} {n : Nat} {v : V} (h : xs.all (okV n) = true) (m : v ∈ xs) : okV n v = true := List.all_eq_true.mp h v m
theorem all_sub {xs ys : List V} {n : Nat} (h : xs.all (okV n) = true) (m : ∀ v, v ∈ ys → v ∈ xs) : ys.all (okV n) = true := List.all_eq_true.mpr fun v hv => all_mem h (m v hv)

theorem z_add : OpZ X (binaryOp .Add) bAdd := by
  refine ⟨_, op_add.or (op_add_str.or op_cat), fun ι G H x y v G' Q R kx ky e p => ?_⟩
  unfold bAdd at e
  split at e
  · cases e
    exact .inl ⟨_, _, rfl, rfl, p.same R rfl⟩
  · split at e
    · rename_i z
      cases e
      exact .inr (.inl ⟨_, _, rfl, rfl, z, p.same R rfl⟩)
    · cases e
  · split at e
    · rename_i e1 e2
      split at e
      · rename_i z
        refine .inr (.inr ⟨_, _, _, _, rfl, rfl, R.lstM e1, R.lstM e2, by rw [List.length_map, List.length_map]; exact z, ?_⟩)
        rw [← List.map_append]
        exact Pz.alloc (o := .lst _) R (by show List.all _ _ = true; rw [List.all_append, R.okl e1, R.okl e2]; rfl) rfl e p
      · cases e
    · cases e
  · cases e
theorem z_sub : OpZ X (binaryOp .Sub) bSub := by
  refine ⟨_, op_sub, fun ι G H x y v G' Q R kx ky e p => ?_⟩
  unfold bSub at e
  split at e
  · cases e
    exact ⟨_, _, rfl, rfl, p.same R rfl⟩
  · cases e
theorem small_log {i : Int} (h : smallN i = true) : i.natAbs.log2 < 2000 := PySem.Flt.log2_lt_of (by decide) (by
  have := of_decide_eq_true h
  unfold bigN at this
  exact this)
theorem z_mul : OpZ X (binaryOp .Mult) bMul := by
  refine ⟨_, op_mulW.or op_rep, fun ι G H x y v G' Q R kx ky e p => ?_⟩
  unfold bMul at e
  split at e
  · split at e
    · rename_i z
      cases e
      have h1 := small_log z.1
      have h2 := small_log z.2
      exact .inl ⟨_, _, rfl, rfl, by unfold CMulW; omega, p.same R rfl⟩
    · cases e
  · split at e
    · rename_i e1
      split at e
      · rename_i z
        obtain ⟨z1, z2, z3⟩ := z
        refine .inr ⟨_, _, _, rfl, rfl, R.lstM e1, z1, z2, by rw [List.length_map]; exact z3, ?_⟩
        rw [show (List.replicate _ (List.map (mv ι) _)).flatten = List.map (mv ι) (List.replicate _ _).flatten from by rw [List.map_flatten, List.map_replicate]]
        refine Pz.alloc (o := .lst _) R (all_sub (R.okl e1) fun v hv => ?_) rfl e p
        obtain ⟨l, h1, h2⟩ := List.mem_flatten.mp hv
        rw [List.eq_of_mem_replicate h1] at h2
        exact h2
      · cases e
    · cases e
  · cases e
theorem z_mod : OpZ X (binaryOp .Mod) bMod := by
  refine ⟨_, op_modN, fun ι G H x y v G' Q R kx ky e p => ?_⟩
  unfold bMod at e
  split at e
  · split at e
    · rename_i z
      cases e
      exact ⟨_, _, rfl, rfl, z, p.same R rfl⟩
    · cases e
  · cases e
theorem op_divW : OpR X (binaryOp .FloorDiv) (rI (fun _ j => j ≠ 0 ∧ j.natAbs.log2 < 9000) fun i j => .int (i.fdiv j)) := opI fun i j _ _ _ _ _ hc q =>
  floordiv_int hc.1 q (.inl (PyProof.noPylong_of_log2 hc.2))
theorem z_div : OpZ X (binaryOp .FloorDiv) bDiv := by
  refine ⟨_, op_divW, fun ι G H x y v G' Q R kx ky e p => ?_⟩
  unfold bDiv at e
  split at e
  · split at e
    · rename_i z
      cases e
      have h := small_log z.2
      exact ⟨_, _, rfl, rfl, ⟨z.1, by omega⟩, p.same R rfl⟩
    · cases e
  · cases e
theorem op_powW : OpR X (binaryOp .Pow) (rI (fun i j => 0 ≤ j ∧ j ≤ 1000 ∧ i.natAbs.log2 < 2000) fun i j => .int (i ^ j.toNat)) := opI fun i j _ _ _ _ _ hc q => by
  refine pow_int hc.1 ?_ q
  have b : Builtin.Int.intBits i ≤ i.natAbs.log2 + 1 := by
    unfold Builtin.Int.intBits
    split <;> omega
  have h3 := hc.2.2
  have b2 : (Builtin.Int.intBits i : Int) ≤ 2000 := by omega
  calc (Builtin.Int.intBits i : Int) * j ≤ 2000 * j := Int.mul_le_mul_of_nonneg_right b2 hc.1
    _ ≤ 2000 * 1000 := Int.mul_le_mul_of_nonneg_left hc.2.1 (by decide)
    _ ≤ 2 ^ 27 := by decide
theorem z_pow : OpZ X (binaryOp .Pow) bPow := by
  refine ⟨_, op_powW, fun ι G H x y v G' Q R kx ky e p => ?_⟩
  unfold bPow at e
  split at e
  · split at e
    · rename_i z
      cases e
      exact ⟨_, _, rfl, rfl, ⟨z.2.1, z.2.2, small_log z.1⟩, p.same R rfl⟩
    · cases e
  · cases e
theorem z_lt : OpZ X (compareOp .Lt) cLt := by
  refine ⟨_, op_lt, fun ι G H x y v G' Q R kx ky e p => ?_⟩
  unfold cLt at e
  split at e
  · cases e
    exact ⟨_, _, rfl, rfl, p.same R rfl⟩
  · cases e
theorem z_le : OpZ X (compareOp .LtE) cLe := by
  refine ⟨_, op_le, fun ι G H x y v G' Q R kx ky e p => ?_⟩
  unfold cLe at e
  split at e
  · cases e
    exact ⟨_, _, rfl, rfl, p.same R rfl⟩
  · cases e
theorem z_gt : OpZ X (compareOp .Gt) cGt := by
  refine ⟨_, op_gt, fun ι G H x y v G' Q R kx ky e p => ?_⟩
  unfold cGt at e
  split at e
  · cases e
    exact ⟨_, _, rfl, rfl, p.same R rfl⟩
  · cases e
theorem z_ge : OpZ X (compareOp .GtE) cGe := by
  refine ⟨_, op_ge, fun ι G H x y v G' Q R kx ky e p => ?_⟩
  unfold cGe at e
  split at e
  · cases e
    exact ⟨_, _, rfl, rfl, p.same R rfl⟩
  · cases e
/-! data -/
theorem dpAll_of {K : PySem.W.Frag} {ι : Nat → Addr} {H : Hp} {f : V → Option PyData} (h : ∀ v d, f v = some d → d.hasDict = false → Dp K H (mv ι v) d) : ∀ (xs : List V) (ds : List PyData), mapO f xs = some ds → (PyData.list ds).hasDict = false → DpAll K H (xs.map (mv ι)) ds
  | [], _, e, _ => by
    cases e
    exact .nil
  | x :: xs, ds, e, n => by
    obtain ⟨d, e1, e⟩ := bnd e
    obtain ⟨ds', e2, e⟩ := bnd e
    cases e
    have n2 : d.hasDict = false ∧ (PyData.list ds').hasDict = false := by
      simp only [PyData.hasDict] at n ⊢
      simpa [PyData.hasDictAll] using n
    exact .cons (h x d e1 n2.1) (dpAll_of h xs ds' e2 n2.2)
theorem dp_of {K : PySem.W.Frag} {ι : Nat → Addr} {G : Hz} {H : Hp} (R : Rel K ι G H) : ∀ (k : Nat) (v : V) (d : PyData), rdD k G v = some d → d.hasDict = false → Dp K H (mv ι v) d := by
  intro k
  induction k with
  | zero =>
    intro v d e n
    cases v with
    | non => cases e; exact .non
    | bl b => cases e; exact .bl b
    | int b => cases e; exact .int b
    | str b => cases e; exact .str b
    | _ => cases e
  | succ k ih =>
    intro v d e n
    cases v with
    | non => cases e; exact .non
    | bl b => cases e; exact .bl b
    | int b => cases e; exact .int b
    | str b => cases e; exact .str b
    | ref a =>
      unfold rdD at e
      split at e
      · rename_i q
        obtain ⟨ds, e1, e⟩ := bnd e
        cases e
        exact .lst (R.lstS q) (dpAll_of ih _ _ e1 n)
      · rename_i q
        obtain ⟨ds, e1, e⟩ := bnd e
        cases e
        exact .tup (R.tupS q) (dpAll_of ih _ _ e1 (by simpa [PyData.hasDict] using n))
      · obtain ⟨ds, e1, e⟩ := bnd e
        cases e
        simp [PyData.hasDict] at n
      · cases e
    | _ => cases e
theorem noDict_of_shaped {d : PyData} (h : SeqAt.shaped d = true) : d.hasDict = false := by
  have := SeqAt.canLay_of_shaped h
  exact PyData.hasDict_of_canLay d this
theorem scal_mv {ι : Nat → Addr} {x y : V} (h : scal x y = true) : mv ι x = x ∧ mv ι y = y := by
  cases x <;> cases y <;> first | exact ⟨rfl, rfl⟩ | cases h
theorem z_eq (hu : X.A.units + 64 < cLine) : OpZ X (compareOp .Eq) cEq := by
  refine ⟨_, op_eq.or (op_eqD hu), fun ι G H x y v G' Q R kx ky e p => ?_⟩
  unfold cEq at e
  split at e
  · rename_i z
    cases e
    obtain ⟨q1, q2⟩ := scal_mv (ι := ι) z
    rw [q1, q2]
    exact .inl ⟨z, p.same R rfl⟩
  · split at e
    · rename_i d d' e1 e2
      split at e
      · rename_i z
        cases e
        exact .inr ⟨d, d', dp_of R _ _ _ e1 (noDict_of_shaped z.1), dp_of R _ _ _ e2 (noDict_of_shaped z.2), z.1, z.2, p.same R rfl⟩
      · cases e
    · cases e
theorem z_ne (hu : X.A.units + 64 < cLine) : OpZ X (compareOp .NotEq) cNe := by
  refine ⟨_, op_ne.or (op_neD hu), fun ι G H x y v G' Q R kx ky e p => ?_⟩
  unfold cNe at e
  split at e
  · rename_i z
    cases e
    obtain ⟨q1, q2⟩ := scal_mv (ι := ι) z
    rw [q1, q2]
    exact .inl ⟨z, p.same R rfl⟩
  · split at e
    · rename_i d d' e1 e2
      split at e
      · rename_i z
        cases e
        exact .inr ⟨d, d', dp_of R _ _ _ e1 (noDict_of_shaped z.1), dp_of R _ _ _ e2 (noDict_of_shaped z.2), z.1, z.2, p.same R rfl⟩
      · cases e
    · cases e

/-! is None -/
theorem se_isN {a : Expr} {m : ME} {j pos' pos} (h : SE X a m) : SE X (.Compare a [.Is] [.Constant .none j pos'] pos) (eUn cIsN m) := by
  refine PE.imp (pe_cmp (pc_isN h) rfl) fun σ H Q h => ?_
  obtain ⟨ι, σ0, G, v, G', rfl, so, R, e, p⟩ := h
  obtain ⟨⟨x, G1⟩, e1, e⟩ := bnd e
  cases e
  refine liftE.into so R e1 fun ι1 H1 a1 R1 l1 k1 => ?_
  have := p ι1 H1 a1 R1 l1 rfl
  rw [show decide (mv ι1 x = .non) = decide (x = .non) from by cases x <;> rfl]
  exact this
theorem se_notN {a : Expr} {m : ME} {j pos' pos} (h : SE X a m) : SE X (.Compare a [.IsNot] [.Constant .none j pos'] pos) (eUn cNotN m) := by
  refine PE.imp (pe_cmp (pc_notN h) rfl) fun σ H Q h => ?_
  obtain ⟨ι, σ0, G, v, G', rfl, so, R, e, p⟩ := h
  obtain ⟨⟨x, G1⟩, e1, e⟩ := bnd e
  cases e
  refine liftE.into so R e1 fun ι1 H1 a1 R1 l1 k1 => ?_
  have := p ι1 H1 a1 R1 l1 rfl
  rw [show decide (mv ι1 x = .non) = decide (x = .non) from by cases x <;> rfl]
  exact this
/-! tests of a value that is no Call, Name: comparisons with None -/
theorem st_of_cmp {a b : Expr} {op : CmpOp} {pos : Pos} {m : ME} {t : TE} (h : PC X op a b t) (hi : ∀ σ H Q, liftE X.K m σ H Q → t σ H Q) (hm : behindInMarks op b = false) : STt X (.Compare a [op] [b] pos) (tE m) := by
  refine PT.imp (pt_cmp h hm) fun σ H Q h => ?_
  obtain ⟨ι, σ0, G, v, G', rfl, so, R, e, p⟩ := h
  exact hi _ _ _ (liftE.into so R (te_split e) fun ι' H' a' R' l' _ => ⟨v, rfl, p ι' H' a' R' l'⟩)
theorem st_isN {a : Expr} {m : ME} {j pos' pos} (h : SE X a m) : STt X (.Compare a [.Is] [.Constant .none j pos'] pos) (tE (eUn cIsN m)) := by
  refine st_of_cmp (pc_isN h) (fun σ H Q h => ?_) rfl
  obtain ⟨ι, σ0, G, v, G', rfl, so, R, e, p⟩ := h
  obtain ⟨⟨x, G1⟩, e1, e⟩ := bnd e
  cases e
  refine liftE.into so R e1 fun ι1 H1 a1 R1 l1 k1 => ?_
  have := p ι1 H1 a1 R1 l1 rfl
  rw [show decide (mv ι1 x = .non) = decide (x = .non) from by cases x <;> rfl]
  exact this
theorem st_notN {a : Expr} {m : ME} {j pos' pos} (h : SE X a m) : STt X (.Compare a [.IsNot] [.Constant .none j pos'] pos) (tE (eUn cNotN m)) := by
  refine st_of_cmp (pc_notN h) (fun σ H Q h => ?_) rfl
  obtain ⟨ι, σ0, G, v, G', rfl, so, R, e, p⟩ := h
  obtain ⟨⟨x, G1⟩, e1, e⟩ := bnd e
  cases e
  refine liftE.into so R e1 fun ι1 H1 a1 R1 l1 k1 => ?_
  have := p ι1 H1 a1 R1 l1 rfl
  rw [show decide (mv ι1 x = .non) = decide (x = .non) from by cases x <;> rfl]
  exact this

/-! in, not in -/
theorem flat_mv {ι : Nat → Addr} {x : V} (h : flatV x = true) : mv ι x = x := by
  cases x <;> first | rfl | cases h
theorem flats_mv {ι : Nat → Addr} {xs : List V} (h : xs.all flatV = true) : xs.map (mv ι) = xs := by
  have : ∀ ys : List V, (∀ v, v ∈ ys → flatV v = true) → ys.map (mv ι) = ys := fun ys => by
    induction ys with
    | nil => intro _; rfl
    | cons y ys ih =>
      intro hy
      rw [List.map_cons, flat_mv (hy y (List.mem_cons_self ..)), ih fun v hv => hy v (List.mem_cons_of_mem _ hv)]
  exact this xs (List.all_eq_true.mp h)
theorem valV_mv {ι : Nat → Addr} {kvs : List (Key × V)} {k : Key} : valV (kvs.map fun p => (p.1, mv ι p.2)) k = (valV kvs k).map (mv ι) := by
  induction kvs with
  | nil => rfl
  | cons q r ih =>
    by_cases z : q.1 = k
    · rw [List.map_cons, valV_pos (p := (q.1, mv ι q.2)) z, valV_pos z]
      rfl
    · rw [List.map_cons, valV_neg (p := (q.1, mv ι q.2)) z, valV_neg z, ih]
theorem keyOf_mv {ι : Nat → Addr} {x : V} {k : Key} (h : keyOf x = some k) : mv ι x = kV k := by
  cases x <;> first | (cases h; rfl) | cases h
theorem opR_din (hu : X.A.units + 1 < cLine) : OpR X (compareOp .In) (fun x y H Q => ∃ a o, y = .ref a ∧ DGet H a x o ∧ Q (.bl o.isSome) H) := by
  intro pins s σ H x y v u Q I rx ry h
  obtain ⟨a, o, rfl, g, q⟩ := h
  cases ry
  exact d_in hu I g rx fun s' I' => ⟨.bl o.isSome, H, I', rfl, q⟩
theorem opR_dnotin (hu : X.A.units + 1 < cLine) : OpR X (compareOp .NotIn) (fun x y H Q => ∃ a o, y = .ref a ∧ DGet H a x o ∧ Q (.bl (!o.isSome)) H) := by
  intro pins s σ H x y v u Q I rx ry h
  obtain ⟨a, o, rfl, g, q⟩ := h
  cases ry
  exact d_notIn hu I g rx fun s' I' => ⟨.bl (!o.isSome), H, I', rfl, q⟩
theorem z_in (hu : X.A.units + 1 < cLine) : OpZ X (compareOp .In) cIn := by
  refine ⟨_, op_in_seq.or (opR_din hu), fun ι G H x y v G' Q R kx ky e p => ?_⟩
  unfold cIn cInG at e
  split at e
  · split at e
    · rename_i q
      split at e
      · rename_i z
        cases e
        refine .inl ⟨_, _, rfl, .inl (R.lstS q), by rw [flat_mv z.1]; exact z.1, by rw [flats_mv z.2]; exact z.2, ?_⟩
        rw [flat_mv z.1, flats_mv z.2]
        simpa [mv] using p.same R rfl
      · cases e
    · rename_i q
      split at e
      · rename_i z
        cases e
        refine .inl ⟨_, _, rfl, .inr (R.tupS q), by rw [flat_mv z.1]; exact z.1, by rw [flats_mv z.2]; exact z.2, ?_⟩
        rw [flat_mv z.1, flats_mv z.2]
        simpa [mv] using p.same R rfl
      · cases e
    · rename_i q
      split at e
      · rename_i k hk
        cases e
        refine .inr ⟨_, _, rfl, by rw [keyOf_mv hk]; exact .k (R.dkM q), ?_⟩
        rw [valV_mv, Option.isSome_map]
        simpa [mv] using p.same R rfl
      · cases e
    · cases e
  · cases e
theorem z_notIn (hu : X.A.units + 1 < cLine) : OpZ X (compareOp .NotIn) cNotIn := by
  refine ⟨_, op_notIn_seq.or (opR_dnotin hu), fun ι G H x y v G' Q R kx ky e p => ?_⟩
  unfold cNotIn cInG at e
  split at e
  · split at e
    · rename_i q
      split at e
      · rename_i z
        cases e
        refine .inl ⟨_, _, rfl, .inl (R.lstS q), by rw [flat_mv z.1]; exact z.1, by rw [flats_mv z.2]; exact z.2, ?_⟩
        rw [flat_mv z.1, flats_mv z.2]
        simpa [mv] using p.same R rfl
      · cases e
    · rename_i q
      split at e
      · rename_i z
        cases e
        refine .inl ⟨_, _, rfl, .inr (R.tupS q), by rw [flat_mv z.1]; exact z.1, by rw [flats_mv z.2]; exact z.2, ?_⟩
        rw [flat_mv z.1, flats_mv z.2]
        simpa [mv] using p.same R rfl
      · cases e
    · rename_i q
      split at e
      · rename_i k hk
        cases e
        refine .inr ⟨_, _, rfl, by rw [keyOf_mv hk]; exact .k (R.dkM q), ?_⟩
        rw [valV_mv, Option.isSome_map]
        simpa [mv] using p.same R rfl
      · cases e
    · cases e
  · cases e
/-! subscripts -/
theorem atI_map {ι : Nat → Addr} {xs : List V} {i : Int} {v : V} (h : atI xs i = some v) : atI (xs.map (mv ι)) i = some (mv ι v) := by
  unfold atI at h ⊢
  rw [List.length_map]
  obtain ⟨j, e1, e2⟩ := bnd h
  rw [e1]
  show (xs.map (mv ι))[j]? = _
  rw [List.getElem?_map, e2]
  rfl
theorem atI_ok {xs : List V} {i : Int} {v : V} {n : Nat} (k : xs.all (okV n) = true) (h : atI xs i = some v) : okV n v = true := by
  unfold atI at h
  obtain ⟨j, e1, e2⟩ := bnd h
  exact all_mem k (List.mem_of_getElem? e2)
theorem z_ix : IxZ X xIx := by
  refine ⟨_, ix_seq, fun ι G H x y v G' Q R kx ky e p => ?_⟩
  unfold xIx at e
  split at e
  · split at e
    · rename_i q
      obtain ⟨u, e1, e⟩ := bnd e
      cases e
      exact .inl ⟨_, _, _, _, rfl, rfl, R.lstS q, atI_map e1, p.same R (atI_ok (R.okl q) e1)⟩
    · rename_i q
      obtain ⟨u, e1, e⟩ := bnd e
      cases e
      exact .inl ⟨_, _, _, _, rfl, rfl, R.fzS q, atI_map e1, p.same R (atI_ok (R.ok _ _ q) e1)⟩
    · rename_i q
      obtain ⟨u, e1, e⟩ := bnd e
      cases e
      exact .inr (.inl ⟨_, _, _, _, rfl, rfl, R.tupS q, atI_map e1, p.same R (atI_ok (R.okt q) e1)⟩)
    · cases e
  · split at e
    · rename_i z
      obtain ⟨u, e1, e⟩ := bnd e
      cases e
      exact .inr (.inr ⟨_, _, _, rfl, rfl, z, e1, p.same R rfl⟩)
    · cases e
  · cases e
theorem cutV_map {ι : Nat → Addr} {xs : List V} {lo hi : Option Int} : cutV (xs.map (mv ι)) lo hi = (cutV xs lo hi).map (mv ι) := by
  unfold cutV
  rw [List.length_map, List.map_take, List.map_drop]
theorem z_slice : SlZ X xCut := by
  refine ⟨_, sl_list, fun ι G H x lo hi v G' Q R kx e p => ?_⟩
  unfold xCut at e
  split at e
  · split at e
    · rename_i q
      refine ⟨_, _, rfl, R.lstS q, ?_⟩
      rw [cutV_map]
      exact Pz.alloc (o := .lst _) R (all_sub (R.okl q) fun v hv => List.mem_of_mem_drop (List.mem_of_mem_take hv)) rfl e p
    · cases e
  · cases e
/-! built-ins -/
theorem z_len : CallZ X (.builtin "len") fLen := by
  refine ⟨_, call_len_seq.or (call_len_str.or call_lenD), fun ι G H vs v G' Q R kx e p => ?_⟩
  unfold fLen at e
  split at e
  · split at e
    · rename_i q
      cases e
      exact .inl ⟨_, _, rfl, .inl (R.lstS q), by rw [List.length_map]; exact p.same R rfl⟩
    · rename_i q
      cases e
      exact .inl ⟨_, _, rfl, .inl (R.fzS q), by rw [List.length_map]; exact p.same R rfl⟩
    · rename_i q
      cases e
      exact .inl ⟨_, _, rfl, .inr (R.tupS q), by rw [List.length_map]; exact p.same R rfl⟩
    · rename_i q
      cases e
      exact .inr (.inr ⟨_, _, rfl, R.dkM q, by rw [List.length_map]; exact p.same R rfl⟩)
    · cases e
  · split at e
    · rename_i z
      cases e
      exact .inr (.inl ⟨_, rfl, z, p.same R rfl⟩)
    · cases e
  · cases e
theorem ints_of {ι : Nat → Addr} : ∀ {xs : List V} {ns : List Int}, ints? xs = some ns → xs.map (mv ι) = ns.map V.int
  | [], _, e => by cases e; rfl
  | x :: xs, ns, e => by
    obtain ⟨i, e1, e⟩ := bnd e
    obtain ⟨is, e2, e⟩ := bnd e
    cases e
    cases x <;> first | (cases e1; rw [List.map_cons, List.map_cons, ints_of e2]; rfl) | cases e1
theorem bls_of {ι : Nat → Addr} : ∀ {xs : List V} {ns : List Bool}, bls? xs = some ns → xs.map (mv ι) = ns.map V.bl
  | [], _, e => by cases e; rfl
  | x :: xs, ns, e => by
    obtain ⟨i, e1, e⟩ := bnd e
    obtain ⟨is, e2, e⟩ := bnd e
    cases e
    cases x <;> first | (cases e1; rw [List.map_cons, List.map_cons, bls_of e2]; rfl) | cases e1
theorem maxI_mem : ∀ (ns : List Int) (m : Int), maxI m ns ∈ m :: ns
  | [], m => List.mem_cons_self ..
  | x :: xs, m => by
    unfold maxI
    have := maxI_mem xs (if x > m then x else m)
    rcases List.mem_cons.mp this with h | h
    · rw [h]
      split
      · exact List.mem_cons_of_mem _ (List.mem_cons_self ..)
      · exact List.mem_cons_self ..
    · exact List.mem_cons_of_mem _ (List.mem_cons_of_mem _ h)
theorem maxI_ge : ∀ (ns : List Int) (m : Int), m ≤ maxI m ns ∧ ∀ y, y ∈ ns → y ≤ maxI m ns
  | [], m => ⟨Int.le_refl _, fun _ h => nomatch h⟩
  | x :: xs, m => by
    unfold maxI
    obtain ⟨h1, h2⟩ := maxI_ge xs (if x > m then x else m)
    generalize maxI (if x > m then x else m) xs = z at h1 h2 ⊢
    refine ⟨?_, fun y hy => ?_⟩
    · split at h1 <;> omega
    · rcases List.mem_cons.mp hy with rfl | hy
      · split at h1 <;> omega
      · exact h2 y hy
theorem minI_mem : ∀ (ns : List Int) (m : Int), minI m ns ∈ m :: ns
  | [], m => List.mem_cons_self ..
  | x :: xs, m => by
    unfold minI
    have := minI_mem xs (if x < m then x else m)
    rcases List.mem_cons.mp this with h | h
    · rw [h]
      split
      · exact List.mem_cons_of_mem _ (List.mem_cons_self ..)
      · exact List.mem_cons_self ..
    · exact List.mem_cons_of_mem _ (List.mem_cons_of_mem _ h)
theorem minI_le : ∀ (ns : List Int) (m : Int), minI m ns ≤ m ∧ ∀ y, y ∈ ns → minI m ns ≤ y
  | [], m => ⟨Int.le_refl _, fun _ h => nomatch h⟩
  | x :: xs, m => by
    unfold minI
    obtain ⟨h1, h2⟩ := minI_le xs (if x < m then x else m)
    generalize minI (if x < m then x else m) xs = z at h1 h2 ⊢
    refine ⟨?_, fun y hy => ?_⟩
    · split at h1 <;> omega
    · rcases List.mem_cons.mp hy with rfl | hy
      · split at h1 <;> omega
      · exact h2 y hy
theorem z_max (hc : X.calm = true) : CallZ X (.builtin "max") fMax := by
  refine ⟨_, (call_max2 hc).or (cr_max hc), fun ι G H vs v G' Q R kx e p => ?_⟩
  unfold fMax at e
  split at e
  · cases e
    exact .inl ⟨_, _, rfl, p.same R rfl⟩
  · split at e
    · rename_i q
      split at e
      · rename_i m ns en
        cases e
        refine .inr ⟨_, m :: ns, rfl, by rw [← ints_of en]; exact R.lstS q, Nat.succ_pos _, fun k hk hg => ?_⟩
        have h1 := hg _ (maxI_mem ns m)
        have h2 : k ≤ maxI m ns := by
          rcases List.mem_cons.mp hk with h | h
          · rw [h]; exact (maxI_ge ns m).1
          · exact (maxI_ge ns m).2 k h
        rw [Int.le_antisymm h2 h1]
        exact p.same R rfl
      · cases e
    · cases e
  · cases e
theorem z_min (hc : X.calm = true) : CallZ X (.builtin "min") fMin := by
  refine ⟨_, (call_min2 hc).or (cr_min hc), fun ι G H vs v G' Q R kx e p => ?_⟩
  unfold fMin at e
  split at e
  · cases e
    exact .inl ⟨_, _, rfl, p.same R rfl⟩
  · split at e
    · rename_i q
      split at e
      · rename_i m ns en
        cases e
        refine .inr ⟨_, m :: ns, rfl, by rw [← ints_of en]; exact R.lstS q, Nat.succ_pos _, fun k hk hg => ?_⟩
        have h1 := hg _ (minI_mem ns m)
        have h2 : minI m ns ≤ k := by
          rcases List.mem_cons.mp hk with h | h
          · rw [h]; exact (minI_le ns m).1
          · exact (minI_le ns m).2 k h
        rw [Int.le_antisymm h1 h2]
        exact p.same R rfl
      · cases e
    · cases e
  · cases e
theorem z_sum (hc : X.calm = true) : CallZ X (.builtin "sum") fSum := by
  refine ⟨_, cr_sum hc, fun ι G H vs v G' Q R kx e p => ?_⟩
  unfold fSum at e
  split at e
  · split at e
    · rename_i q
      obtain ⟨ns, en, e⟩ := bnd e
      cases e
      exact ⟨_, ns, rfl, by rw [← ints_of en]; exact R.lstS q, p.same R rfl⟩
    · cases e
  · cases e
theorem z_all (hc : X.calm = true) : CallZ X (.builtin "all") fAll := by
  refine ⟨_, cr_all hc, fun ι G H vs v G' Q R kx e p => ?_⟩
  unfold fAll at e
  split at e
  · split at e
    · rename_i q
      obtain ⟨ns, en, e⟩ := bnd e
      cases e
      exact ⟨_, ns, rfl, by rw [← bls_of en]; exact R.lstS q, p.same R rfl⟩
    · cases e
  · cases e
theorem z_any (hc : X.calm = true) : CallZ X (.builtin "any") fAny := by
  refine ⟨_, cr_any hc, fun ι G H vs v G' Q R kx e p => ?_⟩
  unfold fAny at e
  split at e
  · split at e
    · rename_i q
      obtain ⟨ns, en, e⟩ := bnd e
      cases e
      exact ⟨_, ns, rfl, by rw [← bls_of en]; exact R.lstS q, p.same R rfl⟩
    · cases e
  · cases e
theorem isort_perm (ns : List Int) : (isort ns).Perm ns := List.mergeSort_perm ..
theorem isort_sorted (ns : List Int) : (isort ns).Pairwise (· ≤ ·) := by
  have := List.pairwise_mergeSort (le := fun a b : Int => decide (a ≤ b)) (fun a b c h1 h2 => by simp at h1 h2 ⊢; omega) (fun a b => by simp; omega) ns
  exact this.imp fun h => of_decide_eq_true h
theorem sorted_unique {a b : List Int} (h : a.Perm b) (ha : a.Pairwise (· ≤ ·)) (hb : b.Pairwise (· ≤ ·)) : a = b :=
  h.eq_of_pairwise (fun _ _ _ _ h1 h2 => Int.le_antisymm h1 h2) ha hb
theorem ints_ok {n : Nat} (ns : List Int) : (ns.map V.int).all (okV n) = true := List.all_eq_true.mpr fun v hv => by
  obtain ⟨i, _, rfl⟩ := List.mem_map.mp hv
  rfl
theorem ints_mv {ι : Nat → Addr} (ns : List Int) : (ns.map V.int).map (mv ι) = ns.map V.int := by
  rw [List.map_map]
  rfl
theorem z_sorted : CallZ X (.builtin "sorted") fSorted := by
  refine ⟨_, cr_sortedI, fun ι G H vs v G' Q R kx e p => ?_⟩
  unfold fSorted at e
  split at e
  · split at e
    · rename_i q
      obtain ⟨ns, en, e⟩ := bnd e
      refine ⟨_, ns, rfl, by rw [← ints_of en]; exact R.lstS q, fun ns' b hp hs hb => ?_⟩
      have z : ns' = isort ns := sorted_unique (hp.trans (isort_perm ns).symm) hs (isort_sorted ns)
      rw [z]
      have := Pz.alloc (o := .lst ((isort ns).map V.int)) R (ints_ok _) rfl e p b hb
      rw [show O.ho ι (.lst ((isort ns).map V.int)) = .lst ((isort ns).map V.int) from congrArg HO.lst (ints_mv _)] at this
      exact this
    · cases e
  · cases e
theorem z_list : CallZ X (.type "list") fList := by
  refine ⟨_, call_list_of, fun ι G H vs v G' Q R kx e p => ?_⟩
  unfold fList at e
  split at e
  · split at e
    · rename_i q
      exact ⟨_, _, rfl, .inl (R.lstS q), Pz.alloc (o := .lst _) R (R.okl q) rfl e p⟩
    · rename_i q
      exact ⟨_, _, rfl, .inr (R.tupS q), Pz.alloc (o := .lst _) R (R.okt q) rfl e p⟩
    · cases e
  · cases e
theorem z_abs : CallZ X (.builtin "abs") fAbs := by
  refine ⟨_, call_abs, fun ι G H vs v G' Q R kx e p => ?_⟩
  unfold fAbs at e
  split at e
  · cases e
    exact ⟨_, rfl, p.same R rfl⟩
  · cases e
theorem z_int : CallZ X (.type "int") fInt := by
  refine ⟨_, call_int1, fun ι G H vs v G' Q R kx e p => ?_⟩
  unfold fInt at e
  split at e
  · cases e
    exact .inl ⟨_, rfl, p.same R rfl⟩
  · cases e
    exact .inr ⟨_, rfl, p.same R rfl⟩
  · cases e
end
end Zl

/-! Zl, part 4: rules for statements, targets, loops, comprehensions. -/
namespace Zl
open PySem PySem.Spec L2
open PyProof.Rows hiding St

def PostN (K : PySem.W.Frag) (ι : Nat → Addr) (n : Nat) (σ1 : L2.St) (G1 : Hz) (Q : L2.St → Hp → Prop) : Prop :=
  ∀ (ι' : Nat → Addr) (H' : Hp), Agr n ι ι' → Rel K ι' G1 H' → n ≤ G1.length → okS G1.length σ1 = true → Q (ms ι' σ1) H'
def PostS (K : PySem.W.Frag) (ι : Nat → Addr) (n : Nat) (D : Ends) : R → Prop
  | .nx σ1 G1 => PostN K ι n σ1 G1 D.nx
  | .bk σ1 G1 => PostN K ι n σ1 G1 D.bk
  | .ct σ1 G1 => PostN K ι n σ1 G1 D.ct
  | .rt v G1 => Pz K ι n v G1 D.rt
def liftS (K : PySem.W.Frag) (m : MS) : TS := fun D σ H => ∃ (ι : Nat → Addr) (σ0 : L2.St) (G : Hz) (r : R),
  σ = ms ι σ0 ∧ okS G.length σ0 = true ∧ Rel K ι G H ∧ m σ0 G = some r ∧ PostS K ι G.length D r
def liftG (K : PySem.W.Frag) (g : MG) : TG := fun v σ H Q => ∃ (ι : Nat → Addr) (v0 : V) (σ0 : L2.St) (G : Hz) (σ1 : L2.St) (G1 : Hz),
  v = mv ι v0 ∧ okV G.length v0 = true ∧ σ = ms ι σ0 ∧ okS G.length σ0 = true ∧ Rel K ι G H ∧ g v0 σ0 G = some (σ1, G1) ∧ PostN K ι G.length σ1 G1 Q
def liftGs (K : PySem.W.Frag) (g : MGs) : TGs := fun vs σ H Q => ∃ (ι : Nat → Addr) (v0 : List V) (σ0 : L2.St) (G : Hz) (σ1 : L2.St) (G1 : Hz),
  vs = v0.map (mv ι) ∧ v0.all (okV G.length) = true ∧ σ = ms ι σ0 ∧ okS G.length σ0 = true ∧ Rel K ι G H ∧ g v0 σ0 G = some (σ1, G1) ∧ PostN K ι G.length σ1 G1 Q
/-- an iterator keeps to a turn of the layer -/
def ItOk (K : PySem.W.Frag) (ι : Nat → Addr) (n : Nat) (it : MIt) (J : It) : Prop :=
  ∀ (ι' : Nat → Addr) (G : Hz) (H : Hp) (i : Nat), Agr n ι ι' → n ≤ G.length → Rel K ι' G H →
    (it i G = some none → J.stop i H) ∧ ∀ x G1, it i G = some (some (x, G1)) → J.go i H ∧ ∀ y H1, J.yld i H y H1 → ∃ ι2, Agr G.length ι' ι2 ∧ Rel K ι2 G1 H1 ∧ y = mv ι2 x ∧ okV G1.length x = true ∧ G.length ≤ G1.length
def liftI (K : PySem.W.Frag) (w : MI) : TI := fun σ H Q => ∃ (ι : Nat → Addr) (σ0 : L2.St) (G : Hz) (it : MIt) (G' : Hz),
  σ = ms ι σ0 ∧ okS G.length σ0 = true ∧ Rel K ι G H ∧ w σ0 G = some (it, G') ∧ ∀ (ι' : Nat → Addr) (H' : Hp), Agr G.length ι ι' → Rel K ι' G' H' → G.length ≤ G'.length → ∀ J, ItOk K ι' G'.length it J → Q J H'
def SS (X : Cx) (st : Stmt) (m : MS) : Prop := PS X st (liftS X.K m)
def SSs (X : Cx) (sts : List Stmt) (m : MS) : Prop := PSs X sts (liftS X.K m)
def SG (X : Cx) (tg : Expr) (g : MG) : Prop := PG X tg (liftG X.K g)
def SGs (X : Cx) (tgs : List Expr) (g : MGs) : Prop := PGs X tgs (liftGs X.K g)
def SI (X : Cx) (tg iter : Expr) (w : MI) : Prop := PI X tg iter (liftI X.K w)

section
variable {X : Cx} {st : Stmt} {rest body : List Stmt} {e tg iter : Expr} {es : List Expr} {pos : Pos}
theorem PS.imp {t t' : TS} (h : PS X st t) (i : ∀ D σ H, t' D σ H → t D σ H) : PS X st t' := ⟨fun pins s σ H D I q => h.run pins s σ H D I (i D σ H q)⟩
theorem PSs.imp {t t' : TS} (h : PSs X rest t) (i : ∀ D σ H, t' D σ H → t D σ H) : PSs X rest t' := ⟨fun pins s σ H D I q => h.run pins s σ H D I (i D σ H q)⟩
theorem PG.imp {t t' : TG} (h : PG X tg t) (i : ∀ v σ H Q, t' v σ H Q → t v σ H Q) : PG X tg t' := ⟨fun pins s σ H v u Q I r q => h.run pins s σ H v u Q I r (i v σ H Q q)⟩
theorem PGs.imp {t t' : TGs} (h : PGs X es t) (i : ∀ v σ H Q, t' v σ H Q → t v σ H Q) : PGs X es t' := ⟨fun pins s σ H v u Q I r q => h.run pins s σ H v u Q I r (i v σ H Q q)⟩
theorem PI.imp {t t' : TI} (h : PI X tg iter t) (i : ∀ σ H Q, t' σ H Q → t σ H Q) : PI X tg iter t' := ⟨fun pins s σ H Q I q => h.run pins s σ H Q I (i σ H Q q)⟩

theorem PostN.from {K : PySem.W.Frag} {ι ι1 : Nat → Addr} {n m : Nat} {σ1 : L2.St} {G1 : Hz} {Q : L2.St → Hp → Prop} (p : PostN K ι n σ1 G1 Q) (a : Agr n ι ι1) (l : n ≤ m) : PostN K ι1 m σ1 G1 Q :=
  fun ι' H' a' R' l' k' => p ι' H' (a.trans a' l) R' (Nat.le_trans l l') k'
theorem Pz.from {K : PySem.W.Frag} {ι ι1 : Nat → Addr} {n m : Nat} {v : V} {G1 : Hz} {Q : VK} (p : Pz K ι n v G1 Q) (a : Agr n ι ι1) (l : n ≤ m) : Pz K ι1 m v G1 Q :=
  fun ι' H' a' R' l' k' => p ι' H' (a.trans a' l) R' (Nat.le_trans l l') k'
theorem PostS.from {K : PySem.W.Frag} {ι ι1 : Nat → Addr} {n m : Nat} {D : Ends} {r : R} (p : PostS K ι n D r) (a : Agr n ι ι1) (l : n ≤ m) : PostS K ι1 m D r := by
  cases r with
  | nx σ G => exact PostN.from p a l
  | bk σ G => exact PostN.from p a l
  | ct σ G => exact PostN.from p a l
  | rt v G => exact Pz.from p a l
theorem liftS.into {K : PySem.W.Frag} {m : MS} {ι : Nat → Addr} {σ0 : L2.St} {G : Hz} {r : R} {H : Hp} {D : Ends} (so : okS G.length σ0 = true) (R : Rel K ι G H) (e : m σ0 G = some r) (p : PostS K ι G.length D r) : liftS K m D (ms ι σ0) H :=
  ⟨ι, σ0, G, r, rfl, so, R, e, p⟩

/-! ### blocks -/
theorem ss_nil : SSs X [] sPass := PSs.imp pss_nil fun D σ H h => by
  obtain ⟨ι, σ0, G, r, rfl, so, R, e, p⟩ := h
  cases e
  exact p ι H .refl R (Nat.le_refl _) so
theorem ss_one {m : MS} (h : SS X st m) : SSs X [st] m := pss_one h
theorem ss_cons {m m' : MS} (h : SS X st m) (h' : SSs X rest m') : SSs X (st :: rest) (sSeq m m') := PSs.imp (pss_cons h h') fun D σ H h => by
  obtain ⟨ι, σ0, G, r, rfl, so, R, e, p⟩ := h
  obtain ⟨r1, e1, e⟩ := bnd e
  refine liftS.into so R e1 ?_
  cases r1 with
  | nx σ1 G1 => exact fun ι1 H1 a1 R1 l1 k1 => liftS.into k1 R1 e (p.from a1 l1)
  | bk σ1 G1 => cases e; exact p
  | ct σ1 G1 => cases e; exact p
  | rt v G1 => cases e; exact p
theorem s_pass : SS X (.Pass pos) sPass := PS.imp ps_pass fun D σ H h => by
  obtain ⟨ι, σ0, G, r, rfl, so, R, e, p⟩ := h
  cases e
  exact p ι H .refl R (Nat.le_refl _) so
theorem s_break : SS X (.Break pos) sBreak := PS.imp ps_break fun D σ H h => by
  obtain ⟨ι, σ0, G, r, rfl, so, R, e, p⟩ := h
  cases e
  exact p ι H .refl R (Nat.le_refl _) so
theorem s_cont : SS X (.Continue pos) sCont := PS.imp ps_continue fun D σ H h => by
  obtain ⟨ι, σ0, G, r, rfl, so, R, e, p⟩ := h
  cases e
  exact p ι H .refl R (Nat.le_refl _) so
theorem s_never : SS X st sNever := PS.imp ps_never fun D σ H h => by
  obtain ⟨ι, σ0, G, r, rfl, so, R, e, p⟩ := h
  cases e
theorem ss_never : SSs X rest sNever := PSs.imp pss_never fun D σ H h => by
  obtain ⟨ι, σ0, G, r, rfl, so, R, e, p⟩ := h
  cases e
theorem s_expr {m : ME} (h : SE X e m) (hs : swapsWith e none pos.line X.env = pure false := by rfl) : SS X (.Expr e pos) (sExpr m) := PS.imp (ps_expr h hs) fun D σ H h => by
  obtain ⟨ι, σ0, G, r, rfl, so, R, e, p⟩ := h
  obtain ⟨⟨x, G1⟩, e1, e⟩ := bnd e
  cases e
  refine liftE.into so R e1 fun ι1 H1 a1 R1 l1 k1 => ?_
  rw [ms_agr a1 so]
  exact p ι1 H1 a1 R1 l1 (okS_mono l1 so)
/-- .. the answer thrown away -/
theorem s_exprD {m : ME} (h : SE X e m) (hs : swapsWith e none pos.line X.env = pure false := by rfl) : SS X (.Expr e pos) (sExpr (eDrop m)) := PS.imp (ps_expr h hs) fun D σ H h => by
  obtain ⟨ι, σ0, G, r, rfl, so, R, e, p⟩ := h
  obtain ⟨⟨x, G1⟩, e1, e⟩ := bnd e
  cases e
  obtain ⟨⟨y, G2⟩, e2, e3⟩ := bnd e1
  dsimp only at e3
  split at e3
  · rename_i kb
    cases e3
    refine liftE.into so R e2 fun ι1 H1 a1 R1 l1 k1 => ?_
    rw [ms_agr a1 so]
    have len : (G2.take G.length).length = G.length := by rw [List.length_take]; exact Nat.min_eq_left (kept_len kb)
    exact p ι1 H1 a1 (R.cut R1 kb) (Nat.le_of_eq len.symm) (by rw [len]; exact so)
  · cases e3
theorem s_doc {x j pos'} : SS X (.Expr (.Constant (.str x) j pos) pos') sPass := PS.imp ps_doc fun D σ H h => by
  obtain ⟨ι, σ0, G, r, rfl, so, R, e, p⟩ := h
  cases e
  exact p ι H .refl R (Nat.le_refl _) so
theorem s_ret {m : ME} (h : SE X e m) : SS X (.Return (some e) pos) (sRet m) := PS.imp (ps_ret h) fun D σ H h => by
  obtain ⟨ι, σ0, G, r, rfl, so, R, e, p⟩ := h
  obtain ⟨⟨x, G1⟩, e1, e⟩ := bnd e
  cases e
  exact liftE.into so R e1 p
theorem s_retN : SS X (.Return none pos) sRetN := PS.imp ps_retN fun D σ H h => by
  obtain ⟨ι, σ0, G, r, rfl, so, R, e, p⟩ := h
  cases e
  exact p ι H .refl R (Nat.le_refl _) rfl
theorem s_if {c : Expr} {a b : List Stmt} {t : MT} {m m' : MS} (hc : STt X c t) (ha : SSs X a m) (hb : SSs X b m') : SS X (.If c a b pos) (sIf t m m') := PS.imp (ps_if hc ha hb) fun D σ H h => by
  obtain ⟨ι, σ0, G, r, rfl, so, R, e, p⟩ := h
  obtain ⟨⟨k, G1⟩, e1, e⟩ := bnd e
  refine ⟨ι, σ0, G, k, G1, rfl, so, R, e1, fun ι1 H1 a1 R1 l1 => ?_⟩
  rw [ms_agr a1 so]
  cases k with
  | true =>
    rw [if_pos rfl] at e ⊢
    exact liftS.into (okS_mono l1 so) R1 e (p.from a1 l1)
  | false =>
    rw [if_neg Bool.false_ne_true] at e ⊢
    exact liftS.into (okS_mono l1 so) R1 e (p.from a1 l1)
/-- slots forgotten behind a block -/
theorem pss_wipe {t : TS} (ds : List Nat) (h : PSs X rest t) : PSs X rest (fun D σ H => t { D with nx := fun σ' H' => D.nx (wipe σ' ds) H', ct := fun σ' H' => D.ct (wipe σ' ds) H' } σ H) := by
  refine ⟨fun pins s σ H D I q => thn (h.run pins s σ H _ I q) fun f s1 z => ?_⟩
  cases f with
  | next =>
    obtain ⟨σ', H', I', q'⟩ := z
    exact ⟨_, H', I'.weak (wipe_length _ _) (fun i v e => (wipe_some e).1), q'⟩
  | cont =>
    obtain ⟨σ', H', I', q'⟩ := z
    exact ⟨_, H', I'.weak (wipe_length _ _) (fun i v e => (wipe_some e).1), q'⟩
  | brk => exact z
  | ret v => exact z
theorem ss_gc {m : MS} {ds : List Nat} (h : SSs X rest m) : SSs X rest (sGc ds m) := PSs.imp (pss_wipe ds h) fun D σ H h => by
  obtain ⟨ι, σ0, G, r, rfl, so, R, e, p⟩ := h
  obtain ⟨r1, e1, e⟩ := bnd e
  refine liftS.into so R e1 ?_
  cases r1 with
  | nx σ1 G1 =>
    dsimp only at e
    split at e
    · rename_i z
      cases e
      have len : (G1.take G.length).length = G.length := by rw [List.length_take]; exact Nat.min_eq_left (kept_len z.2)
      intro ι1 H1 a1 R1 l1 k1
      show D.nx (wipe (ms ι1 σ1) ds) H1
      rw [← ms_wipe]
      exact p ι1 H1 a1 (R.cut R1 z.2) (Nat.le_of_eq len.symm) (by rw [len]; exact z.1)
    · cases e
  | ct σ1 G1 =>
    dsimp only at e
    split at e
    · rename_i z
      cases e
      have len : (G1.take G.length).length = G.length := by rw [List.length_take]; exact Nat.min_eq_left (kept_len z.2)
      intro ι1 H1 a1 R1 l1 k1
      show D.ct (wipe (ms ι1 σ1) ds) H1
      rw [← ms_wipe]
      exact p ι1 H1 a1 (R.cut R1 z.2) (Nat.le_of_eq len.symm) (by rw [len]; exact z.1)
    · cases e
  | bk σ1 G1 => cases e; exact p
  | rt v G1 => cases e; exact p

/-! ### targets, stores -/
theorem g_set {i : Nat} {x : Str} (h : PG X (.Name x pos) (gName i)) : SG X (.Name x pos) (gSet i) := PG.imp h fun v σ H Q h => by
  obtain ⟨ι, v0, σ0, G, σ1, G1, rfl, kv, rfl, so, R, e, p⟩ := h
  cases e
  have := p ι H .refl R (Nat.le_refl _) (okS_set so kv)
  rw [ms_set] at this
  exact this
theorem gs_nil : SGs X [] gsNil := PGs.imp pgs_nil fun v σ H Q h => by
  obtain ⟨ι, v0, σ0, G, σ1, G1, rfl, kv, rfl, so, R, e, p⟩ := h
  unfold gsNil at e
  cases v0 with
  | nil =>
    cases e
    exact ⟨rfl, p ι H .refl R (Nat.le_refl _) so⟩
  | cons _ _ => cases e
theorem gs_cons {g : MG} {r : MGs} (h1 : SG X e g) (h2 : SGs X es r) (hs : (assignEach (e :: es) X.env).map (·.2) = assign e X.env :: (assignEach es X.env).map (·.2) := by rfl) : SGs X (e :: es) (gsCons g r) := PGs.imp (pgs_cons h1 h2 hs) fun v σ H Q h => by
  obtain ⟨ι, v0, σ0, G, σ1, G1, rfl, kv, rfl, so, R, e, p⟩ := h
  unfold gsCons at e
  cases v0 with
  | nil => cases e
  | cons u us =>
    obtain ⟨⟨σ2, G2⟩, e1, e⟩ := bnd e
    rw [List.all_cons, Bool.and_eq_true] at kv
    refine ⟨_, _, rfl, ι, u, σ0, G, σ2, G2, rfl, kv.1, rfl, so, R, e1, fun ι2 H2 a2 R2 l2 k2 => ?_⟩
    rw [mvs_agr a2 kv.2]
    exact ⟨ι2, us, σ2, G2, σ1, G1, rfl, okVs_mono l2 kv.2, rfl, k2, R2, e, p.from a2 l2⟩
/-- a, b = a tuple or a list -/
theorem g_un {n : Nat} {k : Nat} {r : MGs} (hc : X.calm = true) (h : SGs X es r) (hn : (assignEach es X.env).length = n := by rfl) (hst : (assignEach es X.env).findIdx? (·.1) = none := by rfl) : SG X (.Tuple es k pos) (gUn n r) := by
  refine ⟨fun pins s σ H v u Q I rv hw => ?_⟩
  obtain ⟨ι, v0, σ0, G, σ1, G1, rfl, kv, rfl, so, R, e, p⟩ := hw
  unfold gUn at e
  split at e
  · split at e
    · rename_i q
      split at e
      · rename_i z
        exact (pg_tup hc h hn hst).run pins s _ H _ u Q I rv ⟨_, _, rfl, R.tupS q, by rw [List.length_map]; exact z, ι, _, σ0, G, σ1, G1, rfl, R.okt q, rfl, so, R, e, p⟩
      · cases e
    · rename_i q
      split at e
      · rename_i z
        exact (pg_lst hc h hn hst).run pins s _ H _ u Q I rv ⟨_, _, rfl, R.lstS q, by rw [List.length_map]; exact z, ι, _, σ0, G, σ1, G1, rfl, R.okl q, rfl, so, R, e, p⟩
      · cases e
    · cases e
  · cases e
def PutZ (X : Cx) (f : V → V → V → Hz → Option Hz) : Prop := ∃ r, PSet X r ∧ ∀ (ι : Nat → Addr) (G : Hz) (H : Hp) (o i v : V) (G' : Hz) (Q : Hp → Prop), Rel X.K ι G H → okV G.length o = true → okV G.length i = true → okV G.length v = true →
  f o i v G = some G' → (∀ (ι' : Nat → Addr) (H' : Hp), Agr G.length ι ι' → Rel X.K ι' G' H' → G.length ≤ G'.length → Q H') → r (mv ι o) (mv ι i) (mv ι v) H Q
theorem g_put {o i : Expr} {mo mi : ME} {f : V → V → V → Hz → Option Hz} (hs : PutZ X f) (ho : SE X o mo) (hi : SE X i mi)
    (ha : ∀ v, assign (.Subscript o i pos) X.env v = (do
      let ov ← holding [v] (eval o X.env)
      let iv ← holding [v, ov] (eval i X.env)
      standAt pos
      holding [v, ov, iv] (setItem ov iv v)
      release [v, ov, iv] []) := by intro _; rfl) : SG X (.Subscript o i pos) (gPut f mo mi) := by
  obtain ⟨r, hr, hf⟩ := hs
  refine PG.imp (pg_sub ho hi hr ha) fun v σ H Q h => ?_
  obtain ⟨ι, v0, σ0, G, σ1, G1, rfl, kv, rfl, so, R, e, p⟩ := h
  obtain ⟨⟨x, Ga⟩, e1, e⟩ := bnd e
  obtain ⟨⟨y, Gb⟩, e2, e⟩ := bnd e
  obtain ⟨Gc, e3, e⟩ := bnd e
  cases e
  refine liftE.into so R e1 fun ι1 H1 a1 R1 l1 k1 => ?_
  rw [ms_agr a1 so]
  refine liftE.into (okS_mono l1 so) R1 e2 fun ι2 H2 a2 R2 l2 k2 => ?_
  rw [mv_agr a2 k1, mv_agr (a1.trans a2 l1) kv, ms_agr a2 (okS_mono l1 so)]
  refine hf ι2 Gb H2 x y v0 _ _ R2 (okV_mono l2 k1) k2 (okV_mono (Nat.le_trans l1 l2) kv) e3 fun ι3 H3 a3 R3 l3 => ?_
  have so2 := okS_mono (Nat.le_trans l1 l2) so
  rw [ms_agr a3 so2]
  exact p ι3 H3 ((a1.trans a2 l1).trans a3 (Nat.le_trans l1 l2)) R3 (Nat.le_trans (Nat.le_trans l1 l2) l3) (okS_mono l3 so2)
theorem s_asg {m : ME} {g : MG} (he : SE X e m) (hg : SG X tg g) (hs : swapsWithSole [tg] e pos.line X.env = pure false := by rfl) (hw : swappedStores [tg] e X.env = pure none := by rfl)
    (h1 : (assignEach [tg] X.env).map (·.2) = [assign tg X.env] := by rfl) : SS X (.Assign [tg] e pos) (sAsg m g) := PS.imp (ps_asg he hg hs hw h1) fun D σ H h => by
  obtain ⟨ι, σ0, G, r, rfl, so, R, e, p⟩ := h
  obtain ⟨⟨x, G1⟩, e1, e⟩ := bnd e
  obtain ⟨⟨σ2, G2⟩, e2, e⟩ := bnd e
  cases e
  refine liftE.into so R e1 fun ι1 H1 a1 R1 l1 k1 => ?_
  rw [ms_agr a1 so]
  exact ⟨ι1, x, σ0, G1, σ2, G2, rfl, k1, rfl, okS_mono l1 so, R1, e2, PostN.from p a1 l1⟩
theorem s_set {i : Nat} {x : Str} {m : ME} {pos' : Pos} (hN : X.N.Nodup) (hi : X.N[i]? = some x) (hx : Loc X.env.scope x) (he : SE X e m) (hs : swapsWith e (some (.Name x pos')) pos.line X.env = pure false := by rfl) (hf : X.fn x = true ∨ X.env.scope.names.lookup x = some .local := by first | exact .inl rfl | exact .inr rfl | assumption) :
    SS X (.Assign [.Name x pos'] e pos) (sAsg m (gSet i)) := PS.imp (ps_set hN hi hx he hs hf) fun D σ H h => by
  obtain ⟨ι, σ0, G, r, rfl, so, R, e, p⟩ := h
  obtain ⟨⟨x, G1⟩, e1, e⟩ := bnd e
  cases e
  refine liftE.into so R e1 fun ι1 H1 a1 R1 l1 k1 => ?_
  have := p ι1 H1 a1 R1 l1 (okS_set (okS_mono l1 so) k1)
  rw [ms_set] at this
  rw [ms_agr a1 so]
  exact this
/-- the layer's tPar and tPar3 in one -/
theorem s_par2 {i j : Nat} {x y : Str} {a b : Expr} {ma : MA} {px py pt : Pos} {kt k2 pt2} (hc : X.calm = true) (hN : X.N.Nodup) (hi : X.N[i]? = some x) (hj : X.N[j]? = some y) (hij : i ≠ j)
    (hx : X.env.scope.names.lookup x = some .local) (hy : X.env.scope.names.lookup y = some .local) (ha : SA X [a, b] ma)
    (hw : swappedStores [.Tuple [.Name x px, .Name y py] kt pt] (.Tuple [a, b] k2 pt2) X.env = pure (some [x, y]))
    (hs : swapsWithSole [.Tuple [.Name x px, .Name y py] kt pt] (.Tuple [a, b] k2 pt2) pos.line X.env = pure false := by rfl) :
    SS X (.Assign [.Tuple [.Name x px, .Name y py] kt pt] (.Tuple [a, b] k2 pt2) pos) (sPar [i, j] ma) := PS.imp (ps_par hc hN hi hj hij hx hy ha hw hs) fun D σ H h => by
  obtain ⟨ι, σ0, G, r, rfl, so, R, e, p⟩ := h
  obtain ⟨⟨xs, G1⟩, e1, e⟩ := bnd e
  dsimp only at e
  split at e
  · rename_i z
    cases e
    refine ⟨ι, σ0, G, xs, G1, rfl, so, R, e1, fun ι1 H1 a1 R1 l1 k1 => ?_⟩
    obtain ⟨u, w, rfl⟩ : ∃ u w, xs = [u, w] := match xs, z with | [u, w], _ => ⟨u, w, rfl⟩
    simp only [List.all_cons, List.all_nil, Bool.and_true, Bool.and_eq_true] at k1
    refine ⟨_, _, rfl, ?_⟩
    have := p ι1 H1 a1 R1 l1 (okS_set (okS_set (okS_mono l1 so) k1.1) k1.2)
    show D.nx (((ms ι σ0).set i (some (mv ι1 u))).set j (some (mv ι1 w))) H1
    rw [ms_agr a1 so, ← ms_set, ← ms_set]
    exact this
  · cases e
theorem s_par3 {i j l : Nat} {x y z : Str} {a b c : Expr} {ma : MA} {px py pz pt : Pos} {kt k2 pt2} (hc : X.calm = true) (hN : X.N.Nodup) (hi : X.N[i]? = some x) (hj : X.N[j]? = some y) (hl : X.N[l]? = some z) (hij : i ≠ j) (hil : i ≠ l) (hjl : j ≠ l)
    (hx : X.env.scope.names.lookup x = some .local) (hy : X.env.scope.names.lookup y = some .local) (hz : X.env.scope.names.lookup z = some .local) (ha : SA X [a, b, c] ma)
    (hw : swappedStores [.Tuple [.Name x px, .Name y py, .Name z pz] kt pt] (.Tuple [a, b, c] k2 pt2) X.env = pure (some [x, y, z]))
    (hs : swapsWithSole [.Tuple [.Name x px, .Name y py, .Name z pz] kt pt] (.Tuple [a, b, c] k2 pt2) pos.line X.env = pure false := by rfl) :
    SS X (.Assign [.Tuple [.Name x px, .Name y py, .Name z pz] kt pt] (.Tuple [a, b, c] k2 pt2) pos) (sPar [i, j, l] ma) := PS.imp (ps_par3 hc hN hi hj hl hij hil hjl hx hy hz ha hw hs) fun D σ H h => by
  obtain ⟨ι, σ0, G, r, rfl, so, R, e, p⟩ := h
  obtain ⟨⟨xs, G1⟩, e1, e⟩ := bnd e
  dsimp only at e
  split at e
  · rename_i zz
    cases e
    refine ⟨ι, σ0, G, xs, G1, rfl, so, R, e1, fun ι1 H1 a1 R1 l1 k1 => ?_⟩
    obtain ⟨u, w, t, rfl⟩ : ∃ u w t, xs = [u, w, t] := match xs, zz with | [u, w, t], _ => ⟨u, w, t, rfl⟩
    simp only [List.all_cons, List.all_nil, Bool.and_true, Bool.and_eq_true] at k1
    refine ⟨_, _, _, rfl, ?_⟩
    have := p ι1 H1 a1 R1 l1 (okS_set (okS_set (okS_set (okS_mono l1 so) k1.1) k1.2.1) k1.2.2)
    show D.nx ((((ms ι σ0).set i (some (mv ι1 u))).set j (some (mv ι1 w))).set l (some (mv ι1 t))) H1
    rw [ms_agr a1 so, ← ms_set, ← ms_set, ← ms_set]
    exact this
  · cases e

/-! ### for, while -/
theorem PSs.ends {t : TS} {m : MS} (h : SSs X rest m) : PSs X rest (liftS X.K m) := h
theorem s_for {n : Nat} {w : MI} {g : MG} {b : MS} (hp : PassesOwn (model X.prog X.w) X.A X.env X.xe) (hc : X.calm = true) (hi : SI X tg iter w) (hg : SG X tg g) (hb : SSs X body b)
    (hs : ∀ x, foldedSetIterable iter X.env x = pure x := by intro _; rfl) : SS X (.For tg iter body [] pos) (sFor n w g b) := PS.imp (ps_for hp hc hi hg hb hs) fun D σ H h => by
  obtain ⟨ι, σ0, G, r, rfl, so, R, e, p⟩ := h
  obtain ⟨⟨it, G1⟩, e1, e⟩ := bnd e
  refine ⟨ι, σ0, G, it, G1, rfl, so, R, e1, fun ι1 H1 a1 R1 l1 J hJ => ?_⟩
  refine ⟨fun i f σ H => ∃ (ι' : Nat → Addr) (σ' : L2.St) (G' : Hz) (r : Zl.R), σ = ms ι' σ' ∧ okS G'.length σ' = true ∧ Rel X.K ι' G' H ∧ Agr G1.length ι1 ι' ∧ G1.length ≤ G'.length ∧ loopF it g b f i σ' G' = some r ∧ PostS X.K ι G.length D r, ?_, ?_⟩
  · exact ⟨n, ι1, σ0, G1, r, ms_agr a1 so, okS_mono l1 so, R1, .refl, Nat.le_refl _, e, p⟩
  · rintro i f σ H ⟨ι', σ', G', r, rfl, so', R', a', l', e', p'⟩
    cases f with
    | zero => cases e'
    | succ f =>
      obtain ⟨hstop, hgo⟩ := hJ ι' G' H i a' l' R'
      have aa : Agr G.length ι ι' := a1.trans a' l1
      have ll : G.length ≤ G'.length := Nat.le_trans l1 l'
      unfold loopF at e'
      cases q : it i G' with
      | none => rw [q] at e'; cases e'
      | some o =>
        rw [q] at e'
        cases o with
        | none =>
          cases e'
          exact .inl ⟨hstop q, p' ι' H aa R' ll so'⟩
        | some xg =>
          obtain ⟨x, G2⟩ := xg
          obtain ⟨go, hy⟩ := hgo x G2 q
          obtain ⟨⟨σ3, G3⟩, e2, e'⟩ := bnd e'
          obtain ⟨r4, e4, e'⟩ := bnd e'
          refine .inr ⟨go, _, fun σ' H' z => ⟨f, Nat.lt_succ_self f, z⟩, fun y H2 yy => ?_⟩
          obtain ⟨ι2, a2, R2, rfl, k2, l2⟩ := hy y H2 yy
          rw [ms_agr a2 so']
          refine ⟨ι2, x, σ', G2, σ3, G3, rfl, k2, rfl, okS_mono l2 so', R2, e2, fun ι3 H3 a3 R3 l3 k3 => ?_⟩
          have a13 : Agr G'.length ι' ι3 := a2.trans a3 l2
          have l13 : G'.length ≤ G3.length := Nat.le_trans l2 l3
          refine liftS.into k3 R3 e4 ?_
          cases r4 with
          | nx σ4 G4 => exact fun ι4 H4 a4 R4 l4 k4 => ⟨ι4, σ4, G4, r, rfl, k4, R4, a'.trans (a13.trans a4 l13) l', Nat.le_trans l' (Nat.le_trans l13 l4), e', p'⟩
          | ct σ4 G4 => exact fun ι4 H4 a4 R4 l4 k4 => ⟨ι4, σ4, G4, r, rfl, k4, R4, a'.trans (a13.trans a4 l13) l', Nat.le_trans l' (Nat.le_trans l13 l4), e', p'⟩
          | bk σ4 G4 =>
            cases e'
            exact PostN.from p' (aa.trans a13 ll) (Nat.le_trans ll l13)
          | rt v G4 =>
            cases e'
            exact Pz.from p' (aa.trans a13 ll) (Nat.le_trans ll l13)
theorem s_while {n : Nat} {c : Expr} {t : MT} {b : MS} (hp : PassesOwn (model X.prog X.w) X.A X.env X.xe) (hc : STt X c t) (hb : SSs X body b) : SS X (.While c body [] pos) (sWhile n t b) := PS.imp (ps_while hp hc hb) fun D σ H h => by
  obtain ⟨ι, σ0, G, r, rfl, so, R, e, p⟩ := h
  refine ⟨fun f σ H => ∃ (ι' : Nat → Addr) (σ' : L2.St) (G' : Hz) (r : Zl.R), σ = ms ι' σ' ∧ okS G'.length σ' = true ∧ Rel X.K ι' G' H ∧ Agr G.length ι ι' ∧ G.length ≤ G'.length ∧ loopW t b f σ' G' = some r ∧ PostS X.K ι G.length D r, ?_, ?_⟩
  · exact ⟨n, ι, σ0, G, r, rfl, so, R, .refl, Nat.le_refl _, e, p⟩
  · rintro f σ H ⟨ι', σ', G', r, rfl, so', R', a', l', e', p'⟩
    cases f with
    | zero => cases e'
    | succ f =>
      unfold loopW at e'
      obtain ⟨⟨k, G1⟩, e1, e'⟩ := bnd e'
      refine ⟨ι', σ', G', k, G1, rfl, so', R', e1, fun ι1 H1 a1 R1 l1 => ?_⟩
      rw [ms_agr a1 so']
      have a11 := a'.trans a1 l'
      have l11 := Nat.le_trans l' l1
      cases k with
      | false =>
        dsimp only at e' ⊢
        rw [if_neg Bool.false_ne_true] at e' ⊢
        cases e'
        exact p' ι1 H1 a11 R1 l11 (okS_mono l1 so')
      | true =>
        dsimp only at e' ⊢
        rw [if_pos rfl] at e' ⊢
        obtain ⟨r4, e4, e'⟩ := bnd e'
        refine ⟨_, fun σ' H' z => ⟨f, Nat.lt_succ_self f, z⟩, liftS.into (okS_mono l1 so') R1 e4 ?_⟩
        cases r4 with
        | nx σ4 G4 => exact fun ι4 H4 a4 R4 l4 k4 => ⟨ι4, σ4, G4, r, rfl, k4, R4, a11.trans a4 l11, Nat.le_trans l11 l4, e', p'⟩
        | ct σ4 G4 => exact fun ι4 H4 a4 R4 l4 k4 => ⟨ι4, σ4, G4, r, rfl, k4, R4, a11.trans a4 l11, Nat.le_trans l11 l4, e', p'⟩
        | bk σ4 G4 =>
          cases e'
          exact PostN.from p' a11 l11
        | rt v G4 =>
          cases e'
          exact Pz.from p' a11 l11

/-! ### what a loop walks -/
theorem itL_ok {K : PySem.W.Frag} {ι : Nat → Addr} {n a : Nat} (ha : a < n) : ItOk K ι n (itL a) (Itl K (ι a)) := by
  intro ι' G H i ag l R
  have e0 : ι a = ι' a := ag a ha
  have sq : ∀ xs, (G[a]? = some (.lst xs) ∨ G[a]? = some (.fz xs)) → SqL K H (ι a) (xs.map (mv ι')) := fun xs h => by
    rw [e0]
    rcases h with h | h
    · exact R.lstS h
    · exact R.fzS h
  have main : ∀ xs, (G[a]? = some (.lst xs) ∨ G[a]? = some (.fz xs)) → itL a i G = some (xs[i]?.map fun x => (x, G)) → xs.all (okV G.length) = true → (itL a i G = some none → (Itl K (ι a)).stop i H) ∧
      ∀ x G1, itL a i G = some (some (x, G1)) → (Itl K (ι a)).go i H ∧ ∀ y H1, (Itl K (ι a)).yld i H y H1 → ∃ ι2, Agr G.length ι' ι2 ∧ Rel K ι2 G1 H1 ∧ y = mv ι2 x ∧ okV G1.length x = true ∧ G.length ≤ G1.length := fun xs h hi ko => by
    have hq := sq xs h
    rw [hi]
    cases q : xs[i]? with
    | none =>
      refine ⟨fun _ => ⟨_, hq, ?_⟩, fun x G1 z => ?_⟩
      · rw [List.length_map]
        exact List.getElem?_eq_none_iff.mp q
      · cases z
    | some u =>
      refine ⟨fun z => ?_, fun x G1 z => ?_⟩
      · cases z
      · cases z
        have q' : (xs.map (mv ι'))[i]? = some (mv ι' u) := by rw [List.getElem?_map, q]; rfl
        refine ⟨⟨_, _, hq, q'⟩, fun y H1 yy => ?_⟩
        obtain ⟨rfl, yy⟩ := yy
        have := yy _ hq
        rw [q'] at this
        exact ⟨ι', .refl, R, (Option.some.inj this).symm, all_mem ko (List.mem_of_getElem? q), Nat.le_refl _⟩
  cases q : G[a]? with
  | none =>
    have : itL a i G = none := by unfold itL; rw [q]
    rw [this]
    exact ⟨(fun z => nomatch z), fun _ _ z => nomatch z⟩
  | some o =>
    cases o with
    | lst xs => exact main xs (.inl q) (by unfold itL; rw [q]) (R.okl q)
    | fz xs => exact main xs (.inr q) (by unfold itL; rw [q]) (R.ok _ _ q)
    | tup xs =>
      have : itL a i G = none := by unfold itL; rw [q]
      rw [this]
      exact ⟨(fun z => nomatch z), fun _ _ z => nomatch z⟩
    | dK xs =>
      have : itL a i G = none := by unfold itL; rw [q]
      rw [this]
      exact ⟨(fun z => nomatch z), fun _ _ z => nomatch z⟩
theorem itR_ok {K : PySem.W.Frag} {ι : Nat → Addr} {n : Nat} {lo : Int} {m : Nat} : ItOk K ι n (itR lo m) (Itr lo m) := by
  intro ι' G H i ag l R
  unfold itR
  by_cases h : i < m
  · rw [if_pos h]
    refine ⟨(fun z => nomatch z), fun x G1 z => ?_⟩
    cases z
    refine ⟨h, fun y H1 yy => ?_⟩
    obtain ⟨rfl, rfl⟩ := yy
    exact ⟨ι', .refl, R, rfl, rfl, Nat.le_refl _⟩
  · rw [if_neg h]
    refine ⟨fun _ => Nat.le_of_not_lt h, fun x G1 z => ?_⟩
    cases z
theorem i_list {m : ME} (h : SE X e m) : SI X tg e (fun σ G => (m σ G).bind fun p => match p.1 with
    | .ref a => match p.2[a]? with
      | some (.lst _) => some (itL a, p.2)
      | some (.fz _) => some (itL a, p.2)
      | _ => none
    | _ => none) := PI.imp (pi_list h) fun σ H Q h => by
  obtain ⟨ι, σ0, G, it, G1, rfl, so, R, e, p⟩ := h
  obtain ⟨⟨x, G2⟩, e1, e⟩ := bnd e
  refine liftE.into so R e1 fun ι1 H1 a1 R1 l1 k1 => ?_
  cases x with
  | ref a =>
    dsimp only at e
    split at e
    · rename_i q
      cases e
      exact ⟨_, rfl, ⟨_, R1.lstS q⟩, p ι1 H1 a1 R1 l1 _ (itL_ok (lt_of_get q))⟩
    · rename_i q
      cases e
      exact ⟨_, rfl, ⟨_, R1.fzS q⟩, p ι1 H1 a1 R1 l1 _ (itL_ok (lt_of_get q))⟩
    · cases e
  | _ => cases e
theorem small62_of {i : Int} (h : small62 i = true) : -(2 ^ 62) ≤ i ∧ i < 2 ^ 62 := of_decide_eq_true h
theorem i_range1 {a : Expr} {m : MA} {p pos : Pos} (hg : Gl X "range") (hm : X.mg "range" = none) (ha : SA X [a] m) (hs : starEach [a] X.env = [(false, eval a X.env)] := by rfl) : SI X tg (.Call (.Name "range" p) [a] [] pos) (iRange1 m) := PI.imp (pi_range1 hg hm ha hs) fun σ H Q h => by
  obtain ⟨ι, σ0, G, it, G1, rfl, so, R, e, p⟩ := h
  obtain ⟨⟨xs, G2⟩, e1, e⟩ := bnd e
  refine ⟨ι, σ0, G, xs, G2, rfl, so, R, e1, fun ι1 H1 a1 R1 l1 k1 => ?_⟩
  dsimp only at e
  split at e
  · split at e
    · rename_i z
      cases e
      exact ⟨_, rfl, (small62_of z).1, (small62_of z).2, p ι1 H1 a1 R1 l1 _ itR_ok⟩
    · cases e
  · cases e
theorem i_range2 {a b : Expr} {m : MA} {p pos : Pos} (hg : Gl X "range") (hm : X.mg "range" = none) (ha : SA X [a, b] m) (hs : starEach [a, b] X.env = [(false, eval a X.env), (false, eval b X.env)] := by rfl) (hs2 : starEach [b] X.env = [(false, eval b X.env)] := by rfl) : SI X tg (.Call (.Name "range" p) [a, b] [] pos) (iRange2 m) := PI.imp (pi_range2 hg hm ha hs hs2) fun σ H Q h => by
  obtain ⟨ι, σ0, G, it, G1, rfl, so, R, e, p⟩ := h
  obtain ⟨⟨xs, G2⟩, e1, e⟩ := bnd e
  refine ⟨ι, σ0, G, xs, G2, rfl, so, R, e1, fun ι1 H1 a1 R1 l1 k1 => ?_⟩
  dsimp only at e
  split at e
  · split at e
    · rename_i z
      cases e
      exact ⟨_, _, rfl, ⟨(small62_of z.1).1, (small62_of z.1).2, (small62_of z.2).1, (small62_of z.2).2⟩, p ι1 H1 a1 R1 l1 _ itR_ok⟩
    · cases e
  · cases e

/-! ### list comprehensions -/
theorem wipe_in {σ : L2.St} {i : Nat} : ∀ {vs : List Nat}, i ∈ vs → i < σ.length → (wipe σ vs)[i]? = some none
  | [], h, _ => nomatch h
  | v :: vs, h, l => by
    show ((wipe σ vs).set v none)[i]? = _
    by_cases z : v = i
    · subst z
      rw [List.getElem?_set_self (by rw [wipe_length]; exact l)]
    · rw [List.getElem?_set_ne z]
      rcases List.mem_cons.mp h with q | q
      · exact absurd q.symm z
      · exact wipe_in q l
theorem wipe_wipe (σ : L2.St) (vs : List Nat) : wipe (wipe σ vs) vs = wipe σ vs := by
  refine List.ext_getElem? fun i => ?_
  by_cases h : i ∈ vs
  · by_cases l : i < σ.length
    · rw [wipe_in h (by rw [wipe_length]; exact l), wipe_in h l]
    · rw [List.getElem?_eq_none (by rw [wipe_length, wipe_length]; omega), List.getElem?_eq_none (by rw [wipe_length]; omega)]
  · rw [wipe_out h]
theorem turn_of {K : PySem.W.Frag} {g : MG} {t : MT} {te : ME} {cm : Bool} {D : Nat} {ι ι0 : Nat → Addr} {σ0 : L2.St} {x : V} {G G1 G2 : Hz} {H H1 : Hp} {vs : List Nat} {Nx : Hp → Prop} (R0 : Rel K ι0 G H) (R : Rel K ι G1 H1) (a0 : Agr G.length ι0 ι) (l0 : G.length ≤ G1.length)
    (so : okS G.length (wipe σ0 vs) = true) (kx : okV G1.length x = true) (hD : D < G.length)
    (hg : ∀ (v : V) (σ : L2.St) (G : Hz) (σ' : L2.St) (G' : Hz), g v σ G = some (σ', G') → wipe σ' vs = wipe σ vs)
    (e : turnC cm g t te D (wipe σ0 vs) x G G1 = some G2) (nx : ∀ ι' H', Agr G.length ι0 ι' → Rel K ι' G2 H' → G.length ≤ G2.length → Nx H') :
    liftG K g (mv ι x) (wipe (ms ι0 σ0) vs) H1 fun σ2 H2 => wipe σ2 vs = wipe (ms ι0 σ0) vs ∧ liftB K t σ2 H2 fun b H3 =>
      if b = true then liftE K te σ2 H3 fun y H4 => ∃ acc, H4 (ι0 D) = some (.lst acc) ∧ acc.length < sizeLine ∧ Nx (upd H4 (ι0 D) (.lst (acc ++ [y]))) else Nx H3 := by
  obtain ⟨⟨σ2, Ga⟩, e1, e⟩ := bnd e
  obtain ⟨⟨k, Gb⟩, e2, e⟩ := bnd e
  rw [← ms_wipe, ms_agr a0 so]
  refine ⟨ι, x, wipe σ0 vs, G1, σ2, Ga, rfl, kx, rfl, okS_mono l0 so, R, e1, fun ι1 H2 a1 R1 l1 k1 => ⟨?_, ?_⟩⟩
  · rw [← ms_wipe, hg _ _ _ _ _ e1, ms_wipe, ms_agr a1 (okS_mono l0 so)]
    rw [← ms_wipe]
    congr 1
    exact (wipe_wipe σ0 vs)
  · have a01 : Agr G.length ι0 ι1 := a0.trans a1 l0
    have l01 : G.length ≤ Ga.length := Nat.le_trans l0 l1
    refine ⟨ι1, σ2, Ga, k, Gb, rfl, k1, R1, e2, fun ι2 H3 a2 R2 l2 => ?_⟩
    have a02 : Agr G.length ι0 ι2 := a01.trans a2 l01
    have l02 : G.length ≤ Gb.length := Nat.le_trans l01 l2
    rw [ms_agr a2 k1]
    cases k with
    | false =>
      dsimp only at e ⊢
      rw [if_neg Bool.false_ne_true] at e ⊢
      cases cm with
      | false =>
        cases e
        exact nx ι2 H3 a02 R2 l02
      | true =>
        rw [if_pos rfl] at e
        split at e
        · rename_i kb
          cases e
          exact nx ι2 H3 a02 (R0.cut R2 kb) (by rw [List.length_take]; exact Nat.le_of_eq (Nat.min_eq_left (kept_len kb)).symm)
        · cases e
    | true =>
      dsimp only at e ⊢
      rw [if_pos rfl] at e ⊢
      obtain ⟨⟨y, Gc⟩, e3, e⟩ := bnd e
      obtain ⟨⟨z, Gd⟩, e4, e⟩ := bnd e
      refine liftE.into (okS_mono l2 k1) R2 e3 fun ι3 H4 a3 R3 l3 k3 => ?_
      have a03 : Agr G.length ι0 ι3 := a02.trans a3 l02
      have l03 : G.length ≤ Gc.length := Nat.le_trans l02 l3
      have fin : ∀ (ι4 : Nat → Addr), Agr G.length ι0 ι4 → Rel K ι4 Gd H4 → mv ι4 z = mv ι3 y → okV Gd.length z = true → G.length ≤ Gd.length → ∃ acc, H4 (ι0 D) = some (.lst acc) ∧ acc.length < sizeLine ∧ Nx (upd H4 (ι0 D) (.lst (acc ++ [mv ι3 y]))) := fun ι4 a4 R4 q4 k4 l4 => by
        dsimp only at e
        split at e
        · rename_i acc q
          split at e
          · rename_i zz
            cases e
            have eD : ι0 D = ι4 D := a4 D hD
            refine ⟨acc.map (mv ι4), by rw [eD]; exact R4.lstM q, by rw [List.length_map]; exact zz, ?_⟩
            have := R4.put (o' := .lst (acc ++ [z])) q rfl (by show List.all _ _ = true; rw [List.all_append, R4.okl q, List.all_cons, k4]; rfl) rfl
            rw [show O.ho ι4 (.lst (acc ++ [z])) = .lst (acc.map (mv ι4) ++ [mv ι3 y]) from by rw [← q4]; show HO.lst (List.map _ _) = _; rw [List.map_append]; rfl] at this
            rw [eD]
            exact nx ι4 _ a4 this (by rw [List.length_set]; exact l4)
          · cases e
        · cases e
      cases cm with
      | false =>
        cases e4
        exact fin ι3 a03 R3 rfl k3 l03
      | true =>
        rw [if_pos rfl] at e4
        obtain ⟨ι4, a4, R4, q4, k4, l4⟩ := cut_to R0 R3 a03 k3 e4
        exact fin ι4 a4 R4 q4 k4 l4
end
end Zl

/-! Zl, part 5: list comprehensions; defs of the program and their calls. -/
namespace Zl
open PySem PySem.Spec L2
open PyProof.Rows hiding St

theorem cut_lift {K : PySem.W.Frag} {m : ME} {σ : L2.St} {H : Hp} {Q : VK} (h : liftE K (eCut m) σ H Q) : liftE K m σ H Q := by
  obtain ⟨ι, σ0, G, v, G', rfl, so, R, e, p⟩ := h
  obtain ⟨⟨x, G1⟩, e1, e⟩ := bnd e
  refine liftE.into so R e1 fun ι1 H1 a1 R1 l1 k1 => ?_
  obtain ⟨ι2, a2, R2, q2, k2, l2⟩ := cut_to R R1 a1 k1 e
  rw [← q2]
  exact p ι2 H1 a2 R2 l2 k2
/-- a target that stores nothing but at the slots vs -/
def GW (vs : List Nat) (g : MG) : Prop := ∀ (v : V) (σ : L2.St) (G : Hz) (σ' : L2.St) (G' : Hz), g v σ G = some (σ', G') → wipe σ' vs = wipe σ vs
def GWs (vs : List Nat) (g : MGs) : Prop := ∀ (v : List V) (σ : L2.St) (G : Hz) (σ' : L2.St) (G' : Hz), g v σ G = some (σ', G') → wipe σ' vs = wipe σ vs
theorem wipe_set {σ : L2.St} {i : Nat} {v : V} {vs : List Nat} (h : i ∈ vs) : wipe (σ.set i (some v)) vs = wipe σ vs := by
  refine List.ext_getElem? fun j => ?_
  by_cases hj : j ∈ vs
  · by_cases l : j < σ.length
    · rw [wipe_in hj (by rw [List.length_set]; exact l), wipe_in hj l]
    · rw [List.getElem?_eq_none (by rw [wipe_length, List.length_set]; omega), List.getElem?_eq_none (by rw [wipe_length]; omega)]
  · rw [wipe_out hj, wipe_out hj, List.getElem?_set_ne fun z => hj (by rw [← z]; exact h)]
theorem gw_set {vs : List Nat} {i : Nat} (h : i ∈ vs) : GW vs (gSet i) := fun v σ G σ' G' e => by
  cases e
  exact wipe_set h
theorem gws_nil {vs : List Nat} : GWs vs gsNil := fun v σ G σ' G' e => by
  cases v with
  | nil => cases e; rfl
  | cons _ _ => cases e
theorem gws_cons {vs : List Nat} {g : MG} {r : MGs} (h : GW vs g) (h' : GWs vs r) : GWs vs (gsCons g r) := fun v σ G σ' G' e => by
  cases v with
  | nil => cases e
  | cons u us =>
    obtain ⟨⟨σ2, G2⟩, e1, e⟩ := bnd e
    exact (h' _ _ _ _ _ e).trans (h _ _ _ _ _ e1)
theorem gw_un {vs : List Nat} {n : Nat} {r : MGs} (h : GWs vs r) : GW vs (gUn n r) := fun v σ G σ' G' e => by
  unfold gUn at e
  split at e
  · split at e
    · split at e
      · exact h _ _ _ _ _ e
      · cases e
    · split at e
      · exact h _ _ _ _ _ e
      · cases e
    · cases e
  · cases e
def STs (X : Cx) (ifs : List Expr) (t : MT) : Prop := PTs X ifs (liftB X.K t)
theorem sts_nil {X : Cx} : STs X [] tYesZ := ⟨fun pins s σ H Q I h => by
  obtain ⟨ι, σ0, G, v, G', rfl, so, R, e, p⟩ := h
  cases e
  exact (pts_nil (X := X)).run pins s _ H Q I (p ι H .refl R (Nat.le_refl _))⟩
theorem sts_one {X : Cx} {c : Expr} {t : MT} (h : STt X c t) : STs X [c] t := pts_one h

section
variable {X : Cx} {elt tg iter : Expr} {ifs : List Expr} {scope : Scope} {own : List (Str × Nat)} {pos : Pos} {w : MI} {g : MG} {t : MT} {te : ME} {n : Nat} {cm : Bool}
theorem comp_lift (gw : GW (own.map (·.2)) g) {σ : L2.St} {H : Hp} {Q : VK} (h : liftE X.K (eComp n cm w (own.map (·.2)) g t te) σ H Q) : tLc (liftI X.K w) (liftG X.K g) (liftB X.K t) (liftE X.K te) (own.map (·.2)) σ H Q := by
  generalize own.map (·.2) = vs at gw h ⊢
  obtain ⟨ι, σ0, G, v, G', rfl, so, R, e, p⟩ := h
  obtain ⟨⟨it, G1⟩, e1, e⟩ := bnd e
  obtain ⟨G2, e2, e⟩ := bnd e
  cases e
  refine ⟨ι, σ0, G, it, G1, rfl, so, R, e1, fun ι1 H1 a1 R1 l1 J hJ D hD => ?_⟩
  have R2 := R1.new (o := .lst []) rfl rfl hD
  refine ⟨fun i f H => ∃ (ι' : Nat → Addr) (Gi : Hz), Rel X.K ι' Gi H ∧ Agr (G1.length + 1) (ext ι1 G1.length D) ι' ∧ G1.length + 1 ≤ Gi.length ∧ loopC it (turnC cm g t te G1.length (wipe σ0 vs)) f i Gi = some G', ?_, ?_⟩
  · exact ⟨n, _, _, R2, .refl, by simp, e2⟩
  · rintro i f H ⟨ι', Gi, Ri, ai, li, ei⟩
    have a1i : Agr G1.length ι1 ι' := ext_agr.trans (ai.mono (Nat.le_succ _)) (Nat.le_refl _)
    have l1i : G1.length ≤ Gi.length := Nat.le_trans (Nat.le_succ _) li
    have eD : ι' G1.length = D := (ai _ (Nat.lt_succ_self _)).symm.trans ext_self
    cases f with
    | zero => cases ei
    | succ f =>
      obtain ⟨hstop, hgo⟩ := hJ ι' Gi H i a1i l1i Ri
      unfold loopC at ei
      cases q : it i Gi with
      | none => rw [q] at ei; cases ei
      | some o =>
        rw [q] at ei
        cases o with
        | none =>
          cases ei
          refine .inl ⟨hstop q, ?_⟩
          have := p ι' H (a1.trans a1i l1) Ri (Nat.le_trans l1 l1i) (decide_eq_true li)
          rw [show mv ι' (.ref G1.length) = .ref D from congrArg V.ref eD] at this
          exact this
        | some xg =>
          obtain ⟨x, G3⟩ := xg
          obtain ⟨go, hy⟩ := hgo x G3 q
          obtain ⟨G4, e4, ei⟩ := bnd ei
          refine .inr ⟨go, _, fun H' z => ⟨f, Nat.lt_succ_self f, z⟩, fun y H2 yy => ?_⟩
          obtain ⟨ι2, a2, Rx, rfl, k2, l2⟩ := hy y H2 yy
          rw [ms_agr (a1.trans a1i l1) so, ← eD]
          refine turn_of Ri Rx a2 l2 (okS_wipe (okS_mono (Nat.le_trans l1 l1i) so) _) k2 li gw e4 fun ι3 H3 a3 R3 l3 => ?_
          exact ⟨ι3, G4, R3, by rw [eD]; exact ai.trans a3 li, Nat.le_trans li l3, ei⟩
theorem se_comp (hc : X.calm = true) (hN : X.N.Nodup) (hi : SI X tg iter w) (ok : BlkOk X.N X.env.scope scope own) (gw : GW (own.map (·.2)) g)
    (hg : ∀ (s : Shared) (H : Hp) (C : Addr) (cl : List (Str × Addr)) (fp : List Addr), SG (X.blk s H scope (compEnvC scope cl C X.env) fp) tg g) (ht : ∀ (s : Shared) (H : Hp) (C : Addr) (cl : List (Str × Addr)) (fp : List Addr), STs (X.blk s H scope (compEnvC scope cl C X.env) fp) ifs t)
    (he : ∀ (s : Shared) (H : Hp) (C : Addr) (cl : List (Str × Addr)) (fp : List Addr), SE (X.blk s H scope (compEnvC scope cl C X.env) fp) elt te) (hs : ∀ x, foldedSetIterable iter X.env x = pure x := by intro _; rfl) :
    SE X (.ListComp elt [⟨tg, iter, ifs, 0⟩] scope pos) (eComp n cm w (own.map (·.2)) g t te) :=
  PE.imp (pe_lc (g := liftG X.K g) (tt := liftB X.K t) (te := liftE X.K te) hc hN hi ok hg ht he hs) fun _ _ _ h => comp_lift gw h
theorem setLc_of {st : Stmt} {tt : TE} {i : Nat} {m : ME} (h : PS X st (tAsg tt (gName i))) (hm : ∀ σ H Q, liftE X.K m σ H Q → tt σ H Q) : SS X st (sAsg m (gSet i)) := PS.imp h fun D σ H h => by
  obtain ⟨ι, σ0, G, r, rfl, so, R, e, p⟩ := h
  obtain ⟨⟨x, G1⟩, e1, e⟩ := bnd e
  cases e
  refine hm _ _ _ (liftE.into so R e1 fun ι1 H1 a1 R1 l1 k1 => ?_)
  have := p ι1 H1 a1 R1 l1 (okS_set (okS_mono l1 so) k1)
  rw [ms_set] at this
  rw [ms_agr a1 so]
  exact this
theorem s_setComp {i : Nat} {y : Str} {py : Pos} {spos : Pos} (hc : X.calm = true) (hN : X.N.Nodup) (hy : X.N[i]? = some y) (hyl : X.env.scope.names.lookup y = some .local)
    (hsw : swapsWith (.ListComp elt [⟨tg, iter, ifs, 0⟩] scope pos) (some (.Name y py)) spos.line X.env = pure true) (hi : SI X tg iter w) (ok : BlkOk X.N X.env.scope scope own) (gw : GW (own.map (·.2)) g)
    (hg : ∀ (s : Shared) (H : Hp) (C : Addr) (cl : List (Str × Addr)) (fp : List Addr), SG (X.blk s H scope (compEnvC scope cl C X.env) fp) tg g) (ht : ∀ (s : Shared) (H : Hp) (C : Addr) (cl : List (Str × Addr)) (fp : List Addr), STs (X.blk s H scope (compEnvC scope cl C X.env) fp) ifs t)
    (he : ∀ (s : Shared) (H : Hp) (C : Addr) (cl : List (Str × Addr)) (fp : List Addr), SE (X.blk s H scope (compEnvC scope cl C X.env) fp) elt te) (hs : ∀ x, foldedSetIterable iter X.env x = pure x := by intro _; rfl) :
    SS X (.Assign [.Name y py] (.ListComp elt [⟨tg, iter, ifs, 0⟩] scope pos) spos) (sAsg (eComp n cm w (own.map (·.2)) g t te) (gSet i)) :=
  setLc_of (ps_setLc (g := liftG X.K g) (tt := liftB X.K t) (te := liftE X.K te) hc hN hy hyl hsw hi ok hg ht he hs) fun _ _ _ h => comp_lift gw h
theorem s_setCompCut {i : Nat} {y : Str} {py : Pos} {spos : Pos} (hc : X.calm = true) (hN : X.N.Nodup) (hy : X.N[i]? = some y) (hyl : X.env.scope.names.lookup y = some .local)
    (hsw : swapsWith (.ListComp elt [⟨tg, iter, ifs, 0⟩] scope pos) (some (.Name y py)) spos.line X.env = pure true) (hi : SI X tg iter w) (ok : BlkOk X.N X.env.scope scope own) (gw : GW (own.map (·.2)) g)
    (hg : ∀ (s : Shared) (H : Hp) (C : Addr) (cl : List (Str × Addr)) (fp : List Addr), SG (X.blk s H scope (compEnvC scope cl C X.env) fp) tg g) (ht : ∀ (s : Shared) (H : Hp) (C : Addr) (cl : List (Str × Addr)) (fp : List Addr), STs (X.blk s H scope (compEnvC scope cl C X.env) fp) ifs t)
    (he : ∀ (s : Shared) (H : Hp) (C : Addr) (cl : List (Str × Addr)) (fp : List Addr), SE (X.blk s H scope (compEnvC scope cl C X.env) fp) elt te) (hs : ∀ x, foldedSetIterable iter X.env x = pure x := by intro _; rfl) :
    SS X (.Assign [.Name y py] (.ListComp elt [⟨tg, iter, ifs, 0⟩] scope pos) spos) (sAsg (eCut (eComp n cm w (own.map (·.2)) g t te)) (gSet i)) :=
  setLc_of (ps_setLc (g := liftG X.K g) (tt := liftB X.K t) (te := liftE X.K te) hc hN hy hyl hsw hi ok hg ht he hs) fun _ _ _ h => comp_lift gw (cut_lift h)
end

/-! ### defs -/
/-- the def at f does what m says, wherever no value is being shown (guards) -/
structure FnZ (P : Program) (w : World) (K : PySem.W.Frag) (mg : Str → Option Value) (base : Heap) (k : Nat) (f : Addr) (fd : FuncData) (ps : List Str) (m : FL) : Prop where
  run : ∀ (A : Around) (outer : List Env) (s : Shared) (H : Hp) (args : Args) (us : List Value) (ι : Nat → Addr) (G : Hz) (vs : List V) (v : V) (G' : Hz) (Q : VK),
    Room k A → A.guards = some [] → Env0 P w K mg base A outer s H → BindsTo s fd args (ps.zip us) → Vals (vs.map (mv ι)) us → vs.length = ps.length → Rel K ι G H → vs.all (okV G.length) = true →
    m vs G = some (v, G') → Pz K ι G.length v G' Q → codeAny (model P w) A (.call (.ref f) args) (CR CX0 outer P w H s Q E0) s
section
variable {P : Program} {w : World} {K : PySem.W.Frag} {mg : Str → Option Value} {base : Heap}
theorem FnZ.mono {j k : Nat} {f : Addr} {fd : FuncData} {ps : List Str} {m : FL} (F : FnZ P w K mg base j f fd ps m) (h : j ≤ k) : FnZ P w K mg base k f fd ps m :=
  ⟨fun A outer s H args us ι G vs v G' Q hr => F.run A outer s H args us ι G vs v G' Q (hr.mono h)⟩
theorem ms_start {ι : Nat → Addr} {N : List Str} {vs : List V} : ms ι (startZ N.length vs) = L2.start N (vs.map (mv ι)) := by
  unfold ms startZ L2.start
  rw [List.map_append, List.map_map, List.map_map, List.map_replicate, List.length_map]
  rfl
theorem okS_start {n k : Nat} {vs : List V} (h : vs.all (okV n) = true) : okS n (startZ k vs) = true := by
  unfold okS startZ
  rw [List.all_append, Bool.and_eq_true]
  refine ⟨List.all_eq_true.mpr fun x hx => ?_, List.all_eq_true.mpr fun x hx => ?_⟩
  · obtain ⟨v, hv, rfl⟩ := List.mem_map.mp hx
    exact all_mem h hv
  · rw [List.eq_of_mem_replicate hx]
/-- THE RULE for a def: its body by the rules -/
theorem fnz_of {k : Nat} {f : Addr} {name qual : Str} {params : Arguments} {body : List Stmt} {scope : Scope} {dV kV doc pm cdv ct oc : Value} {an od : Option Addr} {osl : Array (Option Value)} {N ps : List Str} {b : MS}
    (lk : K.lookup f = some ⟨oc, od, .func (PySem.W.fnOf name qual params body scope dV kV doc pm an cdv ct), osl⟩) (hcd : PySem.W.codeIn K cdv qual = true) (S : FnScope N ps scope)
    (hbody : ∀ (A : Around) (outer : List Env) (s : Shared) (H : Hp), Room k (A.deeper (envOfC qual scope s.heap.objs.size f cdv)) → A.guards = some [] → SSs (cxOf CX0 P w K mg base N qual scope f cdv A outer s H E0).nox body b) :
    FnZ P w K mg base (k + 1) f (PySem.W.fnOf name qual params body scope dV kV doc pm an cdv ct) ps (runD N.length b) := by
  refine ⟨fun A outer s H args us ι G vs v G' Q hr hG e0 hb r hl R ko e p => ?_⟩
  have hl2 : (vs.map (mv ι)).length = ps.length := by rw [List.length_map]; exact hl
  have keep := fun b o (z : base.get? b = some o) => (e0.bs b o z).1
  have KX : K.In s.heap := e0.mod.kin.keeps keep
  have bound : ∀ y ∈ ps.zip us, scope.names.lookup y.1 = some .local ∨ (scope.names.lookup y.1 = some .cell ∧ ((cellsFrom (s.heap.objs.size + 1) scope.names []).lookup y.1).isSome = true) := fun ⟨y, u⟩ hy =>
    (S.par y (List.of_mem_zip hy).1).imp (fun q => q) fun q => ⟨q, PySem.W.cellsFrom_some _ _ _ (.inl q)⟩
  refine codeAny_call_function hr.depth (KX _ _ lk) rfl S.co S.gen rfl (PySem.W.codeRec_of KX hcd) (hb _ _ _ _ (wpAny_newFunctionEnv_cells S.kind bound fun env he s1 x => ?_))
  subst he
  refine ⟨(e0.mod.nolimit.keeps keep).keeps x.toInCall.keep, codeAny_func ?_⟩
  have I := inv_start (CX := CX0) (E := E0) S hr.hd e0 hl2 r x
  have I2 := I.wish fun _ _ => False
  obtain ⟨r1, e1, e⟩ := bnd e
  have go := (hbody A outer s H (hr.deeper _) hG).run [] s1 _ H { nx := fun _ H' => Q .non H', rt := Q } I2 (by
    rw [← ms_start]
    refine liftS.into (okS_start ko) R e1 ?_
    cases r1 with
    | nx σ1 G1 => cases e; exact fun ι' H' a' R' l' _ => p ι' H' a' R' l' rfl
    | rt u G1 => cases e; exact p
    | bk σ1 G1 => cases e
    | ct σ1 G1 => cases e)
  refine wpAny_mono go (fun fl s' hs => ?_) fun _ _ z => False.elim z
  cases fl with
  | ret u =>
    obtain ⟨v', σ', H', J, rv, q⟩ := hs
    exact ⟨v', H', J.os, J.bare, J.base, J.hok, rv, q⟩
  | next =>
    obtain ⟨σ', H', J, q⟩ := hs
    exact ⟨V.non, H', J.os, J.bare, J.base, J.hok, rfl, q⟩
  | brk => obtain ⟨_, _, _, z⟩ := hs; exact False.elim z
  | cont => obtain ⟨_, _, _, z⟩ := hs; exact False.elim z
/-- the same over the layer's Fun -/
theorem Fun.okZ {x qual : Str} {st : Stmt} {f : Addr} {fd : FuncData} {N ps : List Str} {k : Nat} {b : MS} (F : Fun K x qual st f fd) (S : FnScope N ps (defScope st))
    (hbody : ∀ (cdv : Value) (A : Around) (outer : List Env) (s : Shared) (H : Hp), Room k (A.deeper (envOfC qual (defScope st) s.heap.objs.size f cdv)) → A.guards = some [] → SSs (cxOf CX0 P w K mg base N qual (defScope st) f cdv A outer s H E0).nox (defBody st) b) :
    FnZ P w K mg base (k + 1) f fd ps (runD N.length b) := by
  obtain ⟨oc, od, kV, doc, pm, an, cdv, ct, osl, rfl, lk, hcd⟩ := F.ex
  exact fnz_of lk hcd S fun A outer s H hr hG => hbody cdv A outer s H hr hG
end

section
variable {X : Cx} {k : Nat} {f : Addr} {fd : FuncData} {ps : List Str} {dvs : List V} {ds : List Value} {x : Str} {p pos : Pos} {e : Expr} {es : List Expr} {m : FL} {ma : MA}
/-- the def's call: the written arguments, then the defaults -/
def eFn (m : FL) (dvs : List V) (r : MA) : ME := fun σ G => (r σ G).bind fun p => m (p.1 ++ dvs) p.2
theorem run_fnz {pins : List (Addr × Obj)} {σ : L2.St} {H : Hp} {s : Shared} {Q : VK} {us : List Value} {vs : List V} {ι : Nat → Addr} {G G' : Hz} {v : V} (F : FnZ X.prog X.w X.K X.mg X.base k f fd ps m) (hr : Room k X.A) (hG : X.A.guards = some []) (hb : Binds X.K fd ps ds) (hd : Vals dvs ds) (hat : dvs.all atomV = true)
    (hl : (vs ++ dvs).length = ps.length) (I : Inv X pins σ H s) (r : Vals (vs.map (mv ι)) us) (R : Rel X.K ι G H) (ko : vs.all (okV G.length) = true) (e : m (vs ++ dvs) G = some (v, G')) (pz : Pz X.K ι G.length v G' Q) :
    wpAny (model X.prog X.w) X.A (call (.ref f) us) (EP X pins σ Q) X.xe s := by
  have dm : dvs.map (mv ι) = dvs := by
    have : ∀ l : List V, l.all atomV = true → l.map (mv ι) = l := fun l => by
      induction l with
      | nil => intro _; rfl
      | cons a l ih =>
        intro h
        rw [List.all_cons, Bool.and_eq_true] at h
        rw [List.map_cons, atom_mv h.1, ih h.2]
    exact this dvs hat
  have dk : dvs.all (okV G.length) = true := List.all_eq_true.mpr fun v hv => atom_ok (List.all_eq_true.mp hat v hv) _
  have r2 : Vals ((vs ++ dvs).map (mv ι)) (us ++ ds) := by
    rw [List.map_append, dm]
    exact r.append hd
  have hl2 : (us ++ ds).length = ps.length := by rw [← r2.length, List.length_map]; exact hl
  refine wpAny_call (codeAny_mono (F.run X.A X.stack s H ⟨us, []⟩ (us ++ ds) ι G (vs ++ dvs) v G' Q hr hG I.env0 (hb s us I.kIn hl2) r2 hl R (by rw [List.all_append, ko, dk]; rfl) e pz) fun r s' hq => ?_)
  cases r with
  | error e => exact hq.elim
  | ok fl => cases fl with
    | ret u => exact I.after hq
    | _ => exact hq.elim
theorem aLen_of {es : List Expr} {ma : MA} (h : ∀ σ G vs G', ma σ G = some (vs, G') → vs.length = es.length) : True := trivial
theorem se_fn (F : FnZ X.prog X.w X.K X.mg X.base k f fd ps m) (hr : Room k X.A) (hG : X.A.guards = some []) (hg : Gl X x) (hm : X.mg x = some (.ref f)) (hk : PySem.W.keepIn X.K (.ref f) = true) (hb : Binds X.K fd ps ds) (hd : Vals dvs ds) (hat : dvs.all atomV = true)
    (ha : SA X (e :: es) ma) (hn : ∀ σ G vs G', ma σ G = some (vs, G') → (vs ++ dvs).length = ps.length) (hdb : (x == ("__debug__" : Str)) = false := by decide) (he : starEach (e :: es) X.env = (false, eval e X.env) :: starEach es X.env := by rfl) (hpl : (backTo pos (starEach es X.env)).any (·.1) = false := by rfl) :
    SE X (.Call (.Name x p) (e :: es) [] pos) (eFn m dvs ma) := by
  refine ⟨fun pins s σ H Q I h => ?_⟩
  obtain ⟨ι, σ0, G, v, G', rfl, so, R, ee, pz⟩ := h
  obtain ⟨⟨xs, G1⟩, e1, ee⟩ := bnd ee
  refine wpAny_Call_Name_kw (ld_glob I hg hm ?_ hdb)
  have hA := PA.run ha pos pins s _ H (fun vs' H1 => ∃ ι1, xs.map (mv ι1) = vs' ∧ Agr G.length ι ι1 ∧ Rel X.K ι1 G1 H1 ∧ G.length ≤ G1.length ∧ xs.all (okV G1.length) = true) I ⟨ι, σ0, G, xs, G1, rfl, so, R, e1, fun ι1 H1 a1 R1 l1 k1 => ⟨ι1, rfl, a1, R1, l1, k1⟩⟩
  refine PySem.W.callWith_K (h₀ := X.base) I.ok.mod.kin hk (thn hA fun us s1 hz => ?_) he hpl
  obtain ⟨vs, H1, I1, r, ι1, rfl, a1, R1, l1, k1⟩ := hz
  exact ⟨I1.kIn, run_fnz F hr hG hb hd hat (hn _ _ _ _ e1) I1 r R1 k1 ee (pz.from a1 l1)⟩
theorem se_fn0 (F : FnZ X.prog X.w X.K X.mg X.base k f fd ps m) (hr : Room k X.A) (hG : X.A.guards = some []) (hg : Gl X x) (hm : X.mg x = some (.ref f)) (hk : PySem.W.keepIn X.K (.ref f) = true) (hb : Binds X.K fd ps ds) (hd : Vals dvs ds) (hat : dvs.all atomV = true)
    (hn : dvs.length = ps.length) (hdb : (x == ("__debug__" : Str)) = false := by decide) : SE X (.Call (.Name x p) [] [] pos) (eFn m dvs aNil) := by
  refine ⟨fun pins s σ H Q I h => ?_⟩
  obtain ⟨ι, σ0, G, v, G', rfl, so, R, ee, pz⟩ := h
  refine wpAny_Call_Name_kw (ld_glob I hg hm ?_ hdb)
  exact PySem.W.callWith_K0 I.kIn hk (run_fnz (us := []) (vs := []) F hr hG hb hd hat hn I .nil R rfl ee pz)
/-- how many values an argument list gives -/
def AL (n : Nat) (ma : MA) : Prop := ∀ σ G vs G', ma σ G = some (vs, G') → vs.length = n
theorem al_nil : AL 0 aNil := fun _ _ _ _ e => by cases e; rfl
theorem al_cons {n : Nat} {m : ME} {r : MA} (h : AL n r) : AL (n + 1) (aCons m r) := fun _ _ _ _ e => by
  obtain ⟨p, e1, e⟩ := bnd e
  obtain ⟨q, e2, e⟩ := bnd e
  cases e
  rw [List.length_cons, h _ _ _ _ e2]
theorem AL.to {n j : Nat} (h : AL n ma) (q : n + dvs.length = j) : ∀ σ G vs G', ma σ G = some (vs, G') → (vs ++ dvs).length = j := fun _ _ _ _ e => by
  rw [List.length_append, h _ _ _ _ e]
  exact q
end
end Zl

/-! Zl, part 6: more built-ins and methods, repr, isinstance, enumerate, zip, a law's end. -/
namespace Zl
open PySem PySem.Spec L2
open PyProof.Rows hiding St

/-- len(set(xs)), xs of ints -/
def nDist (ns : List Int) : Nat := (PyProof.Rows.firstMet (fun i => ns.getD i 0) ns.length).length
def fLenSet : F1 := fun x G => match x with
  | .ref a => match G[a]? with
    | some (.lst xs) => match ints? xs with
      | some ns => if ns.length ≤ 4000 then some (.int (nDist ns), G) else none
      | none => none
    | _ => none
  | _ => none
/-- the built-in type of a value -/
def tyZ (v : V) (G : Hz) : Option String := match v with
  | .non => some "NoneType"
  | .bl _ => some "bool"
  | .int _ => some "int"
  | .str _ => some "str"
  | .ref a => match G[a]? with
    | some (.lst _) => some "list"
    | some (.fz _) => some "list"
    | some (.tup _) => some "tuple"
    | some (.dK _) => some "dict"
    | none => none
  | _ => none
def isiT (t T : String) : Option Bool := if t = T then some true else if t = "bool" ∧ T = "int" then some true else
  if (t = "NoneType" ∨ t = "bool" ∨ t = "int" ∨ t = "str" ∨ t = "list" ∨ t = "tuple" ∨ t = "dict") ∧ (T = "bool" ∨ T = "int" ∨ T = "str" ∨ T = "list" ∨ T = "tuple" ∨ T = "dict") then some false else none
def fIsi : FL := fun vs G => match vs with
  | [x, .ty T] => (tyZ x G).bind fun t => (isiT t T).bind fun b => some (.bl b, G)
  | _ => none
def fReprZ : FL := fun vs G => match vs with
  | [v] => match rdD dep G v with
    | some d => if d.showable = true ∧ d.shown.length ≤ sizeLine ∧ d.depth ≤ 30 ∧ d.hasDict = false then some (.str d.shown, G) else none
    | none => none
  | _ => none
def uAdd : F2 := fun x y G => match x, y with
  | .int i, .int j => some (.int (i + j), G)
  | _, _ => none
def uSub : F2 := fun x y G => match x, y with
  | .int i, .int j => some (.int (i - j), G)
  | _, _ => none

section
variable {X : Cx} {pos : Pos}
theorem isi_kit {K : PySem.W.Frag} {t T : String} {b : Bool} (h : isiT t T = some b) : PySem.W.kitOne K (.type t) (.type T) = some b := by
  unfold isiT at h
  split at h
  · rename_i e
    subst e
    cases h
    exact if_pos (beq_self_eq_true _)
  · split at h
    · rename_i e
      obtain ⟨rfl, rfl⟩ := e
      cases h
      exact kit_ty (by decide +kernel)
    · split at h
      · rename_i n1 n2 e
        cases h
        refine kit_ty ?_
        obtain ⟨h1, h2⟩ := e
        rcases h1 with rfl | rfl | rfl | rfl | rfl | rfl | rfl <;> rcases h2 with rfl | rfl | rfl | rfl | rfl | rfl <;> first | exact absurd rfl n1 | exact absurd ⟨rfl, rfl⟩ n2 | decide +kernel
      · cases h
theorem z_isi : CallZ X (.builtin "isinstance") fIsi := by
  refine ⟨_, call_isi, fun ι G H vs v G' Q R kx e p => ?_⟩
  unfold fIsi at e
  split at e
  · rename_i x T
    obtain ⟨t, e1, e⟩ := bnd e
    obtain ⟨b, e2, e⟩ := bnd e
    cases e
    refine ⟨mv ι x, .ty T, .type t, .type T, b, rfl, .ty T, ?_, isi_kit e2, p.same R rfl⟩
    unfold tyZ at e1
    split at e1
    · cases e1; exact .base .non
    · cases e1; exact .base (.bl _)
    · cases e1; exact .base (.int _)
    · cases e1; exact .base (.str _)
    · split at e1
      · rename_i q
        cases e1
        exact .base (.lst (R.lstM q))
      · rename_i q
        cases e1
        rcases R.at_ _ _ q with ⟨ob, h⟩ | ⟨o, its, n, h, hc, _⟩
        · exact .base (.frz h)
        · exact .kList h hc
      · rename_i q
        cases e1
        exact .base (.tup (R.tupM q))
      · rename_i q
        cases e1
        exact .base (.dK (R.dkM q))
      · cases e1
    · cases e1
  · cases e
theorem se_lenSet {a : Expr} {m : ME} {p p2 q : Pos} (hg : Gl X "len") (hm : X.mg "len" = none) (hg2 : Gl X "set") (hm2 : X.mg "set" = none) (ha : SE X a m) (hc : X.calm = true := by rfl)
    (na : starEach [a] X.env = (false, eval a X.env) :: starEach [] X.env := by rfl) : SE X (.Call (.Name "len" p) [.Call (.Name "set" p2) [a] [] q] [] pos) (eUn fLenSet m) := by
  refine ⟨fun pins s σ H Q I h => ?_⟩
  obtain ⟨ι, σ0, G, v, G', rfl, so, R, e, pz⟩ := h
  obtain ⟨⟨x, G1⟩, e1, e⟩ := bnd e
  have hA := PE.run ha pins s _ H (fun v' H1 => ∃ ι1, mv ι1 x = v' ∧ Agr G.length ι ι1 ∧ Rel X.K ι1 G1 H1 ∧ G.length ≤ G1.length) I (liftE.into so R e1 fun ι1 H1 a1 R1 l1 k1 => ⟨ι1, rfl, a1, R1, l1⟩)
  refine Call_ (ld_blt I hg hm boot_len (PyProof.Rows.callWith_builtin1 (PyProof.Rows.args_cons ?_ rfl) rfl rfl))
  refine Call_ (ld_blt I hg2 hm2 boot_set (PyProof.Rows.callWith_type1 (PyProof.Rows.args_cons (thn hA fun v s1 hz => PyProof.Rows.args_nil ?_) na) na rfl))
  obtain ⟨x', H1, I1, r1, ι1, rfl, a1, R1, l1⟩ := hz
  unfold fLenSet at e
  dsimp only at e
  split at e
  · split at e
    · rename_i q
      split at e
      · rename_i ns en
        split at e
        · rename_i hl
          cases e
          cases r1
          have hq := R1.lstS q
          rw [ints_of en] at hq
          obtain ⟨its, r, pl, hz⟩ := I1.list hq
          have hlen : its.toArray.size = ns.length := by rw [List.size_toArray, ← r.length, List.length_map]
          refine call_set_list (I1.ok.hd hc) pl.isList (by simpa using RZ.intsAre_vals r) (by rw [hlen]; unfold scanBound; omega) fun h' tk hS hk => PyProof.Rows.args_nil ?_
          rw [hlen] at hS
          obtain ⟨o, es, ep, t, ho, hex, hd, _, _, _, hf, hn⟩ := hS
          have hle : nDist ns ≤ 4000 := Nat.le_trans (PyProof.Rows.firstMet_length_le _ _) hl
          have I2 : Inv X pins (ms ι σ0) H1 { s1 with heap := h', toks := tk } := I1.kept fun b o e => hk b o (Heap.lt_size e) e
          have hn' : _ = nDist ns := hn
          exact call_len_set ho hex hd hf (by rw [hn'] <;> omega) ⟨.int (nDist ns : Nat), H1, I2.tok _, ⟨_, by rw [hn']⟩, pz ι1 H1 a1 R1 l1 rfl⟩
        · cases e
      · cases e
    · cases e
  · cases e

/-! repr -/
theorem reads_of {pins : List (Addr × Obj)} {s : Shared} {σ : L2.St} {H : Hp} {d : PyData} {v : V} {u : Value} {ι : Nat → Addr} {G : Hz} (I : Inv X pins σ H s) (R : Rel X.K ι G H) {k : Nat} (e : rdD k G v = some d) (n : d.hasDict = false) (r : RelV (mv ι v) u) : ∃ as, Reads s.heap u d as :=
  Dp.reads I d (mv ι v) u (dp_of R k v d e n) r
theorem call_reprZ (hG : X.A.guards = some []) (hu : X.A.units + 64 < cLine) : CallR X (.builtin "repr") (fun xs H Q => ∃ (ι : Nat → Addr) (G : Hz) (v : V) (d : PyData), xs = [mv ι v] ∧ Rel X.K ι G H ∧ rdD dep G v = some d ∧ d.showable = true ∧ d.shown.length ≤ sizeLine ∧ d.depth ≤ 30 ∧ d.hasDict = false ∧ Q (.str d.shown) H) := by
  intro pins s σ H xs us Q I r h
  obtain ⟨ι, G, v, d, rfl, R, e, h1, h2, h3, h4, q⟩ := h
  obtain ⟨u, rfl, rv⟩ := vals1 r
  have fin : ∀ (h' : Heap) (t : Tok) (tk : Nat), (∀ b o, s.heap.get? b = some o → h'.get? b = some o) → EP X pins σ Q (.str d.shown t) { s with heap := h', toks := tk } := fun h' t tk hk => ⟨.str d.shown, H, I.kept (t' := tk) hk, ⟨_, rfl⟩, q⟩
  cases v with
  | non =>
    cases rv
    cases e
    exact PySem.P.repr_of_none (by simpa [PyData.shown] using fin s.heap s.toks _ fun _ _ z => z)
  | bl b =>
    cases rv
    cases e
    exact PySem.P.repr_of_bool (by simpa [PyData.shown] using fin s.heap s.toks _ fun _ _ z => z)
  | int i =>
    obtain ⟨t, rfl⟩ := rv
    cases e
    exact PySem.P.repr_of_int (by simpa [PyData.showable] using h1) (by simpa [PyData.shown] using fin s.heap s.toks _ fun _ _ z => z)
  | str x =>
    obtain ⟨t, rfl⟩ := rv
    cases e
    exact PySem.P.repr_of_str (by simpa [PyData.shown] using fin s.heap s.toks _ fun _ _ z => z) (by simpa [PyData.shown] using h2)
  | ref a =>
    cases rv
    obtain ⟨as, rd⟩ := reads_of (u := .ref (ι a)) I R e h4 rfl
    exact repr_of_reads' rd h1 (fun z => by rw [h4] at z; cases z) hG (by omega) (fun _ _ z => z) (fun h' t tk hk => fin h' t tk hk) h2
  | _ => cases e
theorem z_repr (hG : X.A.guards = some []) (hu : X.A.units + 64 < cLine) : CallZ X (.builtin "repr") fReprZ := by
  refine ⟨_, call_reprZ hG hu, fun ι G H vs v G' Q R kx e p => ?_⟩
  unfold fReprZ at e
  split at e
  · split at e
    · rename_i d ed
      split at e
      · rename_i z
        cases e
        exact ⟨ι, G, _, d, rfl, R, ed, z.1, z.2.1, z.2.2.1, z.2.2.2, p.same R rfl⟩
      · cases e
    · cases e
  · cases e

/-! methods of lists -/
theorem isLst_get {v : V} {G : Hz} (h : isLst v G = true) : ∃ a xs, v = .ref a ∧ G[a]? = some (.lst xs) := by
  unfold isLst at h
  split at h
  · split at h
    · rename_i q
      exact ⟨_, _, rfl, q⟩
    · cases h
  · cases h
theorem lst_ty {K : PySem.W.Frag} (ι : Nat → Addr) (G : Hz) (H : Hp) (x : V) (R : Rel K ι G H) (h : isLst x G = true) : tyV K "list" (mv ι x) H := by
  obtain ⟨a, xs, rfl, q⟩ := isLst_get h
  exact .inl ⟨rfl, _, R.lstS q⟩
theorem map_eraseIdx {α β : Type} (f : α → β) : ∀ (l : List α) (k : Nat), (l.eraseIdx k).map f = (l.map f).eraseIdx k
  | [], _ => rfl
  | _ :: _, 0 => rfl
  | a :: l, k + 1 => congrArg (f a :: ·) (map_eraseIdx f l k)
theorem Pz.putL {K : PySem.W.Frag} {ι : Nat → Addr} {G : Hz} {H : Hp} {v : V} {Q : VK} {i : Nat} {xs xs' ys : List V} (R : Rel K ι G H) (e : G[i]? = some (.lst xs)) (k : xs'.all (okV G.length) = true) (h : xs'.map (mv ι) = ys) (p : Pz K ι G.length v (G.set i (.lst xs')) Q) (kv : okV G.length v = true) : Q (mv ι v) (upd H (ι i) (.lst ys)) := by
  rw [← h]
  exact Pz.put (o' := .lst xs') R e rfl k rfl p kv
theorem z_append : MtZ X "list" "list.append" isLst mAppend := by
  refine ⟨_, mt_append, lst_ty, fun ι G H x vs v G' Q R kx ko e p => ?_⟩
  unfold mAppend at e
  split at e
  · split at e
    · rename_i q
      split at e
      · rename_i z
        cases e
        refine ⟨_, _, _, rfl, rfl, R.lstM q, by rw [List.length_map]; exact z, ?_⟩
        rw [List.all_cons, Bool.and_eq_true] at ko
        exact Pz.putL (xs' := _ ++ [_]) R q (by rw [List.all_append, R.okl q, List.all_cons, ko.1]; rfl) (by rw [List.map_append]; rfl) p rfl
      · cases e
    · cases e
  · cases e
theorem z_pop : MtZ X "list" "list.pop" isLst mPop := by
  refine ⟨_, MtR.or mt_pop mt_popAt, lst_ty, fun ι G H x vs v G' Q R kx ko e p => ?_⟩
  unfold mPop at e
  split at e
  · split at e
    · rename_i q
      split at e
      · rename_i y hy
        cases e
        refine .inl ⟨_, _, mv ι _, rfl, rfl, R.lstM q, by rw [List.length_map, List.getElem?_map, hy]; rfl, ?_⟩
        exact Pz.putL R q (all_sub (R.okl q) fun v hv => List.dropLast_subset _ hv) List.map_dropLast p (all_mem (R.okl q) (List.mem_of_getElem? hy))
      · cases e
    · cases e
  · split at e
    · rename_i q
      split at e
      · rename_i z
        split at e
        · rename_i k hk
          split at e
          · rename_i y hy
            cases e
            refine .inr ⟨_, _, _, k, mv ι _, rfl, rfl, R.lstM q, z.1, z.2, by rw [List.length_map]; exact hk, by rw [List.getElem?_map, hy]; rfl, ?_⟩
            exact Pz.putL R q (all_sub (R.okl q) fun v hv => List.mem_of_mem_eraseIdx hv) (map_eraseIdx _ _ _) p (all_mem (R.okl q) (List.mem_of_getElem? hy))
          · cases e
        · cases e
      · cases e
    · cases e
  · cases e
theorem z_clear : MtZ X "list" "list.clear" isLst mClear := by
  refine ⟨_, mt_clear, lst_ty, fun ι G H x vs v G' Q R kx ko e p => ?_⟩
  unfold mClear at e
  split at e
  · split at e
    · rename_i q
      cases e
      exact ⟨_, _, rfl, rfl, R.lstM q, Pz.put (o' := .lst []) R q rfl rfl rfl p rfl⟩
    · cases e
  · cases e
theorem z_reverse : MtZ X "list" "list.reverse" isLst mReverse := by
  refine ⟨_, mt_reverse, lst_ty, fun ι G H x vs v G' Q R kx ko e p => ?_⟩
  unfold mReverse at e
  split at e
  · split at e
    · rename_i q
      cases e
      refine ⟨_, _, rfl, rfl, R.lstM q, ?_⟩
      exact Pz.putL R q (all_sub (R.okl q) fun v hv => List.mem_reverse.mp hv) List.map_reverse p rfl
    · cases e
  · cases e
theorem z_insert : MtZ X "list" "list.insert" isLst mInsert := by
  refine ⟨_, mt_insert, lst_ty, fun ι G H x vs v G' Q R kx ko e p => ?_⟩
  unfold mInsert at e
  split at e
  · split at e
    · rename_i q
      split at e
      · rename_i z
        cases e
        refine ⟨_, _, _, _, rfl, rfl, R.lstM q, by rw [List.length_map]; exact z.1, z.2.1, z.2.2, ?_⟩
        simp only [List.all_cons, Bool.and_eq_true] at ko
        exact Pz.putL (xs' := List.take _ _ ++ [_] ++ List.drop _ _) R q (by
          rw [List.all_append, List.all_append, all_sub (R.okl q) fun v hv => List.mem_of_mem_take hv, all_sub (R.okl q) fun v hv => List.mem_of_mem_drop hv, List.all_cons, ko.2.1]
          rfl) (by rw [List.map_append, List.map_append, List.map_take, List.map_drop]; rfl) p rfl
      · cases e
    · cases e
  · cases e
theorem z_extend : MtZ X "list" "list.extend" isLst mExtend := by
  refine ⟨_, mt_extend, lst_ty, fun ι G H x vs v G' Q R kx ko e p => ?_⟩
  unfold mExtend at e
  split at e
  · split at e
    · rename_i q1 q2
      split at e
      · rename_i z
        cases e
        refine ⟨_, _, _, _, rfl, rfl, R.lstM q1, R.lstM q2, by rw [List.length_map, List.length_map]; exact z, ?_⟩
        exact Pz.putL R q1 (by rw [List.all_append, R.okl q1, R.okl q2]; rfl) List.map_append p rfl
      · cases e
    · cases e
  · cases e
theorem ints_get {xs : List V} {ns : List Int} {j : Nat} {z : V} (h : ints? xs = some ns) (e : xs[j]? = some z) : ∃ i, z = .int i ∧ ns[j]? = some i := by
  have : xs = ns.map V.int := by
    have := ints_of (ι := id) h
    rw [← this]
    exact (List.map_id'' (fun v => by cases v <;> rfl) xs).symm
  rw [this, List.getElem?_map] at e
  cases q : ns[j]? with
  | none => rw [q] at e; cases e
  | some i => rw [q] at e; exact ⟨i, (Option.some.inj e).symm, rfl⟩
theorem z_index : MtZ X "list" "list.index" isLst mIndex := by
  refine ⟨_, mt_index, lst_ty, fun ι G H x vs v G' Q R kx ko e p => ?_⟩
  unfold mIndex at e
  split at e
  · rename_i k
    split at e
    · rename_i q
      split at e
      · rename_i ns en
        split at e
        · rename_i hk
          cases e
          have hq := R.lstS q
          rw [ints_of en] at hq
          have lt : ns.idxOf k < ns.length := List.idxOf_lt_length_iff.mpr hk
          refine ⟨_, _, .int k, ns.idxOf k, .int k, rfl, rfl, hq, rfl, List.all_eq_true.mpr fun v hv => ?_, ?_, by simp [eqV], fun m z' hm hz => ?_, p.same R rfl⟩
          · obtain ⟨i, _, rfl⟩ := List.mem_map.mp hv
            rfl
          · rw [List.getElem?_map, List.getElem?_eq_getElem lt, List.getElem_idxOf]
            rfl
          · rw [List.getElem?_map] at hz
            have lm : m < ns.length := Nat.lt_trans hm lt
            rw [List.getElem?_eq_getElem lm] at hz
            cases hz
            have := List.not_of_lt_findIdx hm
            simpa [eqV] using this
        · cases e
      · cases e
    · cases e
  · cases e
/-! stores -/
theorem z_putL : PutZ X pLst := by
  refine ⟨_, set_list, fun ι G H o i v G' Q R ko ki kv e p => ?_⟩
  unfold pLst at e
  split at e
  · split at e
    · rename_i q
      obtain ⟨j, ej, e⟩ := bnd e
      cases e
      refine ⟨_, _, _, j, rfl, rfl, R.lstM q, by rw [List.length_map]; exact ej, ?_⟩
      rw [← List.map_set]
      exact p ι _ .refl (R.put (o' := .lst _) q rfl (List.all_eq_true.mpr fun u hu => by
        rcases List.mem_or_eq_of_mem_set hu with z | z
        · exact all_mem (R.okl q) z
        · rw [z]; exact kv) rfl) (by rw [List.length_set]; exact Nat.le_refl _)
    · cases e
  · cases e
theorem s_aug {i : Nat} {x : Str} {e : Expr} {m : ME} {op : Operator} {ti : TIp} {f : F2} {pos' : Pos} (hN : X.N.Nodup) (hi : X.N[i]? = some x) (hx : Loc X.env.scope x) (he : SE X e m) (ho : PIp X op ti)
    (hf : ∀ (ι : Nat → Addr) (G : Hz) (H : Hp) (x y v : V) (G' : Hz) (Q : VK), Rel X.K ι G H → okV G.length x = true → okV G.length y = true → f x y G = some (v, G') → Pz X.K ι G.length v G' Q → ti (mv ι x) (mv ι y) H Q)
    (hfn : X.fn x = true ∨ X.env.scope.names.lookup x = some .local := by first | exact .inl rfl | exact .inr rfl | assumption) : SS X (.AugAssign (.Name x pos') op e pos) (sAug i f m) := PS.imp (ps_aug hN hi hx he ho hfn) fun D σ H h => by
  obtain ⟨ι, σ0, G, r, rfl, so, R, e, p⟩ := h
  unfold sAug at e
  split at e
  · rename_i u q
    obtain ⟨⟨y, G1⟩, e1, e⟩ := bnd e
    obtain ⟨⟨z, G2⟩, e2, e⟩ := bnd e
    cases e
    refine ⟨mv ι u, ms_get q, liftE.into so R e1 fun ι1 H1 a1 R1 l1 k1 => ?_⟩
    rw [mv_agr a1 (okS_get so q)]
    refine hf ι1 G1 H1 u y z G2 _ R1 (okV_mono l1 (okS_get so q)) k1 e2 fun ι2 H2 a2 R2 l2 k2 => ?_
    have := p ι2 H2 (a1.trans a2 l1) R2 (Nat.le_trans l1 l2) (okS_set (okS_mono (Nat.le_trans l1 l2) so) k2)
    rw [ms_set] at this
    rw [ms_agr (a1.trans a2 l1) so]
    exact this
  · cases e
theorem u_add (ι : Nat → Addr) (G : Hz) (H : Hp) (x y v : V) (G' : Hz) (Q : VK) (R : Rel X.K ι G H) (kx : okV G.length x = true) (ky : okV G.length y = true) (e : uAdd x y G = some (v, G')) (p : Pz X.K ι G.length v G' Q) : ipI (fun i j => i + j) (mv ι x) (mv ι y) H Q := by
  unfold uAdd at e
  split at e
  · cases e
    exact ⟨_, _, rfl, rfl, p.same R rfl⟩
  · cases e
theorem u_sub (ι : Nat → Addr) (G : Hz) (H : Hp) (x y v : V) (G' : Hz) (Q : VK) (R : Rel X.K ι G H) (kx : okV G.length x = true) (ky : okV G.length y = true) (e : uSub x y G = some (v, G')) (p : Pz X.K ι G.length v G' Q) : ipI (fun i j => i - j) (mv ι x) (mv ι y) H Q := by
  unfold uSub at e
  split at e
  · cases e
    exact ⟨_, _, rfl, rfl, p.same R rfl⟩
  · cases e
/-! enumerate, zip -/
theorem itE_ok {K : PySem.W.Frag} {ι : Nat → Addr} {n a : Nat} (ha : a < n) : ItOk K ι n (itE a) (Ite K (ι a)) := by
  intro ι' G H i ag l R
  have e0 : ι a = ι' a := ag a ha
  unfold itE
  split
  · rename_i xs q
    have hq : SqL K H (ι a) (xs.map (mv ι')) := by rw [e0]; exact R.lstS q
    cases q2 : xs[i]? with
    | none =>
      refine ⟨fun _ => ⟨_, hq, ?_⟩, fun x G1 z => ?_⟩
      · rw [List.length_map]
        exact List.getElem?_eq_none_iff.mp q2
      · cases z
    | some u =>
      refine ⟨fun z => ?_, fun x G1 z => ?_⟩
      · cases z
      · cases z
        have q' : (xs.map (mv ι'))[i]? = some (mv ι' u) := by rw [List.getElem?_map, q2]; rfl
        have ku := all_mem (R.okl q) (List.mem_of_getElem? q2)
        refine ⟨⟨_, _, hq, q'⟩, fun y H1 yy => ?_⟩
        obtain ⟨T, x, rfl, hT, rfl, hx⟩ := yy
        have hx' := hx _ hq
        rw [q'] at hx'
        cases hx'
        have := R.new (o := .tup [.int (i : Int), u]) (p := T) (by show List.all _ _ = true; rw [List.all_cons, List.all_cons, ku]; rfl) rfl hT
        exact ⟨ext ι' G.length T, ext_agr, this, (congrArg V.ref ext_self).symm, by simp [okV], by simp⟩
  · exact ⟨(fun z => nomatch z), fun _ _ z => nomatch z⟩
theorem itZ_ok {K : PySem.W.Frag} {ι : Nat → Addr} {n a b : Nat} (ha : a < n) (hb : b < n) : ItOk K ι n (itZ a b) (Itz K (ι a) (ι b)) := by
  intro ι' G H i ag l R
  have e0 : ι a = ι' a := ag a ha
  have e1 : ι b = ι' b := ag b hb
  unfold itZ
  split
  · rename_i xs ys q1 q2
    have hq1 : SqL K H (ι a) (xs.map (mv ι')) := by rw [e0]; exact R.lstS q1
    have hq2 : SqL K H (ι b) (ys.map (mv ι')) := by rw [e1]; exact R.lstS q2
    split
    · rename_i u w r1 r2
      refine ⟨fun z => (by cases z), fun x G1 z => ?_⟩
      cases z
      have s1 : (xs.map (mv ι'))[i]? = some (mv ι' u) := by rw [List.getElem?_map, r1]; rfl
      have s2 : (ys.map (mv ι'))[i]? = some (mv ι' w) := by rw [List.getElem?_map, r2]; rfl
      have ku := all_mem (R.okl q1) (List.mem_of_getElem? r1)
      have kw := all_mem (R.okl q2) (List.mem_of_getElem? r2)
      refine ⟨⟨_, _, _, _, hq1, hq2, s1, s2⟩, fun y H1 yy => ?_⟩
      obtain ⟨T, x, x2, rfl, hT, rfl, hx, hx2⟩ := yy
      have hx' := hx _ hq1
      rw [s1] at hx'
      cases hx'
      have hx2' := hx2 _ hq2
      rw [s2] at hx2'
      cases hx2'
      have := R.new (o := .tup [u, w]) (p := T) (by show List.all _ _ = true; rw [List.all_cons, List.all_cons, ku, kw]; rfl) rfl hT
      exact ⟨ext ι' G.length T, ext_agr, this, (congrArg V.ref ext_self).symm, by simp [okV], by simp⟩
    · rename_i no
      refine ⟨fun _ => ⟨_, _, hq1, hq2, ?_⟩, fun x G1 z => (by cases z)⟩
      rw [List.length_map, List.length_map]
      cases r1 : xs[i]? with
      | none => exact .inl (List.getElem?_eq_none_iff.mp r1)
      | some u => cases r2 : ys[i]? with
        | none => exact .inr (List.getElem?_eq_none_iff.mp r2)
        | some w => exact absurd r2 (no u w r1)
  · exact ⟨(fun z => nomatch z), fun _ _ z => nomatch z⟩
theorem i_enum {e : Expr} {m : MA} {p tpos : Pos} {elts : List Expr} {kk : Nat} (hg : Gl X "enumerate") (hm : X.mg "enumerate" = none) (ha : SA X [e] m) (hs : starEach [e] X.env = [(false, eval e X.env)] := by rfl) : SI X (.Tuple elts kk tpos) (.Call (.Name "enumerate" p) [e] [] pos) (iEnumZ m) := PI.imp (pi_enum hg hm ha hs) fun σ H Q h => by
  obtain ⟨ι, σ0, G, it, G1, rfl, so, R, e, p⟩ := h
  obtain ⟨⟨xs, G2⟩, e1, e⟩ := bnd e
  refine ⟨ι, σ0, G, xs, G2, rfl, so, R, e1, fun ι1 H1 a1 R1 l1 k1 => ?_⟩
  dsimp only at e
  split at e
  · split at e
    · rename_i q
      cases e
      exact ⟨_, _, rfl, R1.lstS q, p ι1 H1 a1 R1 l1 _ (itE_ok (lt_of_get q))⟩
    · cases e
  · cases e
theorem i_zip {e e2 : Expr} {m : MA} {p tpos : Pos} {elts : List Expr} {kk : Nat} (hg : Gl X "zip") (hm : X.mg "zip" = none) (ha : SA X [e, e2] m) (hs : starEach [e, e2] X.env = (false, eval e X.env) :: starEach [e2] X.env := by rfl) (hpl : (backTo pos (starEach [e2] X.env)).any (·.1) = false := by rfl) : SI X (.Tuple elts kk tpos) (.Call (.Name "zip" p) [e, e2] [] pos) (iZipZ m) := PI.imp (pi_zip hg hm ha hs hpl) fun σ H Q h => by
  obtain ⟨ι, σ0, G, it, G1, rfl, so, R, e, p⟩ := h
  obtain ⟨⟨xs, G2⟩, e1, e⟩ := bnd e
  refine ⟨ι, σ0, G, xs, G2, rfl, so, R, e1, fun ι1 H1 a1 R1 l1 k1 => ?_⟩
  dsimp only at e
  split at e
  · split at e
    · rename_i q1 q2
      cases e
      exact ⟨_, _, _, _, rfl, R1.lstS q1, R1.lstS q2, p ι1 H1 a1 R1 l1 _ (itZ_ok (lt_of_get q1) (lt_of_get q2))⟩
    · cases e
  · cases e
end
end Zl

/-! Zl, part 7: a law's end. -/
namespace Zl
open PySem PySem.Spec L2
open PyProof.Rows hiding St

/-- the script as the only thing of the plain heap -/
def G0 (ns : List Int) : Hz := [.fz (ns.map V.int)]
theorem rel0 {K : PySem.W.Frag} {H : Hp} {a : Addr} {ns : List Int} (h : (∃ ob, H a = some (.frz ob (.lst (ns.map V.int)))) ∨ KL K a (ns.map V.int)) : Rel K (fun _ => a) (G0 ns) H := by
  refine ⟨fun i o e => ?_, fun i j o u e1 e2 n1 n2 _ => ?_, fun i o e => ?_⟩
  · cases i with
    | zero =>
      cases e
      show (∃ ob, H a = some (.frz ob (.lst ((ns.map V.int).map (mv _))))) ∨ KL K a ((ns.map V.int).map (mv _))
      rw [ints_mv]
      exact h
    | succ i => cases e
  · cases i with
    | zero => cases e1; cases n1
    | succ i => cases e1
  · cases i with
    | zero => cases e; exact ints_ok ns
    | succ i => cases e
/-- the law's def, called by the claim -/
theorem law_callZ {P : Program} {w : World} {K : PySem.W.Frag} {mg mb : Str → Option Value} {k : Nat} {fa a : Addr} {fd : FuncData} {x : Str} {m : FL} {s₁ : Shared} {vs : List Value} {ns : List Int} {G' : Hz}
    (KX : K.In s₁.heap) (hns : s₁.heap.Ns mainGlobals mg) (hb : s₁.heap.Ns builtinsNs mb) (hbb : ∀ x : Str, x ≠ "__name__" → mb x = bootBuiltins x) (hlim : s₁.heap.NoLimit) (hg : s₁.gens = #[])
    (ha : s₁.heap.get? a = some { cls := .type "list", data := .seq vs.toArray }) (hi : IntsAre vs ns) (hl : ns.length ≤ sizeLine) (hr : Room k callerA)
    (F : ∀ base : Heap, K.In base → base.Ns mainGlobals mg → FnZ P w K mg base k fa fd [x] m) (hbind : ∀ (s : Shared) (u : Value), BindsTo s fd ⟨[u], []⟩ [(x, u)])
    (hm : m [.ref 0] (G0 ns) = some (.bl true, G')) :
    codeAny (model P w) callerA (.call (.ref fa) ⟨[.ref a], []⟩) (fun r s' => r = .ok (.ret (.bool true)) ∧ OldK s₁.heap s'.heap ∧ s'.os = s₁.os ∧ AllBare s'.gens) s₁ := by
  have rv := vals_ints hi
  have lenV := hi.length
  have core : ∀ H : Hp, (∀ b, H b = none ∨ ∃ o xs, H b = some (.frz o (.lst xs))) → ((∃ ob, H a = some (.frz ob (.lst (ns.map V.int)))) ∨ KL K a (ns.map V.int)) → HOk P w H s₁.heap → (∀ b, H b ≠ none → b = a) → (H a ≠ none → K.lookup a = none) →
      codeAny (model P w) callerA (.call (.ref fa) ⟨[.ref a], []⟩) (fun r s' => r = .ok (.ret (.bool true)) ∧ OldK s₁.heap s'.heap ∧ s'.os = s₁.os ∧ AllBare s'.gens) s₁ := by
    intro H hO hS hok hA hK
    have alone : ∀ {b : Addr} {u : HO}, H b = some u → b = a := fun {b u} q => hA b (by rw [q]; simp)
    have noA : ∀ {b : Addr} {o : Obj} {es : Array DictEntry} {ep : Nat}, s₁.heap.get? b = some o → o.data = .dict es ep → H b = none := fun {b o es ep} e d => by
      cases q : H b with
      | none => rfl
      | some u =>
        obtain rfl := alone q
        rw [ha] at e
        cases e
        exact nomatch (show Data.seq vs.toArray _ = Data.dict es ep from d)
    have nsK : ∀ {b : Addr} {m : Str → Option Value}, s₁.heap.Ns b m → (hidT s₁.heap H).Ns b m := fun {b m} ⟨o, es, ep, e, d, r⟩ => ⟨o, es, ep, hidT_get e (noA e d), d, r⟩
    have hKb : K.In (hidT s₁.heap H) := fun b o e => hidT_get (KX b o e) (by
      cases q : H b with
      | none => rfl
      | some u =>
        obtain rfl := alone q
        rw [hK (by rw [q]; simp)] at e
        cases e)
    have hM : Mod K mg (hidT s₁.heap H) := ⟨hKb, nsK hns, ⟨mb, nsK hb, hbb⟩, let ⟨mc, h1, h2⟩ := hlim; ⟨mc, nsK h1, h2⟩⟩
    have none_in : ∀ b : Addr, b ∉ frs [] := fun b z => absurd (show b ∈ ([] : List Addr) from z) (by simp)
    have e0 : Env0 P w K mg (hidT s₁.heap H) callerA [] s₁ H := ⟨rfl, hM, fun b o e => of_hidT e, Nat.le_of_eq (hidT_size _ _), trivial, fun b hb => absurd hb (none_in b), hok, .of_eq hg⟩
    refine codeAny_mono ((F _ hKb (nsK hns)).run callerA [] s₁ H ⟨[.ref a], []⟩ [.ref a] (fun _ => a) (G0 ns) [.ref 0] (.bl true) G' (fun v _ => v = .bl true) hr rfl e0 (hbind s₁ (.ref a)) (.cons rfl .nil) rfl (rel0 hS) rfl hm fun _ _ _ _ _ _ => rfl) fun r s' h => ?_
    cases r with
    | error e => exact h.elim
    | ok fl => cases fl with
      | ret u =>
        obtain ⟨v, H', os, bare, un, hok', r', q⟩ := h
        subst q
        obtain rfl : u = Value.bool true := r'
        refine ⟨rfl, OldK.of_keep fun b o e => ?_, os, bare⟩
        cases q : H b with
        | none => exact un.keep b o e q (none_in b) (by simp)
        | some u =>
          rcases hO b with z | ⟨ob, xs, z⟩
          · rw [q] at z; cases z
          · have z2 := un.frzs b ob _ z
            obtain ⟨e1, _⟩ := hok b _ z
            obtain ⟨e2, _⟩ := hok' b _ z2
            rw [e] at e1
            cases e1
            exact e2
      | _ => exact h.elim
  cases hk : K.lookup a with
  | some o =>
    have e := KX a o hk
    rw [ha] at e
    cases e
    exact core (fun _ => none) (fun _ => .inl rfl) (.inr ⟨_, vs.toArray, _, hk, rfl, rfl, rfl, by rw [List.size_toArray, lenV]; exact hl, by simpa using rv⟩) (fun b u z => nomatch (show (none : Option HO) = some u from z)) (fun b z => absurd rfl z) fun z => absurd rfl z
  | none =>
    have at_a : ∀ {b : Addr} {α : HO}, b = a → (if b = a then some α else none) = some α := fun h => if_pos h
    refine core (fun b => if b = a then some (.frz { cls := .type "list", data := .seq vs.toArray } (.lst (ns.map V.int))) else none) (fun b => ?_) (.inl ⟨_, if_pos rfl⟩) (fun b u z => ?_) (fun b z => ?_) fun _ => hk
    · by_cases hb : b = a
      · exact .inr ⟨_, _, if_pos hb⟩
      · exact .inl (if_neg hb)
    · by_cases hb : b = a
      · cases (if_pos hb).symm.trans z
        subst hb
        exact ⟨ha, by rw [List.length_map]; exact hl, vs, _, rv, ha⟩
      · cases (if_neg hb).symm.trans z
    · by_cases hb : b = a
      · exact hb
      · exact absurd (if_neg hb) z
/-- the goal that k_head leaves, from the meaning of the law's def -/
theorem walk_ofZ {l : PySem.W.OpenLaw} {n k : Nat} {q : Program} {loose : List Str} {XP : (Str → Option Value) → Heap → Prop} {YP : World → Heap → Prop} {d : DefRec} {K : Params → PySem.W.Frag} {m : FL} {x : Str}
    (hn : l.most = some n) (hn2 : n ≤ sizeLine) (hdf : d.params.defaults = []) (hr : Room k callerA)
    (hY : ∀ (w : World) (h : Heap), YP w h → (K w.params).In h)
    (F : ∀ (w : World) (mg : Str → Option Value) (fa : Addr) (h : Heap), (K w.params).In h → h.Ns mainGlobals mg → mg d.name = some (.ref fa) →
      ∃ fd : FuncData, (∀ (s : Shared) (u : Value), BindsTo s fd ⟨[u], []⟩ [(x, u)]) ∧
        ∀ base : Heap, (K w.params).In base → base.Ns mainGlobals mg → FnZ l.prog w (K w.params) mg base k fa fd [x] m)
    (hm : ∀ ns : List Int, ns.length ≤ n → ∃ G', m [.ref 0] (G0 ns) = some (.bl true, G')) :
    PySem.W.WalkO q loose XP YP l.row.toRowW d [] (fun f vs => PySem.call f vs) := by
  refine Att.attach_call hn hdf fun w s₀ s₁ mg mb fa o pm cd doc a vs ns G Y ho hd hcd hmg hobj hints hlen hg => ?_
  have KX := hY w _ Y
  obtain ⟨fd, hb, hF⟩ := F w mg fa _ KX G.T.g hmg
  obtain ⟨G', e⟩ := hm ns hlen
  exact law_callZ KX G.T.g G.T.b G.T.builtins G.T.nolimit hg hobj hints (Nat.le_trans hlen hn2) hr hF hb e
end Zl

/-! Zl, part 8: defs with defaults, constants, the end over a head by facts. -/
namespace Zl
open PySem PySem.Spec L2
open PyProof.Rows hiding St

section
variable {P : Program} {w : World} {K : PySem.W.Frag} {mg : Str → Option Value} {base : Heap}
theorem FnZ.cut {k : Nat} {f : Addr} {fd : FuncData} {ps : List Str} {m : FL} (F : FnZ P w K mg base k f fd ps m) : FnZ P w K mg base k f fd ps (cutF m) := ⟨fun A outer s H args us ι G vs v G' Q hr hG e0 hb r hl R ko e p => by
  obtain ⟨⟨x, G1⟩, e1, e⟩ := bnd e
  refine F.run A outer s H args us ι G vs x G1 Q hr hG e0 hb r hl R ko e1 fun ι1 H1 a1 R1 l1 k1 => ?_
  obtain ⟨ι2, a2, R2, q2, k2, l2⟩ := cut_to R R1 a1 k1 e
  rw [← q2]
  exact p ι2 H1 a2 R2 l2 k2⟩
theorem FunD.okZ {x qual : Str} {params : Arguments} {body : List Stmt} {scope : Scope} {dvs : List V} {kws : List (Str × V)} {f : Addr} {fd : FuncData} {N ps : List Str} {k : Nat} {b : MS} (F : FunD K x qual params body scope dvs kws f fd) (S : FnScope N ps scope)
    (hbody : ∀ (cdv : Value) (A : Around) (outer : List Env) (s : Shared) (H : Hp), Room k (A.deeper (envOfC qual scope s.heap.objs.size f cdv)) → A.guards = some [] → SSs (cxOf CX0 P w K mg base N qual scope f cdv A outer s H E0).nox body b) :
    FnZ P w K mg base (k + 1) f fd ps (runD N.length b) := by
  obtain ⟨oc, od, dV, kV, doc, pm, an, cdv, ct, osl, rfl, lk, hcd, _, _⟩ := F.ex
  exact fnz_of lk hcd S fun A outer s H hr hG => hbody cdv A outer s H hr hG
end

section
variable {X : Cx} {st : Stmt} {rest body : List Stmt} {e a b : Expr} {pos : Pos}
theorem ps_wipe {t : TS} (ds : List Nat) (h : PS X st t) : PS X st (fun D σ H => t { D with nx := fun σ' H' => D.nx (wipe σ' ds) H', ct := fun σ' H' => D.ct (wipe σ' ds) H' } σ H) := by
  refine ⟨fun pins s σ H D I q => thn (h.run pins s σ H _ I q) fun f s1 z => ?_⟩
  cases f with
  | next =>
    obtain ⟨σ', H', I', q'⟩ := z
    exact ⟨_, H', I'.weak (wipe_length _ _) (fun i v e => (wipe_some e).1), q'⟩
  | cont =>
    obtain ⟨σ', H', I', q'⟩ := z
    exact ⟨_, H', I'.weak (wipe_length _ _) (fun i v e => (wipe_some e).1), q'⟩
  | brk => exact z
  | ret v => exact z
theorem s_gc {m : MS} {ds : List Nat} (h : SS X st m) : SS X st (sGc ds m) := PS.imp (ps_wipe ds h) fun D σ H h => by
  obtain ⟨ι, σ0, G, r, rfl, so, R, e, p⟩ := h
  obtain ⟨r1, e1, e⟩ := bnd e
  refine liftS.into so R e1 ?_
  cases r1 with
  | nx σ1 G1 =>
    dsimp only at e
    split at e
    · rename_i z
      cases e
      have len : (G1.take G.length).length = G.length := by rw [List.length_take]; exact Nat.min_eq_left (kept_len z.2)
      intro ι1 H1 a1 R1 l1 k1
      show D.nx (wipe (ms ι1 σ1) ds) H1
      rw [← ms_wipe]
      exact p ι1 H1 a1 (R.cut R1 z.2) (Nat.le_of_eq len.symm) (by rw [len]; exact z.1)
    · cases e
  | ct σ1 G1 =>
    dsimp only at e
    split at e
    · rename_i z
      cases e
      have len : (G1.take G.length).length = G.length := by rw [List.length_take]; exact Nat.min_eq_left (kept_len z.2)
      intro ι1 H1 a1 R1 l1 k1
      show D.ct (wipe (ms ι1 σ1) ds) H1
      rw [← ms_wipe]
      exact p ι1 H1 a1 (R.cut R1 z.2) (Nat.le_of_eq len.symm) (by rw [len]; exact z.1)
    · cases e
  | bk σ1 G1 => cases e; exact p
  | rt v G1 => cases e; exact p
/-- forget slots, no place thrown away -/
def sWipe (ds : List Nat) (b : MS) : MS := fun σ G => (b σ G).bind fun r => match r with
  | .nx σ' G' => some (.nx (wipe σ' ds) G')
  | .ct σ' G' => some (.ct (wipe σ' ds) G')
  | r => some r
theorem ss_wipe {m : MS} {ds : List Nat} (h : SSs X rest m) : SSs X rest (sWipe ds m) := PSs.imp (pss_wipe ds h) fun D σ H h => by
  obtain ⟨ι, σ0, G, r, rfl, so, R, e, p⟩ := h
  obtain ⟨r1, e1, e⟩ := bnd e
  refine liftS.into so R e1 ?_
  cases r1 with
  | nx σ1 G1 =>
    cases e
    intro ι1 H1 a1 R1 l1 k1
    show D.nx (wipe (ms ι1 σ1) ds) H1
    rw [← ms_wipe]
    exact p ι1 H1 a1 R1 l1 (okS_wipe k1 ds)
  | ct σ1 G1 =>
    cases e
    intro ι1 H1 a1 R1 l1 k1
    show D.ct (wipe (ms ι1 σ1) ds) H1
    rw [← ms_wipe]
    exact p ι1 H1 a1 R1 l1 (okS_wipe k1 ds)
  | bk σ1 G1 => cases e; exact p
  | rt v G1 => cases e; exact p
/-! constants -/
def fNeg : F1 := fun x G => match x with
  | .int i => some (.int (-i), G)
  | _ => none
theorem se_neg {m : ME} (h : SE X a m) : SE X (.UnaryOp .USub a pos) (eUn fNeg m) := PE.imp (pe_un un_neg h) fun σ H Q h => by
  obtain ⟨ι, σ0, G, v, G', rfl, so, R, e, p⟩ := h
  obtain ⟨⟨x, G1⟩, e1, e⟩ := bnd e
  refine liftE.into so R e1 fun ι1 H1 a1 R1 l1 k1 => ?_
  unfold fNeg at e
  dsimp only at e
  split at e
  · cases e
    exact ⟨_, rfl, p ι1 H1 a1 R1 l1 rfl⟩
  · cases e
theorem k_neg {i : Int} (h : SE X a (eC (.int i))) : SE X (.UnaryOp .USub a pos) (eC (.int (-i))) := SE.as (se_neg h) fun _ _ => rfl
theorem k_add {i j k : Int} (ha : SE X a (eC (.int i))) (hb : SE X b (eC (.int j))) (q : i + j = k) : SE X (.BinOp a .Add b pos) (eC (.int k)) := SE.as (se_bin z_add ha hb) fun _ _ => by
  subst q
  rfl
theorem k_sub {i j k : Int} (ha : SE X a (eC (.int i))) (hb : SE X b (eC (.int j))) (q : i - j = k) : SE X (.BinOp a .Sub b pos) (eC (.int k)) := SE.as (se_bin z_sub ha hb) fun _ _ => by
  subst q
  rfl
theorem k_mul {i j k : Int} (ha : SE X a (eC (.int i))) (hb : SE X b (eC (.int j))) (hi : smallN i = true) (hj : smallN j = true) (q : i * j = k) : SE X (.BinOp a .Mult b pos) (eC (.int k)) := SE.as (se_bin z_mul ha hb) fun _ _ => by
  subst q
  show (if smallN i = true ∧ smallN j = true then _ else _) = _
  rw [if_pos ⟨hi, hj⟩]
  rfl
theorem k_pow {i j k : Int} (ha : SE X a (eC (.int i))) (hb : SE X b (eC (.int j))) (hi : smallN i = true) (h0 : 0 ≤ j) (h1 : j ≤ 1000) (q : i ^ j.toNat = k) : SE X (.BinOp a .Pow b pos) (eC (.int k)) := SE.as (se_bin z_pow ha hb) fun _ _ => by
  subst q
  show (if smallN i = true ∧ 0 ≤ j ∧ j ≤ 1000 then _ else _) = _
  rw [if_pos ⟨hi, h0, h1⟩]
  rfl
theorem se_gc {x : Str} {v : V} (hg : Gl X x) (h : ∃ u, X.mg x = some u ∧ RelV v u) (k : atomV v = true := by rfl) (hd : (x == ("__debug__" : Str)) = false := by decide) : SE X (.Name x pos) (eC v) := by
  obtain ⟨u, h1, h2⟩ := h
  exact se_c (pe_glob hg h1 h2 hd) k
theorem int_rel {mg : Str → Option Value} {x : Str} {i : Int} (h : ∃ t, mg x = some (.int i t)) : ∃ u, mg x = some u ∧ RelV (.int i) u := by
  obtain ⟨t, h⟩ := h
  exact ⟨_, h, t, rfl⟩
theorem str_rel {mg : Str → Option Value} {x z : Str} (h : ∃ t, mg x = some (.str z t)) : ∃ u, mg x = some u ∧ RelV (.str z) u := by
  obtain ⟨t, h⟩ := h
  exact ⟨_, h, t, rfl⟩
theorem se_ty {x : Str} {n : String} (hg : Gl X x) (hm : X.mg x = none) (hv : bootBuiltins x = some (.type n)) (hn : x ≠ "__name__" := by decide) (hd : (x == ("__debug__" : Str)) = false := by decide) : SE X (.Name x pos) (eC (.ty n)) := se_c (pe_bltn hg hm hv rfl hn hd)
def iListZ (m : ME) : MI := fun σ G => (m σ G).bind fun p => match p.1 with
    | .ref a => match p.2[a]? with
      | some (.lst _) => some (itL a, p.2)
      | some (.fz _) => some (itL a, p.2)
      | _ => none
    | _ => none
theorem i_listZ {tg : Expr} {m : ME} (h : SE X e m) : SI X tg e (iListZ m) := i_list h
end
/-- the turns of a loop, at most -/
@[irreducible] def fuelN : Nat := 100000
theorem lt_fuel {n : Nat} (h : n < 100000) : n < fuelN := by
  unfold fuelN
  exact h
/-- the goal that a head by facts leaves -/
theorem walk_ofZE {l : PySem.W.OpenLaw} {n k : Nat} {q : Program} {loose : List Str} {XP : (Str → Option Value) → Heap → Prop} {YP : World → Heap → Prop} {d : DefRec} {m : FL} {x : Str}
    (hn : l.most = some n) (hn2 : n ≤ sizeLine) (hdf : d.params.defaults = []) (hr : Room k callerA)
    (F : ∀ (w : World) (mg : Str → Option Value) (fa : Addr) (h : Heap), YP w h → h.Ns mainGlobals mg → mg d.name = some (.ref fa) →
      ∃ (K : PySem.W.Frag) (fd : FuncData), K.In h ∧ (∀ (s : Shared) (u : Value), BindsTo s fd ⟨[u], []⟩ [(x, u)]) ∧
        ∀ base : Heap, K.In base → base.Ns mainGlobals mg → FnZ l.prog w K mg base k fa fd [x] m)
    (hm : ∀ ns : List Int, ns.length ≤ n → ∃ G', m [.ref 0] (G0 ns) = some (.bl true, G')) :
    PySem.W.WalkO q loose XP YP l.row.toRowW d [] (fun f vs => PySem.call f vs) := by
  refine Att.attach_call hn hdf fun w s₀ s₁ mg mb fa o pm cd doc a vs ns G Y ho hd hcd hmg hobj hints hlen hg => ?_
  obtain ⟨K, fd, KX, hb, hF⟩ := F w mg fa _ Y G.T.g hmg
  obtain ⟨G', e⟩ := hm ns hlen
  exact law_callZ KX G.T.g G.T.b G.T.builtins G.T.nolimit hg hobj hints (Nat.le_trans hlen hn2) hr hF hb e
end Zl

/-! Zl, part 12: is of bools, list(range(..)), xs[::-1], dicts. -/
namespace Zl
open PySem PySem.Spec L2
open PyProof.Rows hiding St

section
variable {X : Cx} {e a b o i f : Expr} {pos : Pos}
/-! ### is, is not of bools -/
def cIsB : F2 := fun x y G => match x, y with
  | .bl i, .bl j => some (.bl (decide (i = j)), G)
  | _, _ => none
def cNotB : F2 := fun x y G => match x, y with
  | .bl i, .bl j => some (.bl (!decide (i = j)), G)
  | _, _ => none
theorem z_isB : OpZ X (compareOp .Is) cIsB := by
  refine ⟨_, op_isBl, fun ι G H x y v G' Q R kx ky e p => ?_⟩
  unfold cIsB at e
  split at e
  · cases e
    exact ⟨_, _, rfl, rfl, p.same R rfl⟩
  · cases e
theorem z_notB : OpZ X (compareOp .IsNot) cNotB := by
  refine ⟨_, op_notBl, fun ι G H x y v G' Q R kx ky e p => ?_⟩
  unfold cNotB at e
  split at e
  · cases e
    exact ⟨_, _, rfl, rfl, p.same R rfl⟩
  · cases e
/-! ### list(range(..)) -/
def okRg (i j : Int) : Bool := small62 i && small62 j && decide ((j - i).toNat ≤ 2 ^ 24)
theorem okRg_of {i j : Int} (h : okRg i j = true) : RgOk i j := by
  unfold okRg at h
  rw [Bool.and_eq_true, Bool.and_eq_true] at h
  have h1 := small62_of h.1.1
  have h2 := small62_of h.1.2
  exact ⟨h1.1, h1.2, h2.1, h2.2, of_decide_eq_true h.2⟩
def lrg (i j : Int) (G : Hz) : Option (V × Hz) := if okRg i j = true then alloc (.lst (rgV i j)) G else none
def eListR1 (a : ME) : ME := fun σ G => (a σ G).bind fun p => match p.1 with
  | .int n => lrg 0 n p.2
  | _ => none
def eListR2 (a b : ME) : ME := fun σ G => (a σ G).bind fun p => (b σ p.2).bind fun q => match p.1, q.1 with
  | .int i, .int j => lrg i j q.2
  | _, _ => none
theorem rgV_mv {ι : Nat → Addr} (i j : Int) : (rgV i j).map (mv ι) = rgV i j := by
  unfold rgV
  rw [List.map_map]
  rfl
theorem rgV_ok {n : Nat} (i j : Int) : (rgV i j).all (okV n) = true := List.all_eq_true.mpr fun v hv => by
  unfold rgV at hv
  obtain ⟨k, _, rfl⟩ := List.mem_map.mp hv
  rfl
theorem lrg_of {K : PySem.W.Frag} {ι : Nat → Addr} {G G' : Hz} {H : Hp} {v : V} {i j : Int} {Q : VK} (R : Rel K ι G H) (e : lrg i j G = some (v, G')) (p : Pz K ι G.length v G' Q) : RgOk i j ∧ ∀ q, H q = none → Q (.ref q) (upd H q (.lst (rgV i j))) := by
  unfold lrg at e
  split at e
  · rename_i z
    refine ⟨okRg_of z, fun q hq => ?_⟩
    have := Pz.alloc (o := .lst (rgV i j)) R (rgV_ok i j) rfl e p q hq
    rw [show O.ho ι (.lst (rgV i j)) = .lst (rgV i j) from congrArg HO.lst (rgV_mv i j)] at this
    exact this
  · cases e
theorem se_listR1 {m : ME} {p pos p2 pos2 : Pos} (hg : Gl X "list") (hm : X.mg "list" = none) (hg2 : Gl X "range") (hm2 : X.mg "range" = none) (h : SE X a m) (hc : X.calm = true := by rfl)
    (na : starEach [a] X.env = (false, eval a X.env) :: starEach [] X.env := by rfl) (nb : starEach [.Call (.Name "range" p2) [a] [] pos2] X.env = (false, eval (.Call (.Name "range" p2) [a] [] pos2) X.env) :: starEach [] X.env := by rfl) :
    SE X (.Call (.Name "list" p) [.Call (.Name "range" p2) [a] [] pos2] [] pos) (eListR1 m) := by
  refine PE.imp (pe_listRg hc hg hm (prg_1 hg2 hm2 h na) nb) fun σ H Q h => ?_
  obtain ⟨ι, σ0, G, v, G', rfl, so, R, e, pz⟩ := h
  obtain ⟨⟨x, G1⟩, e1, e⟩ := bnd e
  refine liftE.into so R e1 fun ι1 H1 a1 R1 l1 k1 => ?_
  cases x with
  | int n => exact ⟨n, rfl, lrg_of R1 e (pz.from a1 l1)⟩
  | _ => cases e
theorem se_listR2 {m m' : ME} {p pos p2 pos2 : Pos} (hg : Gl X "list") (hm : X.mg "list" = none) (hg2 : Gl X "range") (hm2 : X.mg "range" = none) (h : SE X a m) (h' : SE X b m') (hc : X.calm = true := by rfl)
    (na : starEach [a, b] X.env = (false, eval a X.env) :: starEach [b] X.env := by rfl) (nb : starEach [b] X.env = (false, eval b X.env) :: starEach [] X.env := by rfl) (hp : (backTo pos2 (starEach [b] X.env)).any (·.1) = false := by rfl)
    (nc : starEach [.Call (.Name "range" p2) [a, b] [] pos2] X.env = (false, eval (.Call (.Name "range" p2) [a, b] [] pos2) X.env) :: starEach [] X.env := by rfl) :
    SE X (.Call (.Name "list" p) [.Call (.Name "range" p2) [a, b] [] pos2] [] pos) (eListR2 m m') := by
  refine PE.imp (pe_listRg hc hg hm (prg_2 hg2 hm2 h h' na nb hp) nc) fun σ H Q h => ?_
  obtain ⟨ι, σ0, G, v, G', rfl, so, R, e, pz⟩ := h
  obtain ⟨⟨x, G1⟩, e1, e⟩ := bnd e
  obtain ⟨⟨y, G2⟩, e2, e⟩ := bnd e
  refine liftE.into so R e1 fun ι1 H1 a1 R1 l1 k1 => ?_
  rw [ms_agr a1 so]
  refine liftE.into (okS_mono l1 so) R1 e2 fun ι2 H2 a2 R2 l2 k2 => ?_
  cases x with
  | int n => cases y with
    | int k => exact ⟨n, k, rfl, rfl, lrg_of R2 e (pz.from (a1.trans a2 l1) (Nat.le_trans l1 l2))⟩
    | _ => cases e
  | _ => cases e
/-! ### xs[::-1] -/
def fRev : F1 := fun x G => match x with
  | .ref a => match G[a]? with
    | some (.lst xs) => alloc (.lst xs.reverse) G
    | _ => none
  | _ => none
theorem se_revL {m : ME} {k : Nat} {p1 p2 p3 : Pos} (h : SE X a m) : SE X (.Subscript a (.Slice none none (some (.UnaryOp .USub (.Constant (.int 1) k p1) p2)) p3) pos) (eUn fRev m) := by
  refine PE.imp (pe_revL h) fun σ H Q h => ?_
  obtain ⟨ι, σ0, G, v, G', rfl, so, R, e, pz⟩ := h
  obtain ⟨⟨x, G1⟩, e1, e⟩ := bnd e
  refine liftE.into so R e1 fun ι1 H1 a1 R1 l1 k1 => ?_
  unfold fRev at e
  dsimp only at e
  split at e
  · split at e
    · rename_i q
      refine ⟨_, _, rfl, R1.lstS q, ?_⟩
      rw [← List.map_reverse]
      exact Pz.alloc (o := .lst _) R1 (all_sub (R1.okl q) fun v hv => List.mem_reverse.mp hv) rfl e (pz.from a1 l1)
    · cases e
  · cases e
/-! ### dicts -/
def eDct0 : ME := fun _ G => alloc (.dK []) G
theorem se_dct0 : SE X (.Dict [] [] pos) eDct0 := PE.imp pe_dnewK fun σ H Q h => by
  obtain ⟨ι, σ0, G, v, G', rfl, so, R, e, pz⟩ := h
  exact Pz.alloc (o := .dK []) R rfl rfl e pz
theorem okK {n : Nat} {kvs : List (Key × V)} {k : Key} {v : V} (h : okO n (.dK kvs) = true) (e : valV kvs k = some v) : okV n v = true := by
  unfold valV at e
  obtain ⟨p, e1, rfl⟩ := Option.map_eq_some_iff.mp e
  exact List.all_eq_true.mp h p (List.mem_of_find?_eq_some e1)
/-- d[k], k an int or a text -/
def xDK : F2 := fun x y G => match x with
  | .ref a => match G[a]? with
    | some (.dK kvs) => (keyOf y).bind fun k => (valV kvs k).bind fun v => some (v, G)
    | _ => none
  | _ => none
theorem se_dget {mo mi : ME} (hu : X.A.units + 1 < cLine) (ho : SE X o mo) (hi : SE X i mi) (hs : NoSl i) : SE X (.Subscript o i pos) (eBin xDK mo mi) := by
  refine PE.imp (pe_dget hu ho hi hs) fun σ H Q h => ?_
  obtain ⟨ι, σ0, G, v, G', rfl, so, R, e, p⟩ := h
  refine two (r := fun x y H2 Q => ∃ a v, x = .ref a ∧ DGet H2 a y (some v) ∧ Q v H2) so R e p fun ι G H x y v G' Q R kx ky e p => ?_
  unfold xDK at e
  split at e
  · split at e
    · rename_i q
      obtain ⟨k, e1, e⟩ := bnd e
      obtain ⟨w, e2, e⟩ := bnd e
      cases e
      refine ⟨_, mv ι v, rfl, ?_, p.same R (okK (R.ok _ _ q) e2)⟩
      have := DGet.k (k := k) (R.dkM q)
      rw [valV_mv, e2] at this
      rw [keyOf_mv e1]
      exact this
    · cases e
  · cases e
theorem putK_mv {ι : Nat → Addr} {kvs : List (Key × V)} {k : Key} {v : V} : (putK kvs k v).map (fun p => (p.1, mv ι p.2)) = putK (kvs.map fun p => (p.1, mv ι p.2)) k (mv ι v) := by
  unfold putK
  have e : ((kvs.map fun p => (p.1, mv ι p.2)).any fun kv => decide (kv.1 = k)) = kvs.any fun kv => decide (kv.1 = k) := by
    rw [List.any_map]
    rfl
  rw [e]
  split
  · rw [List.map_map, List.map_map]
    refine List.map_congr_left fun p hp => ?_
    by_cases z : p.1 = k <;> simp [z]
  · rw [List.map_append]
    rfl
theorem putK_ok {n : Nat} {kvs : List (Key × V)} {k : Key} {v : V} (h : okO n (.dK kvs) = true) (hv : okV n v = true) : okO n (.dK (putK kvs k v)) = true := by
  refine List.all_eq_true.mpr fun p hp => ?_
  unfold putK at hp
  split at hp
  · obtain ⟨q, hq, rfl⟩ := List.mem_map.mp hp
    split
    · exact hv
    · exact List.all_eq_true.mp h q hq
  · rcases List.mem_append.mp hp with hp | hp
    · exact List.all_eq_true.mp h p hp
    · cases List.mem_singleton.mp hp
      exact hv
def pDct : V → V → V → Hz → Option Hz := fun o i v G => match o with
  | .ref a => match G[a]? with
    | some (.dK kvs) => (keyOf i).bind fun k => if kvs.length < sizeLine then some (G.set a (.dK (putK kvs k v))) else none
    | _ => none
  | _ => none
theorem z_putD (hu : X.A.units + 1 < cLine) : PutZ X pDct := by
  refine ⟨_, set_dict hu, fun ι G H o i v G' Q R ko ki kv e p => ?_⟩
  unfold pDct at e
  split at e
  · split at e
    · rename_i q
      obtain ⟨k, e1, e⟩ := bnd e
      split at e
      · rename_i z
        cases e
        have h1 := putK_ok (k := k) (R.ok _ _ q) kv
        have h2 := R.put (o' := .dK (putK _ k v)) q rfl h1 rfl
        refine ⟨_, _, rfl, by rw [keyOf_mv e1]; exact DPut.k (R.dkM q) (by rw [List.length_map]; exact z), ?_⟩
        rw [← putK_mv]
        exact p ι _ .refl h2 (by rw [List.length_set]; exact Nat.le_refl _)
      · cases e
    · cases e
  · cases e
/-- d.get(k, x) -/
def eGet2 (mo mk mx : ME) : ME := fun σ G => (mo σ G).bind fun p => match p.1 with
  | .ref a => match p.2[a]? with
    | some (.dK _) => (mk σ p.2).bind fun q => (mx σ q.2).bind fun r => match r.2[a]? with
      | some (.dK kvs) => (keyOf q.1).bind fun k => some ((valV kvs k).getD r.1, r.2)
      | _ => none
    | _ => none
  | _ => none
theorem se_get2 {mo mk mx : ME} {apos cpos : Pos} (hu : X.A.units + 1 < cLine) (ho : SE X o mo) (he : SE X e mk) (hf : SE X f mx) (m : M2 X o "get" apos e f cpos) : SE X (.Call (.Attribute o "get" apos) [e, f] [] cpos) (eGet2 mo mk mx) := by
  refine PE.imp (pe_dget2 hu ho he hf m) fun σ H Q h => ?_
  obtain ⟨ι, σ0, G, v, G', rfl, so, R, e, p⟩ := h
  obtain ⟨⟨x, G1⟩, e1, e⟩ := bnd e
  refine liftE.into so R e1 fun ι1 H1 a1 R1 l1 k1 => ?_
  dsimp only at e
  split at e
  · rename_i a
    split at e
    · rename_i q1
      obtain ⟨⟨y, G2⟩, e2, e⟩ := bnd e
      obtain ⟨⟨z, G3⟩, e3, e⟩ := bnd e
      refine ⟨_, rfl, .inl ⟨_, .inl (R1.dkM q1)⟩, ?_⟩
      rw [ms_agr a1 so]
      refine liftE.into (okS_mono l1 so) R1 e2 fun ι2 H2 a2 R2 l2 k2 => ?_
      rw [ms_agr a2 (okS_mono l1 so)]
      refine liftE.into (okS_mono l2 (okS_mono l1 so)) R2 e3 fun ι3 H3 a3 R3 l3 k3 => ?_
      dsimp only at e
      split at e
      · rename_i kvs q3
        obtain ⟨k, ek, e⟩ := bnd e
        cases e
        have aa : Agr G1.length ι1 ι3 := a2.trans a3 l2
        have ea : ι1 a = ι3 a := aa a (of_decide_eq_true k1)
        refine ⟨(valV kvs k).map (mv ι3), ?_, ?_⟩
        · rw [mv_agr a3 k2, keyOf_mv ek, ea, ← valV_mv]
          exact DGet.k (R3.dkM q3)
        · have pp := p ι3 H3 (a1.trans aa l1) R3 (Nat.le_trans l1 (Nat.le_trans l2 l3))
          cases w : valV kvs k with
          | none =>
            rw [w] at pp
            exact pp k3
          | some u =>
            rw [w] at pp
            exact pp (okK (R3.ok _ _ q3) w)
      · cases e
    · cases e
  · cases e
end
end Zl

/-! Zl, part 13: comprehensions with two for, dict comprehensions, dict(pairs). -/
namespace Zl
open PySem PySem.Spec L2
open PyProof.Rows hiding St

section
variable {X : Cx} {elt tg iter tg1 iter1 kx vx : Expr} {ifs ifs1 : List Expr} {scope : Scope} {own : List (Str × Nat)} {pos : Pos} {w w1 : MI} {g g1 : MG} {t t1 : MT} {te tk : ME} {n : Nat} {cm : Bool} {vs1 : List Nat}
/-! ### two for -/
def turn2 (n : Nat) (cm : Bool) (g : MG) (t : MT) (w1 : MI) (vs1 : List Nat) (g1 : MG) (t1 : MT) (e : ME) (D : Nat) (σ : St) (x : V) (G G1 : Hz) : Option Hz :=
  (g x σ G1).bind fun p => (t p.1 p.2).bind fun q => if q.1 = true then (w1 p.1 q.2).bind fun r => loopC r.1 (turnC cm g1 t1 e D (wipe p.1 vs1)) n 0 r.2 else some q.2
def eComp2 (n : Nat) (cm : Bool) (w : MI) (vs : List Nat) (g : MG) (t : MT) (w1 : MI) (vs1 : List Nat) (g1 : MG) (t1 : MT) (e : ME) : ME := fun σ G => (w σ G).bind fun p =>
  (loopC p.1 (turn2 n cm g t w1 vs1 g1 t1 e p.2.length (wipe σ vs)) n 0 (p.2 ++ [.lst []])).bind fun G' => some (.ref p.2.length, G')
theorem comp2_lift (gw : GW (own.map (·.2)) g) (gw1 : GW vs1 g1) {σ : L2.St} {H : Hp} {Q : VK} (h : liftE X.K (eComp2 n cm w (own.map (·.2)) g t w1 vs1 g1 t1 te) σ H Q) :
    tLc2 (liftI X.K w) (liftG X.K g) (liftB X.K t) (liftI X.K w1) (liftG X.K g1) (liftB X.K t1) (liftE X.K te) (own.map (·.2)) vs1 σ H Q := by
  generalize own.map (·.2) = vs at gw h ⊢
  obtain ⟨ι, σ0, G, v, G', rfl, so, R, e, p⟩ := h
  obtain ⟨⟨it, G1⟩, e1, e⟩ := bnd e
  obtain ⟨G2, e2, e⟩ := bnd e
  cases e
  refine ⟨ι, σ0, G, it, G1, rfl, so, R, e1, fun ι1 H1 a1 R1 l1 J hJ D hD => ?_⟩
  have R2 := R1.new (o := .lst []) rfl rfl hD
  refine ⟨fun i f H => ∃ (ι' : Nat → Addr) (Gi : Hz), Rel X.K ι' Gi H ∧ Agr (G1.length + 1) (ext ι1 G1.length D) ι' ∧ G1.length + 1 ≤ Gi.length ∧ loopC it (turn2 n cm g t w1 vs1 g1 t1 te G1.length (wipe σ0 vs)) f i Gi = some G', ?_, ?_⟩
  · exact ⟨n, _, _, R2, .refl, by simp, e2⟩
  · rintro i f H ⟨ι', Gi, Ri, ai, li, ei⟩
    have a1i : Agr G1.length ι1 ι' := ext_agr.trans (ai.mono (Nat.le_succ _)) (Nat.le_refl _)
    have l1i : G1.length ≤ Gi.length := Nat.le_trans (Nat.le_succ _) li
    have eD : ι' G1.length = D := (ai _ (Nat.lt_succ_self _)).symm.trans ext_self
    cases f with
    | zero => cases ei
    | succ f =>
      obtain ⟨hstop, hgo⟩ := hJ ι' Gi H i a1i l1i Ri
      unfold loopC at ei
      cases q : it i Gi with
      | none => rw [q] at ei; cases ei
      | some o =>
        rw [q] at ei
        cases o with
        | none =>
          cases ei
          refine .inl ⟨hstop q, ?_⟩
          have := p ι' H (a1.trans a1i l1) Ri (Nat.le_trans l1 l1i) (decide_eq_true li)
          rw [show mv ι' (.ref G1.length) = .ref D from congrArg V.ref eD] at this
          exact this
        | some xg =>
          obtain ⟨x, G3⟩ := xg
          obtain ⟨go, hy⟩ := hgo x G3 q
          obtain ⟨G4, e4, ei⟩ := bnd ei
          refine .inr ⟨go, fun H' => ∃ m', m' < f + 1 ∧ ∃ (ι' : Nat → Addr) (Gi : Hz), Rel X.K ι' Gi H' ∧ Agr (G1.length + 1) (ext ι1 G1.length D) ι' ∧ G1.length + 1 ≤ Gi.length ∧ loopC it (turn2 n cm g t w1 vs1 g1 t1 te G1.length (wipe σ0 vs)) m' (i + 1) Gi = some G', fun H' z => z, fun y H2 yy => ?_⟩
          obtain ⟨ι2, a2, Rx, rfl, k2, l2⟩ := hy y H2 yy
          have soI : okS Gi.length (wipe σ0 vs) = true := okS_wipe (okS_mono (Nat.le_trans l1 l1i) so) _
          rw [ms_agr (a1.trans a1i l1) so, ← ms_wipe, ms_agr a2 soI]
          obtain ⟨⟨σ2, Ga⟩, g1e, e4⟩ := bnd e4
          obtain ⟨⟨k, Gb⟩, g2e, e4⟩ := bnd e4
          have nxt : ∀ (ι3 : Nat → Addr) (H3 : Hp), Agr Gi.length ι' ι3 → Rel X.K ι3 G4 H3 → Gi.length ≤ G4.length → ∃ m', m' < f + 1 ∧ ∃ (ι' : Nat → Addr) (Gi : Hz), Rel X.K ι' Gi H3 ∧ Agr (G1.length + 1) (ext ι1 G1.length D) ι' ∧ G1.length + 1 ≤ Gi.length ∧ loopC it (turn2 n cm g t w1 vs1 g1 t1 te G1.length (wipe σ0 vs)) m' (i + 1) Gi = some G' :=
            fun ι3 H3 a3 R3 l3 => ⟨f, Nat.lt_succ_self f, ι3, G4, R3, ai.trans a3 li, Nat.le_trans li l3, ei⟩
          refine ⟨ι2, x, wipe σ0 vs, G3, σ2, Ga, rfl, k2, rfl, okS_mono l2 soI, Rx, g1e, fun ι3 H3 a3 R3 l3 k3 => ⟨?_, ?_⟩⟩
          · rw [← ms_wipe, gw _ _ _ _ _ g1e, ms_agr a3 (okS_mono l2 soI), wipe_wipe]
          · have a23 : Agr Gi.length ι' ι3 := a2.trans a3 l2
            have l23 : Gi.length ≤ Ga.length := Nat.le_trans l2 l3
            refine ⟨ι3, σ2, Ga, k, Gb, rfl, k3, R3, g2e, fun ι4 H4 a4 R4 l4 => ?_⟩
            have a24 := a23.trans a4 l23
            have l24 := Nat.le_trans l23 l4
            rw [ms_agr a4 k3]
            cases k with
            | false =>
              dsimp only at e4 ⊢
              rw [if_neg Bool.false_ne_true] at e4 ⊢
              cases e4
              exact nxt ι4 H4 a24 R4 l24
            | true =>
              dsimp only at e4 ⊢
              rw [if_pos rfl] at e4 ⊢
              obtain ⟨⟨it1, Gc⟩, w1e, e4⟩ := bnd e4
              refine ⟨ι4, σ2, Gb, it1, Gc, rfl, okS_mono l4 k3, R4, w1e, fun ι5 H5 a5 R5 l5 J1 hJ1 => ?_⟩
              have so5 : okS Gc.length σ2 = true := okS_mono (Nat.le_trans l4 l5) k3
              refine ⟨fun j f H => ∃ (ι' : Nat → Addr) (Gj : Hz), Rel X.K ι' Gj H ∧ Agr Gc.length ι5 ι' ∧ Gc.length ≤ Gj.length ∧ loopC it1 (turnC cm g1 t1 te G1.length (wipe σ2 vs1)) f j Gj = some G4, ⟨n, ι5, Gc, R5, .refl, Nat.le_refl _, e4⟩, ?_⟩
              rintro j f1 H ⟨ι6, Gj, Rj, aj, lj, ej⟩
              have a26 : Agr Gi.length ι' ι6 := (a24.trans a5 l24).trans aj (Nat.le_trans l24 l5)
              have l26 : Gi.length ≤ Gj.length := Nat.le_trans (Nat.le_trans l24 l5) lj
              cases f1 with
              | zero => cases ej
              | succ f1 =>
                obtain ⟨hstop1, hgo1⟩ := hJ1 ι6 Gj H j aj lj Rj
                unfold loopC at ej
                cases q1 : it1 j Gj with
                | none => rw [q1] at ej; cases ej
                | some o1 =>
                  rw [q1] at ej
                  cases o1 with
                  | none =>
                    cases ej
                    exact .inl ⟨hstop1 q1, nxt ι6 H a26 Rj l26⟩
                  | some xg1 =>
                    obtain ⟨x1, G5⟩ := xg1
                    obtain ⟨go1, hy1⟩ := hgo1 x1 G5 q1
                    obtain ⟨G6, e6, ej⟩ := bnd ej
                    refine .inr ⟨go1, _, fun H' z => ⟨f1, Nat.lt_succ_self f1, z⟩, fun y1 H6 yy1 => ?_⟩
                    obtain ⟨ι7, a7, Rx1, rfl, k7, l7⟩ := hy1 y1 H6 yy1
                    have eD1 : ι6 G1.length = D := by
                      rw [← a26 _ (Nat.lt_of_lt_of_le (Nat.lt_succ_self _) li)]
                      exact eD
                    have aa : Agr Gb.length ι4 ι6 := a5.trans aj l5
                    rw [ms_agr aa (okS_mono l4 k3), ← eD1]
                    refine turn_of Rj Rx1 a7 l7 (okS_wipe (okS_mono lj so5) _) k7 (Nat.lt_of_lt_of_le (Nat.lt_succ_self _) (Nat.le_trans li l26)) gw1 e6 fun ι8 H8 a8 R8 l8 => ?_
                    exact ⟨ι8, G6, R8, aj.trans a8 lj, Nat.le_trans lj l8, ej⟩
theorem se_comp2 (hc : X.calm = true) (hN : X.N.Nodup) (hi : SI X tg iter w) (ok : BlkOk X.N X.env.scope scope own) (hv : ∀ i ∈ vs1, i ∈ own.map (·.2)) (gw : GW (own.map (·.2)) g) (gw1 : GW vs1 g1)
    (hg : ∀ (s : Shared) (H : Hp) (C : Addr) (cl : List (Str × Addr)) (fp : List Addr), SG (X.blk s H scope (compEnvC scope cl C X.env) fp) tg g) (ht : ∀ (s : Shared) (H : Hp) (C : Addr) (cl : List (Str × Addr)) (fp : List Addr), STs (X.blk s H scope (compEnvC scope cl C X.env) fp) ifs t)
    (hi1 : ∀ (s : Shared) (H : Hp) (C : Addr) (cl : List (Str × Addr)) (fp : List Addr), SI (X.blk s H scope (compEnvC scope cl C X.env) fp) tg1 iter1 w1)
    (hg1 : ∀ (s : Shared) (H : Hp) (C : Addr) (cl : List (Str × Addr)) (fp : List Addr), SG (X.blk s H scope (compEnvC scope cl C X.env) fp) tg1 g1) (ht1 : ∀ (s : Shared) (H : Hp) (C : Addr) (cl : List (Str × Addr)) (fp : List Addr), STs (X.blk s H scope (compEnvC scope cl C X.env) fp) ifs1 t1)
    (he : ∀ (s : Shared) (H : Hp) (C : Addr) (cl : List (Str × Addr)) (fp : List Addr), SE (X.blk s H scope (compEnvC scope cl C X.env) fp) elt te) (hs : ∀ x, foldedSetIterable iter X.env x = pure x := by intro _; rfl) (hs1 : ∀ env x, foldedSetIterable iter1 env x = pure x := by intro _ _; rfl) :
    SE X (.ListComp elt [⟨tg, iter, ifs, 0⟩, ⟨tg1, iter1, ifs1, 0⟩] scope pos) (eComp2 n cm w (own.map (·.2)) g t w1 vs1 g1 t1 te) :=
  PE.imp (pe_lc2 (g := liftG X.K g) (tt := liftB X.K t) (wi1 := liftI X.K w1) (g1 := liftG X.K g1) (tt1 := liftB X.K t1) (te := liftE X.K te) hc hN hi ok hv hg ht hi1 hg1 ht1 he hs hs1) fun _ _ _ h => comp2_lift gw gw1 h
theorem s_setComp2 {i : Nat} {y : Str} {py : Pos} {spos : Pos} (hc : X.calm = true) (hN : X.N.Nodup) (hy : X.N[i]? = some y) (hyl : X.env.scope.names.lookup y = some .local)
    (hsw : swapsWith (.ListComp elt [⟨tg, iter, ifs, 0⟩, ⟨tg1, iter1, ifs1, 0⟩] scope pos) (some (.Name y py)) spos.line X.env = pure true) (hi : SI X tg iter w) (ok : BlkOk X.N X.env.scope scope own) (hv : ∀ i ∈ vs1, i ∈ own.map (·.2)) (gw : GW (own.map (·.2)) g) (gw1 : GW vs1 g1)
    (hg : ∀ (s : Shared) (H : Hp) (C : Addr) (cl : List (Str × Addr)) (fp : List Addr), SG (X.blk s H scope (compEnvC scope cl C X.env) fp) tg g) (ht : ∀ (s : Shared) (H : Hp) (C : Addr) (cl : List (Str × Addr)) (fp : List Addr), STs (X.blk s H scope (compEnvC scope cl C X.env) fp) ifs t)
    (hi1 : ∀ (s : Shared) (H : Hp) (C : Addr) (cl : List (Str × Addr)) (fp : List Addr), SI (X.blk s H scope (compEnvC scope cl C X.env) fp) tg1 iter1 w1)
    (hg1 : ∀ (s : Shared) (H : Hp) (C : Addr) (cl : List (Str × Addr)) (fp : List Addr), SG (X.blk s H scope (compEnvC scope cl C X.env) fp) tg1 g1) (ht1 : ∀ (s : Shared) (H : Hp) (C : Addr) (cl : List (Str × Addr)) (fp : List Addr), STs (X.blk s H scope (compEnvC scope cl C X.env) fp) ifs1 t1)
    (he : ∀ (s : Shared) (H : Hp) (C : Addr) (cl : List (Str × Addr)) (fp : List Addr), SE (X.blk s H scope (compEnvC scope cl C X.env) fp) elt te) (hs : ∀ x, foldedSetIterable iter X.env x = pure x := by intro _; rfl) (hs1 : ∀ env x, foldedSetIterable iter1 env x = pure x := by intro _ _; rfl) :
    SS X (.Assign [.Name y py] (.ListComp elt [⟨tg, iter, ifs, 0⟩, ⟨tg1, iter1, ifs1, 0⟩] scope pos) spos) (sAsg (eComp2 n cm w (own.map (·.2)) g t w1 vs1 g1 t1 te) (gSet i)) :=
  setLc_of (ps_setLc2 (g := liftG X.K g) (tt := liftB X.K t) (wi1 := liftI X.K w1) (g1 := liftG X.K g1) (tt1 := liftB X.K t1) (te := liftE X.K te) hc hN hy hyl hsw hi ok hv hg ht hi1 hg1 ht1 he hs hs1) fun _ _ _ h => comp2_lift gw gw1 h
/-! ### dict comprehensions -/
def turnD (cm : Bool) (g : MG) (t : MT) (ek ev : ME) (D : Nat) (σ : St) (x : V) (G G1 : Hz) : Option Hz :=
  (g x σ G1).bind fun p => (t p.1 p.2).bind fun q => if q.1 = true then (ek p.1 q.2).bind fun y => (ev p.1 y.2).bind fun r =>
      (if cm = true then cut G r.1 r.2 else some r).bind fun s => match s.2[D]? with
        | some (.dK kvs) => (keyOf y.1).bind fun k => if kvs.length < sizeLine then some (s.2.set D (.dK (putK kvs k s.1))) else none
        | _ => none
    else if cm = true then (if keptB G.length G q.2 = true then some (q.2.take G.length) else none) else some q.2
def eDComp (n : Nat) (cm : Bool) (w : MI) (vs : List Nat) (g : MG) (t : MT) (ek ev : ME) : ME := fun σ G => (w σ G).bind fun p =>
  (loopC p.1 (turnD cm g t ek ev p.2.length (wipe σ vs)) n 0 (p.2 ++ [.dK []])).bind fun G' => some (.ref p.2.length, G')
theorem turnD_of {K : PySem.W.Frag} {D : Nat} {ι ι0 : Nat → Addr} {σ0 : L2.St} {x : V} {G G1 G2 : Hz} {H H1 : Hp} {vs : List Nat} {Nx : Hp → Prop} (R0 : Rel K ι0 G H) (R : Rel K ι G1 H1) (a0 : Agr G.length ι0 ι) (l0 : G.length ≤ G1.length)
    (so : okS G.length (wipe σ0 vs) = true) (kx : okV G1.length x = true) (hD : D < G.length) (gw : GW vs g)
    (e : turnD cm g t tk te D (wipe σ0 vs) x G G1 = some G2) (nx : ∀ ι' H', Agr G.length ι0 ι' → Rel K ι' G2 H' → G.length ≤ G2.length → Nx H') :
    liftG K g (mv ι x) (wipe (ms ι0 σ0) vs) H1 fun σ2 H2 => wipe σ2 vs = wipe (ms ι0 σ0) vs ∧ liftB K t σ2 H2 fun b H3 =>
      if b = true then liftE K tk σ2 H3 fun y H4 => liftE K te σ2 H4 fun z H5 => ∃ kvs k, y = kV k ∧ H5 (ι0 D) = some (.dK kvs) ∧ kvs.length < sizeLine ∧ Nx (upd H5 (ι0 D) (.dK (putK kvs k z))) else Nx H3 := by
  obtain ⟨⟨σ2, Ga⟩, e1, e⟩ := bnd e
  obtain ⟨⟨k, Gb⟩, e2, e⟩ := bnd e
  rw [← ms_wipe, ms_agr a0 so]
  refine ⟨ι, x, wipe σ0 vs, G1, σ2, Ga, rfl, kx, rfl, okS_mono l0 so, R, e1, fun ι1 H2 a1 R1 l1 k1 => ⟨?_, ?_⟩⟩
  · rw [← ms_wipe, gw _ _ _ _ _ e1, ms_wipe, ms_agr a1 (okS_mono l0 so)]
    rw [← ms_wipe]
    congr 1
    exact (wipe_wipe σ0 vs)
  · have a01 : Agr G.length ι0 ι1 := a0.trans a1 l0
    have l01 : G.length ≤ Ga.length := Nat.le_trans l0 l1
    refine ⟨ι1, σ2, Ga, k, Gb, rfl, k1, R1, e2, fun ι2 H3 a2 R2 l2 => ?_⟩
    have a02 : Agr G.length ι0 ι2 := a01.trans a2 l01
    have l02 : G.length ≤ Gb.length := Nat.le_trans l01 l2
    rw [ms_agr a2 k1]
    cases k with
    | false =>
      dsimp only at e ⊢
      rw [if_neg Bool.false_ne_true] at e ⊢
      cases cm with
      | false =>
        cases e
        exact nx ι2 H3 a02 R2 l02
      | true =>
        rw [if_pos rfl] at e
        split at e
        · rename_i kb
          cases e
          exact nx ι2 H3 a02 (R0.cut R2 kb) (by rw [List.length_take]; exact Nat.le_of_eq (Nat.min_eq_left (kept_len kb)).symm)
        · cases e
    | true =>
      dsimp only at e ⊢
      rw [if_pos rfl] at e ⊢
      obtain ⟨⟨y, Gy⟩, ey, e⟩ := bnd e
      obtain ⟨⟨r, Gc⟩, e3, e⟩ := bnd e
      obtain ⟨⟨z, Gd⟩, e4, e⟩ := bnd e
      refine liftE.into (okS_mono l2 k1) R2 ey fun ιy Hy ay Ry ly ky => ?_
      rw [ms_agr ay (okS_mono l2 k1)]
      refine liftE.into (okS_mono ly (okS_mono l2 k1)) Ry e3 fun ι3 H4 a3 R3 l3 k3 => ?_
      have a03 : Agr G.length ι0 ι3 := (a02.trans ay l02).trans a3 (Nat.le_trans l02 ly)
      have l03 : G.length ≤ Gc.length := Nat.le_trans (Nat.le_trans l02 ly) l3
      have fin : ∀ (ι4 : Nat → Addr), Agr G.length ι0 ι4 → Rel K ι4 Gd H4 → mv ι4 z = mv ι3 r → okV Gd.length z = true → G.length ≤ Gd.length → ∃ kvs k, mv ιy y = kV k ∧ H4 (ι0 D) = some (.dK kvs) ∧ kvs.length < sizeLine ∧ Nx (upd H4 (ι0 D) (.dK (putK kvs k (mv ι3 r)))) := fun ι4 a4 R4 q4 k4 l4 => by
        dsimp only at e
        split at e
        · rename_i kvs q
          obtain ⟨kk, ek, e⟩ := bnd e
          split at e
          · rename_i zz
            cases e
            have eD : ι0 D = ι4 D := a4 D hD
            refine ⟨_, kk, keyOf_mv ek, by rw [eD]; exact R4.dkM q, by rw [List.length_map]; exact zz, ?_⟩
            have := R4.put (o' := .dK (putK kvs kk z)) q rfl (putK_ok (R4.ok _ _ q) k4) rfl
            rw [show O.ho ι4 (.dK (putK kvs kk z)) = .dK (putK (kvs.map fun p => (p.1, mv ι4 p.2)) kk (mv ι3 r)) from by rw [← q4, ← putK_mv]; rfl] at this
            rw [eD]
            exact nx ι4 _ a4 this (by rw [List.length_set]; exact l4)
          · cases e
        · cases e
      cases cm with
      | false =>
        cases e4
        exact fin ι3 a03 R3 rfl k3 l03
      | true =>
        rw [if_pos rfl] at e4
        obtain ⟨ι4, a4, R4, q4, k4, l4⟩ := cut_to R0 R3 a03 k3 e4
        exact fin ι4 a4 R4 q4 k4 l4
theorem dcomp_lift (gw : GW (own.map (·.2)) g) {σ : L2.St} {H : Hp} {Q : VK} (h : liftE X.K (eDComp n cm w (own.map (·.2)) g t tk te) σ H Q) : tDc (liftI X.K w) (liftG X.K g) (liftB X.K t) (liftE X.K tk) (liftE X.K te) (own.map (·.2)) σ H Q := by
  generalize own.map (·.2) = vs at gw h ⊢
  obtain ⟨ι, σ0, G, v, G', rfl, so, R, e, p⟩ := h
  obtain ⟨⟨it, G1⟩, e1, e⟩ := bnd e
  obtain ⟨G2, e2, e⟩ := bnd e
  cases e
  refine ⟨ι, σ0, G, it, G1, rfl, so, R, e1, fun ι1 H1 a1 R1 l1 J hJ D hD => ?_⟩
  have R2 := R1.new (o := .dK []) rfl rfl hD
  refine ⟨fun i f H => ∃ (ι' : Nat → Addr) (Gi : Hz), Rel X.K ι' Gi H ∧ Agr (G1.length + 1) (ext ι1 G1.length D) ι' ∧ G1.length + 1 ≤ Gi.length ∧ loopC it (turnD cm g t tk te G1.length (wipe σ0 vs)) f i Gi = some G', ?_, ?_⟩
  · exact ⟨n, _, _, R2, .refl, by simp, e2⟩
  · rintro i f H ⟨ι', Gi, Ri, ai, li, ei⟩
    have a1i : Agr G1.length ι1 ι' := ext_agr.trans (ai.mono (Nat.le_succ _)) (Nat.le_refl _)
    have l1i : G1.length ≤ Gi.length := Nat.le_trans (Nat.le_succ _) li
    have eD : ι' G1.length = D := (ai _ (Nat.lt_succ_self _)).symm.trans ext_self
    cases f with
    | zero => cases ei
    | succ f =>
      obtain ⟨hstop, hgo⟩ := hJ ι' Gi H i a1i l1i Ri
      unfold loopC at ei
      cases q : it i Gi with
      | none => rw [q] at ei; cases ei
      | some o =>
        rw [q] at ei
        cases o with
        | none =>
          cases ei
          refine .inl ⟨hstop q, ?_⟩
          have := p ι' H (a1.trans a1i l1) Ri (Nat.le_trans l1 l1i) (decide_eq_true li)
          rw [show mv ι' (.ref G1.length) = .ref D from congrArg V.ref eD] at this
          exact this
        | some xg =>
          obtain ⟨x, G3⟩ := xg
          obtain ⟨go, hy⟩ := hgo x G3 q
          obtain ⟨G4, e4, ei⟩ := bnd ei
          refine .inr ⟨go, _, fun H' z => ⟨f, Nat.lt_succ_self f, z⟩, fun y H2 yy => ?_⟩
          obtain ⟨ι2, a2, Rx, rfl, k2, l2⟩ := hy y H2 yy
          rw [ms_agr (a1.trans a1i l1) so, ← eD]
          refine turnD_of Ri Rx a2 l2 (okS_wipe (okS_mono (Nat.le_trans l1 l1i) so) _) k2 li gw e4 fun ι3 H3 a3 R3 l3 => ?_
          exact ⟨ι3, G4, R3, by rw [eD]; exact ai.trans a3 li, Nat.le_trans li l3, ei⟩
theorem se_dcomp (hc : X.calm = true) (hN : X.N.Nodup) (hi : SI X tg iter w) (ok : BlkOk X.N X.env.scope scope own) (gw : GW (own.map (·.2)) g)
    (hg : ∀ (s : Shared) (H : Hp) (C : Addr) (cl : List (Str × Addr)) (fp : List Addr), SG (X.blk s H scope (compEnvC scope cl C X.env) fp) tg g) (ht : ∀ (s : Shared) (H : Hp) (C : Addr) (cl : List (Str × Addr)) (fp : List Addr), STs (X.blk s H scope (compEnvC scope cl C X.env) fp) ifs t)
    (hk : ∀ (s : Shared) (H : Hp) (C : Addr) (cl : List (Str × Addr)) (fp : List Addr), SE (X.blk s H scope (compEnvC scope cl C X.env) fp) kx tk)
    (he : ∀ (s : Shared) (H : Hp) (C : Addr) (cl : List (Str × Addr)) (fp : List Addr), SE (X.blk s H scope (compEnvC scope cl C X.env) fp) vx te) (hs : ∀ x, foldedSetIterable iter X.env x = pure x := by intro _; rfl) :
    SE X (.DictComp kx vx [⟨tg, iter, ifs, 0⟩] scope pos) (eDComp n cm w (own.map (·.2)) g t tk te) :=
  PE.imp (pe_dc (g := liftG X.K g) (tt := liftB X.K t) (tk := liftE X.K tk) (tv := liftE X.K te) hc hN hi ok hg ht hk he hs) fun _ _ _ h => dcomp_lift gw h
end
end Zl

/-! Zl, part 14: dict(pairs). -/
namespace Zl
open PySem PySem.Spec L2
open PyProof.Rows hiding St

section
variable {X : Cx}
def pairO (G : Hz) : V → Option (Key × V)
  | .ref p => match G[p]? with
    | some (.tup [k, v]) => (keyOf k).bind fun q => some (q, v)
    | _ => none
  | _ => none
def fDictP : FL := fun vs G => match vs with
  | [.ref a] => match G[a]? with
    | some (.lst xs) => (mapO (pairO G) xs).bind fun kvs => alloc (.dK (mergeK [] kvs)) G
    | _ => none
  | _ => none
theorem mergeK_mv {ι : Nat → Addr} : ∀ (more kvs : List (Key × V)), (mergeK kvs more).map (fun p => (p.1, mv ι p.2)) = mergeK (kvs.map fun p => (p.1, mv ι p.2)) (more.map fun p => (p.1, mv ι p.2))
  | [], _ => rfl
  | p :: more, kvs => by
    show (mergeK (putK kvs p.1 p.2) more).map _ = mergeK (putK _ p.1 (mv ι p.2)) _
    rw [mergeK_mv more, putK_mv]
theorem mergeK_ok {n : Nat} : ∀ (more kvs : List (Key × V)), okO n (.dK kvs) = true → (∀ p ∈ more, okV n p.2 = true) → okO n (.dK (mergeK kvs more)) = true
  | [], _, h, _ => h
  | p :: more, kvs, h, hm => mergeK_ok more _ (putK_ok h (hm p (List.mem_cons_self ..))) fun q hq => hm q (List.mem_cons_of_mem _ hq)
theorem pairs_of {K : PySem.W.Frag} {ι : Nat → Addr} {G : Hz} {H : Hp} (R : Rel K ι G H) : ∀ {xs : List V} {kvs : List (Key × V)}, mapO (pairO G) xs = some kvs →
    ∃ ps : List Addr, xs.map (mv ι) = ps.map V.ref ∧ Paired (fun p (kv : Key × V) => SqT K H p [kV kv.1, kv.2]) ps (kvs.map fun p => (p.1, mv ι p.2)) ∧ ∀ p ∈ kvs, okV G.length p.2 = true
  | [], kvs, e => by
    cases e
    exact ⟨[], rfl, .nil, fun _ h => nomatch h⟩
  | x :: xs, kvs, e => by
    obtain ⟨y, e1, e⟩ := bnd e
    obtain ⟨ys, e2, e⟩ := bnd e
    cases e
    obtain ⟨ps, h1, h2, h3⟩ := pairs_of R e2
    unfold pairO at e1
    split at e1
    · rename_i p
      split at e1
      · rename_i k v q
        obtain ⟨kk, ek, e1⟩ := bnd e1
        cases e1
        refine ⟨ι p :: ps, by rw [List.map_cons, h1]; rfl, .cons ?_ h2, fun z hz => ?_⟩
        · have := R.tupS q
          rw [List.map_cons, List.map_cons, keyOf_mv ek] at this
          exact this
        · rcases List.mem_cons.mp hz with rfl | hz
          · exact all_mem (R.okt q) (by simp)
          · exact h3 z hz
      · cases e1
    · cases e1
theorem z_dictP (hc : X.calm = true) : CallZ X (.type "dict") fDictP := by
  refine ⟨_, call_dictP hc, fun ι G H vs v G' Q R kx e p => ?_⟩
  unfold fDictP at e
  split at e
  · split at e
    · rename_i q
      obtain ⟨kvs, e1, e⟩ := bnd e
      obtain ⟨ps, h1, h2, h3⟩ := pairs_of R e1
      refine ⟨_, ps, _, rfl, by rw [← h1]; exact R.lstS q, h2, ?_⟩
      have := Pz.alloc (o := .dK (mergeK [] kvs)) R (mergeK_ok _ _ rfl h3) rfl e p
      rw [show O.ho ι (.dK (mergeK [] kvs)) = .dK (mergeK [] (kvs.map fun p => (p.1, mv ι p.2))) from congrArg HO.dK (mergeK_mv kvs [])] at this
      exact this
    · cases e
  · cases e
end
end Zl

/-! Zl, part 15: tests of chains; comprehensions with their slots apart. -/
namespace Zl
open PySem PySem.Spec L2
open PyProof.Rows hiding St

section
variable {X : Cx} {a b c : Expr} {pos : Pos}
theorem st_chain {op op' : CmpOp} {f g : F2} {ma mb mc : ME} (h : OpZ X (compareOp op) f) (h' : OpZ X (compareOp op') g) (ha : SE X a ma) (hb : SE X b mb) (hc : SE X c mc) (hm : lastMarks [op, op'] [b, c] = false := by with_unfolding_all rfl) : STt X (.Compare a [op, op'] [b, c] pos) (tE (eChain f g ma mb mc)) := by
  obtain ⟨r, hr, hf⟩ := h
  obtain ⟨r', hr', hg⟩ := h'
  refine PT.imp (pt_chain hr hr' ha hb hc hm) fun σ H Q h => ?_
  obtain ⟨ι, σ0, G, v, G', rfl, so, R, e, p⟩ := h
  exact chain_of (Q := fun x H' => ∃ k, x = V.bl k ∧ Q k H') so R (te_split e) (fun ι' H' a' R' l' _ => ⟨v, rfl, p ι' H' a' R' l'⟩) hf hg
end
section
variable {X : Cx} {elt tg iter tg1 iter1 kx vx : Expr} {ifs ifs1 : List Expr} {scope : Scope} {own : List (Str × Nat)} {pos : Pos} {w w1 : MI} {g g1 : MG} {t t1 : MT} {te tk : ME} {n : Nat} {cm : Bool} {vs vs1 : List Nat}
theorem se_compV (hc : X.calm = true) (hN : X.N.Nodup) (hi : SI X tg iter w) (ok : BlkOk X.N X.env.scope scope own) (hvs : own.map (·.2) = vs) (gw : GW vs g)
    (hg : ∀ (s : Shared) (H : Hp) (C : Addr) (cl : List (Str × Addr)) (fp : List Addr), SG (X.blk s H scope (compEnvC scope cl C X.env) fp) tg g) (ht : ∀ (s : Shared) (H : Hp) (C : Addr) (cl : List (Str × Addr)) (fp : List Addr), STs (X.blk s H scope (compEnvC scope cl C X.env) fp) ifs t) (he : ∀ (s : Shared) (H : Hp) (C : Addr) (cl : List (Str × Addr)) (fp : List Addr), SE (X.blk s H scope (compEnvC scope cl C X.env) fp) elt te)
    (hs : ∀ x, foldedSetIterable iter X.env x = pure x := by intro _; rfl) : SE X (.ListComp elt [⟨tg, iter, ifs, 0⟩] scope pos) (eComp n cm w vs g t te) := by
  subst hvs
  exact se_comp hc hN hi ok gw hg ht he hs
theorem s_setCompV {i : Nat} {y : Str} {py spos : Pos} (hc : X.calm = true) (hN : X.N.Nodup) (hy : X.N[i]? = some y) (hyl : X.env.scope.names.lookup y = some .local) (hsw : swapsWith (.ListComp elt [⟨tg, iter, ifs, 0⟩] scope pos) (some (.Name y py)) spos.line X.env = pure true) (hi : SI X tg iter w) (ok : BlkOk X.N X.env.scope scope own) (hvs : own.map (·.2) = vs) (gw : GW vs g)
    (hg : ∀ (s : Shared) (H : Hp) (C : Addr) (cl : List (Str × Addr)) (fp : List Addr), SG (X.blk s H scope (compEnvC scope cl C X.env) fp) tg g) (ht : ∀ (s : Shared) (H : Hp) (C : Addr) (cl : List (Str × Addr)) (fp : List Addr), STs (X.blk s H scope (compEnvC scope cl C X.env) fp) ifs t) (he : ∀ (s : Shared) (H : Hp) (C : Addr) (cl : List (Str × Addr)) (fp : List Addr), SE (X.blk s H scope (compEnvC scope cl C X.env) fp) elt te)
    (hs : ∀ x, foldedSetIterable iter X.env x = pure x := by intro _; rfl) : SS X (.Assign [.Name y py] (.ListComp elt [⟨tg, iter, ifs, 0⟩] scope pos) spos) (sAsg (eComp n cm w vs g t te) (gSet i)) := by
  subst hvs
  exact s_setComp hc hN hy hyl hsw hi ok gw hg ht he hs
theorem s_setCompCutV {i : Nat} {y : Str} {py spos : Pos} (hc : X.calm = true) (hN : X.N.Nodup) (hy : X.N[i]? = some y) (hyl : X.env.scope.names.lookup y = some .local) (hsw : swapsWith (.ListComp elt [⟨tg, iter, ifs, 0⟩] scope pos) (some (.Name y py)) spos.line X.env = pure true) (hi : SI X tg iter w) (ok : BlkOk X.N X.env.scope scope own) (hvs : own.map (·.2) = vs) (gw : GW vs g)
    (hg : ∀ (s : Shared) (H : Hp) (C : Addr) (cl : List (Str × Addr)) (fp : List Addr), SG (X.blk s H scope (compEnvC scope cl C X.env) fp) tg g) (ht : ∀ (s : Shared) (H : Hp) (C : Addr) (cl : List (Str × Addr)) (fp : List Addr), STs (X.blk s H scope (compEnvC scope cl C X.env) fp) ifs t) (he : ∀ (s : Shared) (H : Hp) (C : Addr) (cl : List (Str × Addr)) (fp : List Addr), SE (X.blk s H scope (compEnvC scope cl C X.env) fp) elt te)
    (hs : ∀ x, foldedSetIterable iter X.env x = pure x := by intro _; rfl) : SS X (.Assign [.Name y py] (.ListComp elt [⟨tg, iter, ifs, 0⟩] scope pos) spos) (sAsg (eCut (eComp n cm w vs g t te)) (gSet i)) := by
  subst hvs
  exact s_setCompCut hc hN hy hyl hsw hi ok gw hg ht he hs
theorem se_comp2V (hc : X.calm = true) (hN : X.N.Nodup) (hi : SI X tg iter w) (ok : BlkOk X.N X.env.scope scope own) (hvs : own.map (·.2) = vs) (hv : ∀ i ∈ vs1, i ∈ vs) (gw : GW vs g) (gw1 : GW vs1 g1)
    (hg : ∀ (s : Shared) (H : Hp) (C : Addr) (cl : List (Str × Addr)) (fp : List Addr), SG (X.blk s H scope (compEnvC scope cl C X.env) fp) tg g) (ht : ∀ (s : Shared) (H : Hp) (C : Addr) (cl : List (Str × Addr)) (fp : List Addr), STs (X.blk s H scope (compEnvC scope cl C X.env) fp) ifs t) (hi1 : ∀ (s : Shared) (H : Hp) (C : Addr) (cl : List (Str × Addr)) (fp : List Addr), SI (X.blk s H scope (compEnvC scope cl C X.env) fp) tg1 iter1 w1) (hg1 : ∀ (s : Shared) (H : Hp) (C : Addr) (cl : List (Str × Addr)) (fp : List Addr), SG (X.blk s H scope (compEnvC scope cl C X.env) fp) tg1 g1) (ht1 : ∀ (s : Shared) (H : Hp) (C : Addr) (cl : List (Str × Addr)) (fp : List Addr), STs (X.blk s H scope (compEnvC scope cl C X.env) fp) ifs1 t1) (he : ∀ (s : Shared) (H : Hp) (C : Addr) (cl : List (Str × Addr)) (fp : List Addr), SE (X.blk s H scope (compEnvC scope cl C X.env) fp) elt te)
    (hs : ∀ x, foldedSetIterable iter X.env x = pure x := by intro _; rfl) (hs1 : ∀ env x, foldedSetIterable iter1 env x = pure x := by intro _ _; rfl) : SE X (.ListComp elt [⟨tg, iter, ifs, 0⟩, ⟨tg1, iter1, ifs1, 0⟩] scope pos) (eComp2 n cm w vs g t w1 vs1 g1 t1 te) := by
  subst hvs
  exact se_comp2 hc hN hi ok hv gw gw1 hg ht hi1 hg1 ht1 he hs hs1
theorem s_setComp2V {i : Nat} {y : Str} {py spos : Pos} (hc : X.calm = true) (hN : X.N.Nodup) (hy : X.N[i]? = some y) (hyl : X.env.scope.names.lookup y = some .local) (hsw : swapsWith (.ListComp elt [⟨tg, iter, ifs, 0⟩, ⟨tg1, iter1, ifs1, 0⟩] scope pos) (some (.Name y py)) spos.line X.env = pure true) (hi : SI X tg iter w) (ok : BlkOk X.N X.env.scope scope own) (hvs : own.map (·.2) = vs) (hv : ∀ i ∈ vs1, i ∈ vs) (gw : GW vs g) (gw1 : GW vs1 g1)
    (hg : ∀ (s : Shared) (H : Hp) (C : Addr) (cl : List (Str × Addr)) (fp : List Addr), SG (X.blk s H scope (compEnvC scope cl C X.env) fp) tg g) (ht : ∀ (s : Shared) (H : Hp) (C : Addr) (cl : List (Str × Addr)) (fp : List Addr), STs (X.blk s H scope (compEnvC scope cl C X.env) fp) ifs t) (hi1 : ∀ (s : Shared) (H : Hp) (C : Addr) (cl : List (Str × Addr)) (fp : List Addr), SI (X.blk s H scope (compEnvC scope cl C X.env) fp) tg1 iter1 w1) (hg1 : ∀ (s : Shared) (H : Hp) (C : Addr) (cl : List (Str × Addr)) (fp : List Addr), SG (X.blk s H scope (compEnvC scope cl C X.env) fp) tg1 g1) (ht1 : ∀ (s : Shared) (H : Hp) (C : Addr) (cl : List (Str × Addr)) (fp : List Addr), STs (X.blk s H scope (compEnvC scope cl C X.env) fp) ifs1 t1) (he : ∀ (s : Shared) (H : Hp) (C : Addr) (cl : List (Str × Addr)) (fp : List Addr), SE (X.blk s H scope (compEnvC scope cl C X.env) fp) elt te)
    (hs : ∀ x, foldedSetIterable iter X.env x = pure x := by intro _; rfl) (hs1 : ∀ env x, foldedSetIterable iter1 env x = pure x := by intro _ _; rfl) : SS X (.Assign [.Name y py] (.ListComp elt [⟨tg, iter, ifs, 0⟩, ⟨tg1, iter1, ifs1, 0⟩] scope pos) spos) (sAsg (eComp2 n cm w vs g t w1 vs1 g1 t1 te) (gSet i)) := by
  subst hvs
  exact s_setComp2 hc hN hy hyl hsw hi ok hv gw gw1 hg ht hi1 hg1 ht1 he hs hs1
theorem se_dcompV (hc : X.calm = true) (hN : X.N.Nodup) (hi : SI X tg iter w) (ok : BlkOk X.N X.env.scope scope own) (hvs : own.map (·.2) = vs) (gw : GW vs g)
    (hg : ∀ (s : Shared) (H : Hp) (C : Addr) (cl : List (Str × Addr)) (fp : List Addr), SG (X.blk s H scope (compEnvC scope cl C X.env) fp) tg g) (ht : ∀ (s : Shared) (H : Hp) (C : Addr) (cl : List (Str × Addr)) (fp : List Addr), STs (X.blk s H scope (compEnvC scope cl C X.env) fp) ifs t) (hk : ∀ (s : Shared) (H : Hp) (C : Addr) (cl : List (Str × Addr)) (fp : List Addr), SE (X.blk s H scope (compEnvC scope cl C X.env) fp) kx tk) (he : ∀ (s : Shared) (H : Hp) (C : Addr) (cl : List (Str × Addr)) (fp : List Addr), SE (X.blk s H scope (compEnvC scope cl C X.env) fp) vx te)
    (hs : ∀ x, foldedSetIterable iter X.env x = pure x := by intro _; rfl) : SE X (.DictComp kx vx [⟨tg, iter, ifs, 0⟩] scope pos) (eDComp n cm w vs g t tk te) := by
  subst hvs
  exact se_dcomp hc hN hi ok gw hg ht hk he hs
end
end Zl

/-! Zl, part 18: enumerate(xs, n). -/
namespace Zl
open PySem PySem.Spec L2
open PyProof.Rows hiding St

/-- the list at a, each item in a new pair with the count k0 + i -/
def IteS (K : PySem.W.Frag) (a : Addr) (k0 : Int) : It :=
  { go := fun i H => ∃ (xs : List V) (x : V), SqL K H a xs ∧ xs[i]? = some x
    yld := fun i H v H' => ∃ T x, v = .ref T ∧ H T = none ∧ H' = upd H T (.tup [.int (k0 + (i : Nat)), x]) ∧ ∀ xs, SqL K H a xs → xs[i]? = some x
    stop := fun i H => ∃ xs : List V, SqL K H a xs ∧ xs.length ≤ i }
/-- an iterator over a list that has come to its end -/
theorem spent_list {prog : Program} {w : World} {A : Around} (hh : A.handled = none) (it l : Addr) (j : Nat) (items : Array Value) (hj : items[j]? = none) :
    Draws prog w A it [it, l] 0 (fun _ _ => False) (fun _ h => h.IsListIter it l j ∧ h.IsList l items) where
  live := fun _ _ st => by
    obtain ⟨⟨o, ho, _⟩, _⟩ := st
    exact ⟨o, ho⟩
  frame := fun _ _ _ st hk => ⟨st.1.at fun o q => hk it (by simp) o q, st.2.at fun o q => hk l (by simp) o q⟩
  item := fun i s Q E hi st hQ => absurd hi (Nat.not_lt_zero _)
  done := fun s Q E st hE => wpAny_nextOf_list_end hh st.1 st.2 hj hE
theorem turn_enumS {P : Program} {w : World} {K : PySem.W.Frag} {elts : List Expr} {kk : Nat} {tpos : Pos} (k0 : Int) (a e it : Addr) :
    Turn P w K (.Tuple elts kk tpos) (IteS K a k0) [e, it] e (fun i h => (∃ old, IsEnum h e it (k0 + ((i : Nat) : Int)) old) ∧ h.IsListIter it a i ∧ e ≠ it ∧ a ≠ it ∧ e ≠ a) where
  mem := by simp
  obj := fun i h st b hb => by
    obtain ⟨⟨old, he⟩, ⟨o, ho, hc, hd⟩, _⟩ := st
    have eb : b = e ∨ b = it := by simpa using hb
    rcases eb with rfl | rfl
    · exact ⟨_, he, fun v q => nomatch q⟩
    · refine ⟨o, ho, fun v q => ?_⟩
      rw [hd] at q
      cases q
  keep := fun i h h' st k => by
    obtain ⟨⟨old, he⟩, hi, hne⟩ := st
    exact ⟨⟨old, k e (by simp) _ he⟩, hi.at fun o q => k it (by simp) o q, hne⟩
  item := by
    intro X hP hw hK hc i pins s σ H E I hf st hg
    subst hP hw hK
    obtain ⟨⟨old, he⟩, hit, hne, nai, nea⟩ := st
    obtain ⟨xs, x, hq, hx⟩ := hg
    obtain ⟨its, rv, p, hz⟩ := I.list hq
    obtain ⟨u, hu, ru⟩ := rv.get hx
    have ke : e < s.heap.objs.size := Heap.lt_size he
    have ki : it < s.heap.objs.size := by
      obtain ⟨_, q, _⟩ := hit
      exact Heap.lt_size q
    have hh : X.A.in1.handled = none := (I.ok.hd hc)
    have hlen : i < its.toArray.size := by
      rw [List.size_toArray]
      exact (List.getElem?_eq_some_iff.mp hu).1
    refine wpAny_pyNext_enum_itemC (Draws.list (prog := X.prog) (w := X.w) hh it a nai its.toArray) he ⟨hit, p.isList⟩ hlen hne (by simp [hne, nea]) fun y h' tk hy ho hst' hT hsz hk => ?_
    obtain ⟨hit', _⟩ := hst'
    have hyu : y = u := by
      have : its[i]? = some y := by simpa using hy
      rw [hu] at this
      exact (Option.some.inj this).symm
    subst hyu
    refine ⟨_, rfl, wpAny_letOwnedTupleGo_enum (s := { s with heap := h', toks := tk + 1 }) ho fun h'' he' sb => ?_⟩
    have hT2 : h''.get? s.heap.objs.size = some { cls := .type "tuple", data := .seq #[.int (k0 + (i : Int)) tk, y] } := (sb.2 _ (Nat.ne_of_gt ke)).trans hT
    have fresh : ObjOk X.prog X.w (upd H s.heap.objs.size (.tup [.int (k0 + (i : Nat)), x])) h'' s.heap.objs.size (.tup [.int (k0 + (i : Nat)), x]) :=
      ⟨by show 2 ≤ sizeLine; decide, [.int (k0 + (i : Int)) tk, y], .cons ⟨_, rfl⟩ (.cons ru .nil), ⟨_, hT2, rfl, _, rfl⟩⟩
    have J : Inv X pins σ (upd H s.heap.objs.size (.tup [.int (k0 + (i : Nat)), x])) { s with heap := h'', toks := tk + 1 } :=
      I.turnedNew (t' := tk + 1) (ch := [e, it]) (fun b ob hb q => (sb.2 b (fun z => hb (by simp [z]))).trans (hk b ob (fun z => hb (by simp [z])) (fun z => hb (by simp [z])) q)) hf (Nat.le_refl _) fresh
    refine ⟨.ref s.heap.objs.size, _, J, rfl, ⟨_, x, rfl, I.hok.fresh (Nat.le_refl _), rfl, fun ys hys => by rw [I.list_inj hys hq]; exact hx⟩, ⟨⟨y, ?_⟩, hit'.at fun o q => (sb.2 it (Ne.symm hne)).trans q, hne, nai, nea⟩, fun b hb => ?_⟩
    · have ec : k0 + ((i + 1 : Nat) : Int) = k0 + (i : Int) + 1 := by omega
      rw [ec]
      exact he'
    · have lb : b < s.heap.objs.size := by
        have eb : b = e ∨ b = it := by simpa using hb
        rcases eb with rfl | rfl
        · exact ke
        · exact ki
      rw [upd_ne (Nat.ne_of_lt lb)]
      exact (hf b hb).1
  done := by
    intro X hP hw hK hc i pins s σ H E I hf st hg
    subst hP hw hK
    obtain ⟨⟨old, he⟩, hit, hne, nai, nea⟩ := st
    obtain ⟨xs, hq, hx⟩ := hg
    obtain ⟨its, rv, p, hz⟩ := I.list hq
    obtain ⟨f0, f1, f2, f3, f4, f5⟩ := hf it (by simp)
    have hl := rv.length
    exact wpAny_pyNext_enum_endD (spent_list (prog := X.prog) (w := X.w) (show X.A.in1.handled = none from I.ok.hd hc) it a i its.toArray (by simp; omega)) he ⟨hit, p.isList⟩ fun h' eb => ⟨rfl, I.turned (t' := s.toks) (fun b o hb q => eb b o hb q) f0 f1 f3 f4 f5⟩
  self := fun A i s Q E st h => by
    obtain ⟨⟨_, he⟩, _⟩ := st
    exact wpAny_pyIter_enum he h

def itES (a : Nat) (k0 : Int) : MIt := fun i G => match G[a]? with
  | some (.lst xs) => some (xs[i]?.map fun x => (.ref G.length, G ++ [.tup [.int (k0 + (i : Int)), x]]))
  | _ => none
theorem itES_ok {K : PySem.W.Frag} {ι : Nat → Addr} {n a : Nat} {k0 : Int} (ha : a < n) : ItOk K ι n (itES a k0) (IteS K (ι a) k0) := by
  intro ι' G H i ag l R
  have e0 : ι a = ι' a := ag a ha
  unfold itES
  split
  · rename_i xs q
    have hq : SqL K H (ι a) (xs.map (mv ι')) := by rw [e0]; exact R.lstS q
    cases q2 : xs[i]? with
    | none =>
      refine ⟨fun _ => ⟨_, hq, ?_⟩, fun x G1 z => ?_⟩
      · rw [List.length_map]
        exact List.getElem?_eq_none_iff.mp q2
      · cases z
    | some u =>
      refine ⟨fun z => ?_, fun x G1 z => ?_⟩
      · cases z
      · cases z
        have q' : (xs.map (mv ι'))[i]? = some (mv ι' u) := by rw [List.getElem?_map, q2]; rfl
        have ku := all_mem (R.okl q) (List.mem_of_getElem? q2)
        refine ⟨⟨_, _, hq, q'⟩, fun y H1 yy => ?_⟩
        obtain ⟨T, x, rfl, hT, rfl, hx⟩ := yy
        have hx' := hx _ hq
        rw [q'] at hx'
        cases hx'
        have := R.new (o := .tup [.int (k0 + (i : Int)), u]) (p := T) (by show List.all _ _ = true; rw [List.all_cons, List.all_cons, ku]; rfl) rfl hT
        exact ⟨ext ι' G.length T, ext_agr, this, (congrArg V.ref ext_self).symm, by simp [okV], by simp⟩
  · exact ⟨(fun z => nomatch z), fun _ _ z => nomatch z⟩
def iEnumS (k0 : Int) (e : ME) : MI := fun σ G => (e σ G).bind fun p => match p.1 with
  | .ref a => match p.2[a]? with
    | some (.lst _) => some (itES a k0, p.2)
    | _ => none
  | _ => none
section
variable {X : Cx} {e : Expr}
theorem i_enumS {m : ME} {p p2 pos tpos : Pos} {elts : List Expr} {kk j : Nat} {k0 : Int} (hg : Gl X "enumerate") (hm : X.mg "enumerate" = none) (ha : SE X e m) (hk : -(2 ^ 63) ≤ k0) (hk2 : k0 < 2 ^ 63) (hc : X.calm = true := by rfl)
    (hs : starEach [e, .Constant (.int k0) j p2] X.env = (false, eval e X.env) :: starEach [.Constant (.int k0) j p2] X.env := by rfl) (hs2 : starEach [.Constant (.int k0) j p2] X.env = (false, eval (.Constant (.int k0) j p2) X.env) :: starEach [] X.env := by rfl)
    (hpl : (backTo pos (starEach [.Constant (.int k0) j p2] X.env)).any (·.1) = false := by rfl) :
    SI X (.Tuple elts kk tpos) (.Call (.Name "enumerate" p) [e, .Constant (.int k0) j p2] [] pos) (iEnumS k0 m) := by
  refine ⟨fun pins s σ H Rr I h => ?_⟩
  obtain ⟨ι, σ0, G, it, G1, rfl, so, R, ee, pz⟩ := h
  obtain ⟨⟨x, G2⟩, e1, ee⟩ := bnd ee
  have pa := sa_cons ha (sa_cons (se_c (X := X) (v := .int k0) (pe_int (j := j) (pos := p2))) sa_nil hs2) hs
  refine Call_ (ld_blt I hg hm boot_enumerate (PyProof.Rows.callWith_type1 (thn (PA.run pa pos pins s _ H (fun vs H1 => ∃ (a : Nat) (xs : List V) (ι1 : Nat → Addr), vs = [.ref (ι1 a), .int k0] ∧ it = itES a k0 ∧ G1 = G2 ∧ Agr G.length ι ι1 ∧ Rel X.K ι1 G2 H1 ∧ G.length ≤ G2.length ∧ G2[a]? = some (.lst xs)) I ?_) fun us s1 ⟨vs, H1, I1, r1, a, xs, ι1, hvs, hit, hG, a1, R1, l1, ga⟩ => ?_) hs hpl))
  · refine ⟨ι, σ0, G, [x, .int k0], G2, rfl, so, R, ?_, fun ι1 H1 a1 R1 l1 k1 => ?_⟩
    · show (m σ0 G).bind _ = _
      rw [e1]
      rfl
    · dsimp only at ee
      split at ee
      · split at ee
        · rename_i q
          cases ee
          exact ⟨_, _, ι1, rfl, rfl, rfl, a1, R1, l1, q⟩
        · cases ee
      · cases ee
  · subst hvs hit hG
    cases r1 with
    | cons r rr =>
      cases rr with
      | cons r2 rr =>
        cases rr
        cases r
        obtain ⟨t, rfl⟩ := r2
        obtain ⟨its, rv, p', hz⟩ := I1.list (R1.lstS ga)
        have la : ι1 a < s1.heap.objs.size := by
          obtain ⟨_, q, _⟩ := p'.isList
          exact Heap.lt_size q
        refine enum_begins (begins_list (ι1 a) its.toArray) p'.isList hk hk2 fun h' he hb hsz hkeep => wpAny_pyIter_enum he ?_
        have I2 : Inv X pins (ms ι σ0) H1 { s1 with heap := h' } := I1.kept (t' := s1.toks) hkeep
        refine ⟨s1.heap.objs.size + 1, [s1.heap.objs.size + 1, s1.heap.objs.size], _, _, H1, rfl, I2, turn_enumS k0 (ι1 a) (s1.heap.objs.size + 1) s1.heap.objs.size, ⟨⟨.none, ?_⟩, ⟨_, hb, rfl, rfl⟩, Nat.succ_ne_self _, Nat.ne_of_lt la, Nat.ne_of_gt (Nat.lt_succ_of_lt la)⟩, fun b hb => ?_, pz ι1 H1 a1 R1 l1 _ (itES_ok (lt_of_get ga))⟩
        · rw [show k0 + ((0 : Nat) : Int) = k0 by omega]
          exact he
        · have eb : b = s1.heap.objs.size + 1 ∨ b = s1.heap.objs.size := by simpa using hb
          have hle : s1.heap.objs.size ≤ b := by
            rcases eb with rfl | rfl
            · exact Nat.le_add_right _ _
            · exact Nat.le_refl _
          exact I1.fpOk hle (I1.hok.fresh hle)
end
end Zl

/-! Zl, part 19: ranges that go down by one. -/
namespace Zl
open PySem PySem.Spec L2
open PyProof.Rows hiding St

section
variable {X : Cx} {a b : Expr} {pos : Pos}
/-- i, i - 1, .. -/
def itD (lo : Int) (n : Nat) : MIt := fun i G => some (if i < n then some (.int (lo - (i : Int)), G) else none)
theorem itD_ok {K : PySem.W.Frag} {ι : Nat → Addr} {n : Nat} {lo : Int} {m : Nat} : ItOk K ι n (itD lo m) (Itc lo (-1) m) := by
  intro ι' G H i ag l R
  unfold itD
  by_cases h : i < m
  · rw [if_pos h]
    refine ⟨(fun z => nomatch z), fun x G1 z => ?_⟩
    cases z
    refine ⟨h, fun y H1 yy => ?_⟩
    obtain ⟨rfl, rfl⟩ := yy
    refine ⟨ι', .refl, R, ?_, rfl, Nat.le_refl _⟩
    show V.int (lo + (i : Int) * (-1)) = V.int (lo - (i : Int))
    congr 1
    omega
  · rw [if_neg h]
    refine ⟨fun _ => Nat.le_of_not_lt h, fun x G1 z => ?_⟩
    cases z
/-- range(i, j, -1) -/
def iRangeD (e : MA) : MI := fun σ G => (e σ G).bind fun p => match p.1 with
  | [.int i, .int j, .int c] => if c = -1 ∧ small62 i = true ∧ small62 j = true then some (itD i (i - j).toNat, p.2) else none
  | _ => none
theorem i_rangeD {tg c : Expr} {m : MA} {p pos : Pos} (hg : Gl X "range") (hm : X.mg "range" = none) (ha : SA X [a, b, c] m)
    (hs : starEach [a, b, c] X.env = (false, eval a X.env) :: starEach [b, c] X.env := by rfl) (hpl : (backTo pos (starEach [b, c] X.env)).any (·.1) = false := by rfl) : SI X tg (.Call (.Name "range" p) [a, b, c] [] pos) (iRangeD m) := PI.imp (pi_range3 hg hm ha hs hpl) fun σ H Q h => by
  obtain ⟨ι, σ0, G, it, G1, rfl, so, R, e, p⟩ := h
  obtain ⟨⟨xs, G2⟩, e1, e⟩ := bnd e
  refine ⟨ι, σ0, G, xs, G2, rfl, so, R, e1, fun ι1 H1 a1 R1 l1 k1 => ?_⟩
  dsimp only at e
  split at e
  · split at e
    · rename_i z
      obtain ⟨rfl, z1, z2⟩ := z
      cases e
      exact ⟨_, _, _, _, rfl, RgC.neg (small62_of z1).1 (small62_of z1).2 (small62_of z2).1 (small62_of z2).2, p ι1 H1 a1 R1 l1 _ itD_ok⟩
    · cases e
  · cases e
/-! list(range(i, j, -1)) -/
def dgV (i : Int) (n : Nat) : List V := (List.range n).map fun (k : Nat) => V.int (i - (k : Int))
def ldg (i j : Int) (G : Hz) : Option (V × Hz) := if small62 i = true ∧ small62 j = true ∧ (i - j).toNat ≤ 2 ^ 24 then alloc (.lst (dgV i (i - j).toNat)) G else none
def eListD (a b : ME) : ME := fun σ G => (a σ G).bind fun p => (b σ p.2).bind fun q => match p.1, q.1 with
  | .int i, .int j => ldg i j q.2
  | _, _ => none
theorem dgV_mv {ι : Nat → Addr} (i : Int) (n : Nat) : (dgV i n).map (mv ι) = dgV i n := by
  unfold dgV
  rw [List.map_map]
  rfl
theorem dgV_ok {m : Nat} (i : Int) (n : Nat) : (dgV i n).all (okV m) = true := List.all_eq_true.mpr fun v hv => by
  unfold dgV at hv
  obtain ⟨k, _, rfl⟩ := List.mem_map.mp hv
  rfl
theorem vals_dg {i : Int} {n : Nat} {acc : Array Value} (h : ItemsOf (fun k v => ∃ t, v = .int (i + k * -1) t) acc n) : Vals (dgV i n) acc.toList := by
  have hl : acc.toList.length = n := by
    rw [Array.length_toList]
    exact h.1
  have := vals_of_get acc.toList (fun j => V.int (i - (j : Int))) fun j u e => by
    have e2 : acc[j]? = some u := by simpa using e
    obtain ⟨t, ht⟩ := h.2 j u e2
    refine ⟨t, ?_⟩
    rw [ht]
    congr 1
    omega
  rw [hl] at this
  exact this
theorem se_listD {m m' : ME} {c : Expr} {p pos p2 pos2 q1 q2 : Pos} {j : Nat} (hg : Gl X "list") (hm : X.mg "list" = none) (hg2 : Gl X "range") (hm2 : X.mg "range" = none) (h : SE X a m) (h' : SE X b m') (hn : SE X (.UnaryOp .USub (.Constant (.int 1) j q1) q2) (eC (.int (-1)))) (hc : X.calm = true := by rfl)
    (ec : c = .UnaryOp .USub (.Constant (.int 1) j q1) q2 := by rfl)
    (na : starEach [a, b, c] X.env = (false, eval a X.env) :: starEach [b, c] X.env := by rfl) (nb : starEach [b, c] X.env = (false, eval b X.env) :: starEach [c] X.env := by rfl) (nc : starEach [c] X.env = (false, eval c X.env) :: starEach [] X.env := by rfl)
    (hp : (backTo pos2 (starEach [b, c] X.env)).any (·.1) = false := by rfl)
    (nd : starEach [.Call (.Name "range" p2) [a, b, c] [] pos2] X.env = (false, eval (.Call (.Name "range" p2) [a, b, c] [] pos2) X.env) :: starEach [] X.env := by rfl) :
    SE X (.Call (.Name "list" p) [.Call (.Name "range" p2) [a, b, c] [] pos2] [] pos) (eListD m m') := by
  subst ec
  refine ⟨fun pins s σ H Q I hh => ?_⟩
  obtain ⟨ι, σ0, G, v, G', rfl, so, R, e, pz⟩ := hh
  obtain ⟨⟨x, G1⟩, e1, e⟩ := bnd e
  obtain ⟨⟨y, G2⟩, e2, e⟩ := bnd e
  have pa := sa_cons h (sa_cons h' (sa_cons hn sa_nil nc) nb) na
  refine Call_ (ld_blt I hg hm boot_list (PyProof.Rows.callWith_type1 (args_cons ?_ nd) nd))
  refine Call_ (ld_blt I hg2 hm2 boot_range (PyProof.Rows.callWith_type1 (thn (PA.run pa pos2 pins s _ H (fun vs H1 => ∃ (i j : Int) (ι1 : Nat → Addr), x = .int i ∧ y = .int j ∧ vs = [.int i, .int j, .int (-1)] ∧ Agr G.length ι ι1 ∧ Rel X.K ι1 G2 H1 ∧ G.length ≤ G2.length) I ?_) fun us s1 ⟨vs, H1, I1, r1, i, k, ι1, hx, hy, hvs, a1, R1, l1⟩ => ?_) na hp))
  · refine ⟨ι, σ0, G, [x, y, .int (-1)], G2, rfl, so, R, ?_, fun ι1 H1 a1 R1 l1 k1 => ?_⟩
    · show (m σ0 G).bind _ = _
      rw [e1]
      show ((m' σ0 G1).bind _).bind _ = _
      rw [e2]
      rfl
    · dsimp only at e
      split at e
      · exact ⟨_, _, ι1, rfl, rfl, rfl, a1, R1, l1⟩
      · cases e
  · subst hx hy hvs
    cases r1 with
    | cons r rr =>
      cases rr with
      | cons r' rr =>
        cases rr with
        | cons r'' rr =>
          cases rr
          obtain ⟨t, rfl⟩ := r
          obtain ⟨t', rfl⟩ := r'
          obtain ⟨t'', rfl⟩ := r''
          dsimp only at e
          unfold ldg at e
          split at e
          · rename_i z
            obtain ⟨z1, z2, z3⟩ := z
            obtain ⟨c0, c1, c2, c3⟩ := RgC.neg (small62_of z1).1 (small62_of z1).2 (small62_of z2).1 (small62_of z2).2
            refine call_range_3 (by decide) (args_nil ?_) (.inl (PyProof.noPylong_small (by decide)))
            generalize hs2 : ({ s1 with heap := s1.heap.push { cls := .type "range", data := .fields #[.int i t, .int k t', .int (-1) t''] } } : Shared) = s2
            have I2 : Inv X pins (ms ι σ0) H1 s2 := by
              rw [← hs2]
              exact I1.kept (t' := s1.toks) fun b o q => Heap.get?_push_of_some _ q
            have hr : IsRange s2.heap s1.heap.objs.size i k (-1) t t' t'' := by
              rw [← hs2]
              exact IsRange.new ..
            refine call_list_range (n := (i - k).toNat) (I2.ok.hd hc) hr c2 c3 z3 fun h' tk acc c' hk e' hi => ?_
            have A1 := Pz.alloc (o := .lst (dgV i (i - k).toNat)) R1 (dgV_ok _ _) rfl e (pz.from a1 l1) s2.heap.objs.size (I2.hok.fresh (Nat.le_refl _))
            rw [show O.ho ι1 (.lst (dgV i (i - k).toNat)) = .lst (dgV i (i - k).toNat) from congrArg HO.lst (dgV_mv _ _)] at A1
            refine ⟨.ref s2.heap.objs.size, upd H1 s2.heap.objs.size (.lst (dgV i (i - k).toNat)), I2.laid hk (Nat.le_refl _) (show ObjOk X.prog X.w _ _ _ (.lst (dgV i (i - k).toNat)) from ⟨?_, acc.toList, c', vals_dg hi, ?_⟩), rfl, A1⟩
            · unfold dgV
              rw [List.length_map, List.length_range, sizeLine_eq]
              exact z3
            · rw [Array.toArray_toList]
              exact e'
          · cases e
end
end Zl

namespace Zl
open PySem L2
/-- _law_draw(_law_source_here, _law_limit); slots 0:_law_source_here 1:_law_limit 2:_law_result 3:_law_mixed -/
def n_draw_k01 : MS := (sSeq (sIf (tE (eBin cGt (eBin xIx (eVar 0) (eC (.int 0))) (eC (.int 0)))) (sSeq (sAsg (eBin bMod (eBin xIx (eVar 0) (eC (.int 0))) (eVar 1)) (gSet 2)) (sSeq (sAsg (eBin bDiv (eBin xIx (eVar 0) (eC (.int 0))) (eVar 1)) (gPut pLst (eVar 0) (eC (.int 0)))) (sRet (eVar 2)))) sPass) (sSeq (sAsg (eBin bAdd (eBin xIx (eVar 0) (eC (.int 2))) (eC (.int 1))) (gPut pLst (eVar 0) (eC (.int 2)))) (sSeq (sAsg (eBin bMod (eBin bPow (eBin bAdd (eBin xIx (eVar 0) (eC (.int 1))) (eBin bMul (eC (.int 67867979)) (eBin xIx (eVar 0) (eC (.int 2))))) (eC (.int 3))) (eC (.int 1000000000000000000000000000000000000003))) (gSet 3)) (sSeq (sAsg (eBin bMod (eBin bPow (eBin bAdd (eVar 3) (eBin bMul (eC (.int 982451707)) (eBin xIx (eVar 0) (eC (.int 2))))) (eC (.int 2))) (eC (.int 10000000000000000000000000000000000043))) (gSet 3)) (sRet (eBin bMod (eBin bDiv (eVar 3) (eC (.int 10000000))) (eVar 1)))))))
def g_draw_k01 : FL := cutF (runD 4 n_draw_k01)
/-- _law_order(_law_source_here, _law_most); slots 0:_law_source_here 1:_law_most 2:_law_size 3:_law_style 4:_law_left 5:_law_last 6:_law_step 7:_law_turn 8:_law_found -/
def n_order_k06_B1 : MS := (sGc [7] (sSeq (sAsg (eBin bAdd (eBin bAdd (eVar 5) (eC (.int 1))) (eFn g_draw_k01 [] (aCons (eVar 0) (aCons (eVar 6) aNil)))) (gSet 5)) (sExpr (eMeth isLst mAppend (eVar 4) (aCons (eVar 5) aNil)))))
def n_order_k06_F1 : MS := sFor fuelN (iRange1 (aCons (eVar 2) aNil)) (gSet 7) n_order_k06_B1
def n_order_k06_B2 : MS := (sGc [] (sExpr (eMeth isLst mAppend (eVar 8) (aCons (eMeth isLst mPop (eVar 4) (aCons (eFn g_draw_k01 [] (aCons (eVar 0) (aCons (eCall fMin (aCons (eBin xIx (eLst (aCons (eC (.int 1)) (aCons (eC (.int 2)) (aCons (eC (.int 4)) (aCons (eC (.int 30)) aNil))))) (eVar 3)) (aCons (eCall fLen (aCons (eVar 4) aNil)) aNil))) aNil))) aNil)) aNil))))
def n_order_k06_W2 : MS := sWhile fuelN (tCut (tE (eBin cNe (eVar 4) (eLst aNil)))) n_order_k06_B2
def n_order_k06 : MS := (sSeq (sAsg (eTup (aCons (eFn g_draw_k01 [] (aCons (eVar 0) (aCons (eBin bAdd (eVar 1) (eC (.int 1))) aNil))) (aCons (eFn g_draw_k01 [] (aCons (eVar 0) (aCons (eC (.int 4)) aNil))) (aCons (eLst aNil) (aCons (eC (.int 0)) aNil))))) (gUn 4 (gsCons (gSet 2) (gsCons (gSet 3) (gsCons (gSet 4) (gsCons (gSet 5) gsNil)))))) (sSeq (sAsg (eCut (eBin xIx (eLst (aCons (eC (.int 1)) (aCons (eC (.int 3)) (aCons (eC (.int 33000000000000000000000000000)) aNil)))) (eFn g_draw_k01 [] (aCons (eVar 0) (aCons (eC (.int 3)) aNil))))) (gSet 6)) (sSeq n_order_k06_F1 (sSeq (sIf (tAndZ (tCut (tE (eBin cNe (eVar 4) (eLst aNil)))) (tE (eBin cEq (eFn g_draw_k01 [] (aCons (eVar 0) (aCons (eC (.int 4)) aNil))) (eC (.int 0))))) (sAsg (eC (.int 1000000000000000000000000000000)) (gPut pLst (eVar 4) (eC (.int (-1))))) sPass) (sSeq (sAsg (eLst aNil) (gSet 8)) (sSeq n_order_k06_W2 (sRet (eVar 8))))))))
def g_order_k06 : FL := cutF (runD 9 n_order_k06)
/-- is_integer(value, least, greatest); slots 0:value 1:least 2:greatest -/
def m_is_integer : MS := (sSeq (sIf (tOrZ (tNotZ (tE (eCall fIsi (aCons (eVar 0) (aCons (eC (.ty "int")) aNil))))) (tOrZ (tE (eCall fIsi (aCons (eVar 0) (aCons (eC (.ty "bool")) aNil)))) (tE (eBin cLt (eVar 0) (eVar 1))))) (sRet (eC (.bl false))) sPass) (sRet (eOr (eUn cIsN (eVar 2)) (eBin cLe (eVar 0) (eVar 2)))))
def f_is_integer : FL := cutF (runD 3 m_is_integer)
/-- require_moment(order, moment); slots 0:order 1:moment -/
def m_require_moment : MS := (sIf (tNotZ (tE (eFn f_is_integer [] (aCons (eVar 1) (aCons (eC (.int 0)) (aCons (eCall fLen (aCons (eVar 0) aNil)) aNil)))))) sNever sPass)
def f_require_moment : FL := cutF (runD 2 m_require_moment)
/-- is_id(value); slots 0:value -/
def m_is_id : MS := (sRet (eFn f_is_integer [] (aCons (eVar 0) (aCons (eC (.int 1)) (aCons (eC (.int 1000000000000000000000000000000)) aNil)))))
def f_is_id : FL := cutF (runD 1 m_is_id)
/-- is_order(value); slots 0:value 1:row -/
def m_is_order_C1 : ME := eComp fuelN true (iListZ (eVar 0)) [1] (gSet 1) tYesZ (eFn f_is_id [] (aCons (eVar 1) aNil))
def m_is_order : MS := (sSeq (sIf (tOrZ (tNotZ (tE (eCall fIsi (aCons (eVar 0) (aCons (eC (.ty "list")) aNil))))) (tOrZ (tE (eBin cGt (eCall fLen (aCons (eVar 0) aNil)) (eC (.int 30)))) (tNotZ (tCut (tE (eCall fAll (aCons m_is_order_C1 aNil))))))) (sRet (eC (.bl false))) sPass) (sRet (eBin cEq (eUn fLenSet (eVar 0)) (eCall fLen (aCons (eVar 0) aNil)))))
def f_is_order : FL := cutF (runD 2 m_is_order)
/-- require_order(order); slots 0:order -/
def m_require_order : MS := (sIf (tNotZ (tE (eFn f_is_order [] (aCons (eVar 0) aNil)))) sNever sPass)
def f_require_order : FL := cutF (runD 1 m_require_order)
/-- tops_in(order); slots 0:order 1:found 2:row -/
def m_tops_in_B1 : MS := (sGc [2] (sExpr (eMeth isLst mAppend (eVar 1) (aCons (eCall fMax (aCons (eBin xIx (eVar 1) (eC (.int (-1)))) (aCons (eVar 2) aNil))) aNil))))
def m_tops_in_F1 : MS := sFor fuelN (iListZ (eVar 0)) (gSet 2) m_tops_in_B1
def m_tops_in : MS := (sSeq (sAsg (eLst (aCons (eC (.int 0)) aNil)) (gSet 1)) (sSeq m_tops_in_F1 (sRet (eVar 1))))
def f_tops_in : FL := cutF (runD 3 m_tops_in)
/-- top_at(order, moment); slots 0:order 1:moment -/
def m_top_at : MS := (sSeq (sExpr (eFn f_require_order [] (aCons (eVar 0) aNil))) (sSeq (sExpr (eFn f_require_moment [] (aCons (eVar 0) (aCons (eVar 1) aNil)))) (sRet (eBin xIx (eFn f_tops_in [] (aCons (eVar 0) aNil)) (eVar 1)))))
def f_top_at : FL := cutF (runD 2 m_top_at)
/-- visible_at(order, moment); slots 0:order 1:moment -/
def m_visible_at : MS := (sSeq (sExpr (eFn f_require_order [] (aCons (eVar 0) aNil))) (sSeq (sExpr (eFn f_require_moment [] (aCons (eVar 0) (aCons (eVar 1) aNil)))) (sRet (eCall fSorted (aCons (eSlice xCut (eVar 0) oNone (oSome (eVar 1))) aNil)))))
def f_visible_at : FL := cutF (runD 2 m_visible_at)
/-- _law_right(_law_order_here); slots 0:_law_order_here 1:_law_kept 2:_law_top 3:_law_moment 4:_law_again 5:_law_told -/
def n_right_k06_B2 : MS := (sGc [4, 5] (sSeq (sAsg (eFn f_visible_at [] (aCons (eVar 0) (aCons (eVar 3) aNil))) (gSet 5)) (sSeq (sIf (tOrZ (tCut (tE (eBin cNe (eCall fReprZ (aCons (eVar 5) aNil)) (eCall fReprZ (aCons (eCall fSorted (aCons (eSlice xCut (eVar 0) oNone (oSome (eVar 3))) aNil)) aNil))))) (tCut (tE (eBin cNe (eCall fReprZ (aCons (eFn f_top_at [] (aCons (eVar 0) (aCons (eVar 3) aNil))) aNil)) (eCall fReprZ (aCons (eVar 2) aNil)))))) (sRet (eC (.bl false))) sPass) (sExpr (eMeth isLst mAppend (eVar 5) (aCons (eC (.int 1)) aNil))))))
def n_right_k06_F2 : MS := sFor fuelN (iRange1 (aCons (eC (.int 2)) aNil)) (gSet 4) n_right_k06_B2
def n_right_k06_B1 : MS := (sGc [3, 4, 5] (sSeq (sIf (tAndZ (tE (eBin cGt (eVar 3) (eC (.int 0)))) (tE (eBin cGt (eBin xIx (eVar 0) (eBin bSub (eVar 3) (eC (.int 1)))) (eVar 2)))) (sAsg (eBin xIx (eVar 0) (eBin bSub (eVar 3) (eC (.int 1)))) (gSet 2)) sPass) n_right_k06_F2))
def n_right_k06_F1 : MS := sFor fuelN (iRange1 (aCons (eBin bAdd (eCall fLen (aCons (eVar 0) aNil)) (eC (.int 1))) aNil)) (gSet 3) n_right_k06_B1
def n_right_k06 : MS := (sSeq (sPar [1, 2] (aCons (eCall fReprZ (aCons (eVar 0) aNil)) (aCons (eC (.int 0)) aNil))) (sSeq n_right_k06_F1 (sRet (eBin cEq (eCall fReprZ (aCons (eVar 0) aNil)) (eVar 1)))))
def g_right_k06 : FL := cutF (runD 6 n_right_k06)
/-- _law_source(_law_script, _law_k); slots 0:_law_script 1:_law_k 2:_law_cell -/
def n_source : MS := (sSeq (sAsg (eIf (tE (eBin cLt (eVar 1) (eCall fLen (aCons (eVar 0) aNil)))) (eBin xIx (eVar 0) (eVar 1)) (eC (.int 0))) (gSet 2)) (sRet (eLst (aCons (eCall fMax (aCons (eC (.int 0)) (aCons (eBin bSub (eVar 2) (eC (.int 1000000000000000000))) aNil))) (aCons (eBin bAdd (eBin bMul (eBin bAdd (eBin bMod (eVar 2) (eC (.int 100000000000000000000000000000000000133))) (eC (.int 1))) (eC (.int 64))) (eVar 1)) (aCons (eC (.int 0)) aNil))))))
def g_source : FL := cutF (runD 3 n_source)
/-- _law_danger(_law_order_here, _law_row); slots 0:_law_order_here 1:_law_row 2:_law_found 3:_law_moment -/
def n_danger_k08_C1 : ME := eComp fuelN true (iRange1 (aCons (eBin bAdd (eMeth isLst mIndex (eVar 0) (aCons (eVar 1) aNil)) (eC (.int 1))) aNil)) [3] (gSet 3) (tCut (tE (eBin cGt (eCall fMax (aCons (eBin bAdd (eLst (aCons (eC (.int 0)) aNil)) (eSlice xCut (eVar 0) oNone (oSome (eVar 3)))) aNil)) (eVar 1)))) (eVar 3)
def n_danger_k08 : MS := (sSeq (sAsg n_danger_k08_C1 (gSet 2)) (sRet (eIf (tCut (tE (eBin cNe (eVar 2) (eLst aNil)))) (eTup (aCons (eBin xIx (eVar 2) (eC (.int 0))) (aCons (eBin xIx (eVar 2) (eC (.int (-1)))) aNil))) (eC .non))))
def g_danger_k08 : FL := cutF (runD 4 n_danger_k08)
/-- danger_in(order, row); slots 0:order 1:row 2:place 3:moment 4:top -/
def m_danger_in_B1 : MS := (sGc [3, 4] (sIf (tE (eBin cGt (eVar 4) (eVar 1))) (sRet (eTup (aCons (eVar 3) (aCons (eVar 2) aNil)))) sPass))
def m_danger_in_F1 : MS := sFor fuelN (iEnumZ (aCons (eSlice xCut (eFn f_tops_in [] (aCons (eVar 0) aNil)) oNone (oSome (eBin bAdd (eVar 2) (eC (.int 1))))) aNil)) (gUn 2 (gsCons (gSet 3) (gsCons (gSet 4) gsNil))) m_danger_in_B1
def m_danger_in : MS := (sSeq (sAsg (eMeth isLst mIndex (eVar 0) (aCons (eVar 1) aNil)) (gSet 2)) (sSeq m_danger_in_F1 (sRet (eC .non))))
def f_danger_in : FL := cutF (runD 5 m_danger_in)
/-- require_id_of(order, row); slots 0:order 1:row -/
def m_require_id_of : MS := (sIf (tOrZ (tNotZ (tE (eFn f_is_id [] (aCons (eVar 1) aNil)))) (tE (eBin cNotIn (eVar 1) (eVar 0)))) sNever sPass)
def f_require_id_of : FL := cutF (runD 2 m_require_id_of)
/-- danger_of(order, row); slots 0:order 1:row -/
def m_danger_of : MS := (sSeq (sExpr (eFn f_require_order [] (aCons (eVar 0) aNil))) (sSeq (sExpr (eFn f_require_id_of [] (aCons (eVar 0) (aCons (eVar 1) aNil)))) (sRet (eFn f_danger_in [] (aCons (eVar 0) (aCons (eVar 1) aNil))))))
def f_danger_of : FL := cutF (runD 2 m_danger_of)
/-- safe_ids(order); slots 0:order 1:row -/
def m_safe_ids_C1 : ME := eComp fuelN true (iListZ (eVar 0)) [1] (gSet 1) (tCut (tE (eUn cIsN (eFn f_danger_in [] (aCons (eVar 0) (aCons (eVar 1) aNil)))))) (eVar 1)
def m_safe_ids : MS := (sSeq (sExpr (eFn f_require_order [] (aCons (eVar 0) aNil))) (sRet (eCall fSorted (aCons m_safe_ids_C1 aNil))))
def f_safe_ids : FL := cutF (runD 2 m_safe_ids)
/-- _law_right(_law_order_here); slots 0:_law_order_here 1:_law_kept 2:_law_due 3:_law_again 4:_law_told 5:_law_row -/
def n_right_k08_C1 : ME := eComp fuelN false (iListZ (eVar 0)) [5] (gSet 5) tYesZ (eTup (aCons (eVar 5) (aCons (eFn g_danger_k08 [] (aCons (eVar 0) (aCons (eVar 5) aNil))) aNil)))
def n_right_k08_C3 : ME := eComp fuelN true (iListZ (eVar 0)) [5] (gSet 5) (tCut (tE (eBin cNe (eCall fReprZ (aCons (eFn f_danger_of [] (aCons (eVar 0) (aCons (eVar 5) aNil))) aNil)) (eCall fReprZ (aCons (eBin xDK (eVar 2) (eVar 5)) aNil))))) (eVar 5)
def n_right_k08_C4 : ME := eComp fuelN true (iListZ (eVar 0)) [5] (gSet 5) (tE (eUn cIsN (eBin xDK (eVar 2) (eVar 5)))) (eVar 5)
def n_right_k08_B2 : MS := (sGc [3, 4] (sSeq (sIf (tCut (tE (eBin cNe n_right_k08_C3 (eLst aNil)))) (sRet (eC (.bl false))) sPass) (sSeq (sAsg (eFn f_safe_ids [] (aCons (eVar 0) aNil)) (gSet 4)) (sSeq (sIf (tCut (tE (eBin cNe (eCall fReprZ (aCons (eVar 4) aNil)) (eCall fReprZ (aCons (eCall fSorted (aCons n_right_k08_C4 aNil)) aNil))))) (sRet (eC (.bl false))) sPass) (sExpr (eMeth isLst mAppend (eVar 4) (aCons (eC (.int 1)) aNil)))))))
def n_right_k08_F2 : MS := sFor fuelN (iRange1 (aCons (eC (.int 2)) aNil)) (gSet 3) n_right_k08_B2
def n_right_k08 : MS := (sSeq (sAsg (eTup (aCons (eCall fReprZ (aCons (eVar 0) aNil)) (aCons (eCall fDictP (aCons n_right_k08_C1 aNil)) aNil))) (gUn 2 (gsCons (gSet 1) (gsCons (gSet 2) gsNil)))) (sSeq n_right_k08_F2 (sRet (eBin cEq (eCall fReprZ (aCons (eVar 0) aNil)) (eVar 1)))))
def g_right_k08 : FL := cutF (runD 6 n_right_k08)
/-- law(_law_script); slots 0:_law_script 1:_law_k 2:_law_source_here 3:_law_turn 4:_law_order_here 5:_law_row -/
def n_law_k08_B2 : MS := (sGc [3, 4] (sSeq (sAsg (eCut (eFn g_order_k06 [] (aCons (eVar 2) (aCons (eBin xIx (eLst (aCons (eC (.int 30)) (aCons (eC (.int 9)) aNil))) (eCall fInt (aCons (eBin cGt (eVar 3) (eC (.int 0))) aNil))) aNil)))) (gSet 4)) (sSeq (sIf (tNotZ (tE (eFn g_right_k08 [] (aCons (eVar 4) aNil)))) (sRet (eC (.bl false))) sPass) (sIf (tE (eBin cGt (eCall fLen (aCons (eVar 4) aNil)) (eC (.int 1)))) (sSeq (sExpr (eMeth isLst mInsert (eVar 4) (aCons (eC (.int 0)) (aCons (eMeth isLst mPop (eVar 4) (aCons (eMeth isLst mIndex (eVar 4) (aCons (eCall fMax (aCons (eVar 4) aNil)) aNil)) aNil)) aNil)))) (sSeq (sIf (tNotZ (tE (eFn g_right_k08 [] (aCons (eVar 4) aNil)))) (sRet (eC (.bl false))) sPass) (sSeq (sExpr (eMeth isLst mPop (eVar 4) (aCons (eC (.int 0)) aNil))) (sIf (tNotZ (tE (eFn g_right_k08 [] (aCons (eVar 4) aNil)))) (sRet (eC (.bl false))) sPass)))) sPass))))
def n_law_k08_F2 : MS := sFor fuelN (iRange1 (aCons (eC (.int 3)) aNil)) (gSet 3) n_law_k08_B2
def n_law_k08_B1 : MS := (sGc [1, 2, 3, 4] (sSeq (sAsg (eFn g_source [] (aCons (eVar 0) (aCons (eVar 1) aNil))) (gSet 2)) n_law_k08_F2))
def n_law_k08_F1 : MS := sFor fuelN (iRange1 (aCons (eCall fMax (aCons (eC (.int 1)) (aCons (eCall fMin (aCons (eC (.int 5)) (aCons (eCall fLen (aCons (eVar 0) aNil)) aNil))) aNil))) aNil)) (gSet 1) n_law_k08_B1
def n_law_k08_C3 : ME := eComp fuelN true (iListZ (eLst (aCons (eC (.int 30)) (aCons (eC (.int 1)) (aCons (eC (.int 29)) aNil))))) [5] (gSet 5) tYesZ (eFn f_danger_of [] (aCons (eVar 4) (aCons (eVar 5) aNil)))
def n_law_k08 : MS := (sSeq n_law_k08_F1 (sSeq (sAsg (eCut (eBin bAdd (eLst (aCons (eC (.int 30)) aNil)) (eListR2 (eC (.int 1)) (eC (.int 30))))) (gSet 4)) (sRet (eAnd (eBin cEq n_law_k08_C3 (eLst (aCons (eC .non) (aCons (eTup (aCons (eC (.int 1)) (aCons (eC (.int 1)) aNil))) (aCons (eTup (aCons (eC (.int 1)) (aCons (eC (.int 29)) aNil))) aNil))))) (eBin cEq (eFn f_safe_ids [] (aCons (eVar 4) aNil)) (eLst (aCons (eC (.int 30)) aNil)))))))
def g_law_k08 : FL := runD 6 n_law_k08
/-- _law_missed(_law_order_here, _law_moment); slots 0:_law_order_here 1:_law_moment 2:_law_row 3:_law_one -/
def n_missed_k07_C1 : ME := eComp fuelN true (iListZ (eSlice xCut (eVar 0) oNone (oSome (eVar 1)))) [3] (gSet 3) (tE (eBin cGt (eVar 3) (eVar 2))) (eVar 3)
def n_missed_k07_C2 : ME := eComp fuelN true (iListZ (eSlice xCut (eVar 0) (oSome (eVar 1)) oNone)) [2] (gSet 2) (tCut (tE (eBin cNe n_missed_k07_C1 (eLst aNil)))) (eVar 2)
def n_missed_k07 : MS := (sRet (eCall fSorted (aCons n_missed_k07_C2 aNil)))
def g_missed_k07 : FL := cutF (runD 4 n_missed_k07)
/-- missed_at(order, moment); slots 0:order 1:moment 2:top 3:row -/
def m_missed_at_C1 : ME := eComp fuelN true (iListZ (eSlice xCut (eVar 0) (oSome (eVar 1)) oNone)) [3] (gSet 3) (tE (eBin cLt (eVar 3) (eVar 2))) (eVar 3)
def m_missed_at : MS := (sSeq (sExpr (eFn f_require_order [] (aCons (eVar 0) aNil))) (sSeq (sExpr (eFn f_require_moment [] (aCons (eVar 0) (aCons (eVar 1) aNil)))) (sSeq (sAsg (eCut (eBin xIx (eFn f_tops_in [] (aCons (eVar 0) aNil)) (eVar 1))) (gSet 2)) (sRet (eCall fSorted (aCons m_missed_at_C1 aNil))))))
def f_missed_at : FL := cutF (runD 4 m_missed_at)
/-- missed_counts(order); slots 0:order 1:ranks 2:rank 3:row 4:moment 5:top -/
def m_missed_counts_C1 : ME := eDComp fuelN true (iEnumS 1 (eCall fSorted (aCons (eVar 0) aNil))) [2, 3] (gUn 2 (gsCons (gSet 2) (gsCons (gSet 3) gsNil))) tYesZ (eVar 3) (eVar 2)
def m_missed_counts_C2 : ME := eComp fuelN true (iEnumZ (aCons (eFn f_tops_in [] (aCons (eVar 0) aNil)) aNil)) [4, 5] (gUn 2 (gsCons (gSet 4) (gsCons (gSet 5) gsNil))) tYesZ (eBin bSub (eGet2 (eVar 1) (eVar 5) (eC (.int 0))) (eVar 4))
def m_missed_counts : MS := (sSeq (sExpr (eFn f_require_order [] (aCons (eVar 0) aNil))) (sSeq (sAsg (eCut m_missed_counts_C1) (gSet 1)) (sRet m_missed_counts_C2)))
def f_missed_counts : FL := cutF (runD 6 m_missed_counts)
/-- _law_draw(_law_pool_here, _law_many); slots 0:_law_pool_here 1:_law_many 2:_law_drawn 3:_law_mixed -/
def n_draw_k00 : MS := (sSeq (sIf (tE (eBin cGt (eBin xIx (eVar 0) (eC (.int 0))) (eC (.int 0)))) (sSeq (sAsg (eBin bMod (eBin xIx (eVar 0) (eC (.int 0))) (eVar 1)) (gSet 2)) (sSeq (sAsg (eBin bDiv (eBin xIx (eVar 0) (eC (.int 0))) (eVar 1)) (gPut pLst (eVar 0) (eC (.int 0)))) (sRet (eVar 2)))) sPass) (sSeq (sAsg (eBin bAdd (eBin xIx (eVar 0) (eC (.int 2))) (eC (.int 1))) (gPut pLst (eVar 0) (eC (.int 2)))) (sSeq (sAsg (eBin bMod (eBin bPow (eBin bAdd (eBin xIx (eVar 0) (eC (.int 1))) (eBin bMul (eC (.int 104729)) (eBin xIx (eVar 0) (eC (.int 2))))) (eC (.int 3))) (eC (.int 618970019642690137449562111))) (gSet 3)) (sSeq (sAsg (eBin bMod (eBin bPow (eBin bAdd (eVar 3) (eBin bMul (eC (.int 1299709)) (eBin xIx (eVar 0) (eC (.int 2))))) (eC (.int 3))) (eC (.int 162259276829213363391578010288127))) (gSet 3)) (sRet (eBin bMod (eBin bDiv (eVar 3) (eC (.int 4096))) (eVar 1)))))))
def g_draw_k00 : FL := cutF (runD 4 n_draw_k00)
/-- _law_order(_law_pool_here, _law_most); slots 0:_law_pool_here 1:_law_most 2:_law_gap 3:_law_most_out 4:_law_row 5:_law_left 6:_law_turn 7:_law_found -/
def n_order_k11_B1 : MS := (sGc [6] (sSeq (sAsg (eBin bAdd (eBin bAdd (eVar 4) (eC (.int 1))) (eFn g_draw_k00 [] (aCons (eVar 0) (aCons (eVar 2) aNil)))) (gSet 4)) (sExpr (eMeth isLst mAppend (eVar 5) (aCons (eVar 4) aNil)))))
def n_order_k11_F1 : MS := sFor fuelN (iRange1 (aCons (eFn g_draw_k00 [] (aCons (eVar 0) (aCons (eBin bAdd (eVar 1) (eC (.int 1))) aNil))) aNil)) (gSet 6) n_order_k11_B1
def n_order_k11_B2 : MS := (sGc [] (sExpr (eMeth isLst mAppend (eVar 7) (aCons (eMeth isLst mPop (eVar 5) (aCons (eFn g_draw_k00 [] (aCons (eVar 0) (aCons (eCall fMin (aCons (eVar 3) (aCons (eCall fLen (aCons (eVar 5) aNil)) aNil))) aNil))) aNil)) aNil))))
def n_order_k11_W2 : MS := sWhile fuelN (tCut (tE (eBin cNe (eVar 5) (eLst aNil)))) n_order_k11_B2
def n_order_k11 : MS := (sSeq (sAsg (eTup (aCons (eBin xIx (eLst (aCons (eC (.int 1)) (aCons (eC (.int 3)) (aCons (eC (.int 33000000000000000000000000000)) aNil)))) (eFn g_draw_k00 [] (aCons (eVar 0) (aCons (eC (.int 3)) aNil)))) (aCons (eBin xIx (eLst (aCons (eC (.int 1)) (aCons (eC (.int 2)) (aCons (eC (.int 4)) (aCons (eC (.int 40)) aNil))))) (eFn g_draw_k00 [] (aCons (eVar 0) (aCons (eC (.int 4)) aNil)))) (aCons (eC (.int 0)) (aCons (eLst aNil) aNil))))) (gUn 4 (gsCons (gSet 2) (gsCons (gSet 3) (gsCons (gSet 4) (gsCons (gSet 5) gsNil)))))) (sSeq n_order_k11_F1 (sSeq (sAsg (eLst aNil) (gSet 7)) (sSeq n_order_k11_W2 (sRet (eIf (tE (eBin cEq (eFn g_draw_k00 [] (aCons (eVar 0) (aCons (eC (.int 8)) aNil))) (eC (.int 0)))) (eUn fRev (eVar 7)) (eVar 7)))))))
def g_order_k11 : FL := cutF (runD 8 n_order_k11)
/-- _law_pool(_law_script, _law_at); slots 0:_law_script 1:_law_at 2:_law_cell -/
def n_pool : MS := (sSeq (sAsg (eIf (tE (eBin cLt (eVar 1) (eCall fLen (aCons (eVar 0) aNil)))) (eBin xIx (eVar 0) (eVar 1)) (eC (.int 0))) (gSet 2)) (sRet (eLst (aCons (eCall fMax (aCons (eC (.int 0)) (aCons (eBin bSub (eCall fAbs (aCons (eVar 2) aNil)) (eC (.int 1000000000000000000))) aNil))) (aCons (eBin bAdd (eBin bMod (eVar 2) (eC (.int 2305843009213693951))) (eBin bMul (eC (.int 7919)) (eBin bAdd (eVar 1) (eC (.int 1))))) (aCons (eC (.int 0)) aNil))))))
def g_pool : FL := cutF (runD 3 n_pool)
/-- _law_looks(_law_pool_here, _law_size, _law_most); slots 0:_law_pool_here 1:_law_size 2:_law_most 3:_law_found 4:_law_turn -/
def n_looks_C1 : ME := eComp fuelN true (iRange1 (aCons (eFn g_draw_k00 [] (aCons (eVar 0) (aCons (eBin bAdd (eVar 2) (eC (.int 1))) aNil))) aNil)) [4] (gSet 4) tYesZ (eFn g_draw_k00 [] (aCons (eVar 0) (aCons (eBin bAdd (eVar 1) (eC (.int 1))) aNil)))
def n_looks : MS := (sSeq (sIf (tAndZ (tE (eBin cEq (eFn g_draw_k00 [] (aCons (eVar 0) (aCons (eC (.int 6)) aNil))) (eC (.int 0)))) (tE (eBin cLt (eVar 1) (eVar 2)))) (sRet (eListR1 (eBin bAdd (eVar 1) (eC (.int 1))))) sPass) (sSeq (sAsg (eCut (eCall fSorted (aCons n_looks_C1 aNil))) (gSet 3)) (sSeq (sIf (tAndZ (tCut (tE (eBin cNe (eVar 3) (eLst aNil)))) (tE (eBin cEq (eFn g_draw_k00 [] (aCons (eVar 0) (aCons (eC (.int 2)) aNil))) (eC (.int 0))))) (sAsg (eVar 1) (gPut pLst (eVar 3) (eC (.int (-1))))) sPass) (sRet (eVar 3)))))
def g_looks : FL := cutF (runD 5 n_looks)
/-- _law_missed(_law_row_ids, _law_lists); slots 0:_law_row_ids 1:_law_lists 2:_law_every 3:_law_rows 4:_law_row -/
def n_missed_B1 : MS := (sWipe [3] (sAsg (eBin bAdd (eVar 2) (eVar 3)) (gSet 2)))
def n_missed_F1 : MS := sFor fuelN (iListZ (eVar 1)) (gSet 3) n_missed_B1
def n_missed_C2 : ME := eComp fuelN true (iListZ (eVar 0)) [4] (gSet 4) (tAndZ (tE (eBin cNotIn (eVar 4) (eVar 2))) (tCut (tE (eBin cLt (eVar 4) (eCall fMax (aCons (eBin bAdd (eLst (aCons (eC (.int 0)) aNil)) (eVar 2)) aNil)))))) (eVar 4)
def n_missed : MS := (sSeq (sAsg (eLst aNil) (gSet 2)) (sSeq n_missed_F1 (sRet (eCall fSorted (aCons n_missed_C2 aNil)))))
def g_missed : FL := cutF (runD 5 n_missed)
/-- _law_play(_law_row_ids, _law_looks_here, _law_near, _law_patience, _law_most); slots 0:_law_row_ids 1:_law_looks_here 2:_law_near 3:_law_patience 4:_law_most 5:_law_found 6:_law_cursors 7:_law_gone 8:_law_look 9:_law_due 10:_law_row 11:_law_lately 12:_law_passed 13:_law_spot -/
def n_play_C3 : ME := eComp fuelN true (iListZ (eVar 11)) [13] (gSet 13) (tE (eChain cLt cLt (eBin xIx (eVar 6) (eVar 13)) (eVar 10) (eBin xIx (eVar 6) (eBin bAdd (eVar 13) (eC (.int 1)))))) (eVar 13)
def n_play_B2 : MS := (sGc [10, 11, 12, 13] (sSeq (sAsg (eCut (eListR2 (eCall fMax (aCons (eC (.int 0)) (aCons (eBin bSub (eCall fLen (aCons (eVar 5) aNil)) (eVar 3)) aNil))) (eCall fLen (aCons (eVar 5) aNil)))) (gSet 11)) (sSeq (sAsg n_play_C3 (gSet 12)) (sIf (tAndZ (tE (eBin cNotIn (eVar 10) (eVar 7))) (tOrZ (tE (eBin cGt (eVar 10) (eBin bSub (eBin xIx (eVar 6) (eC (.int (-1)))) (eVar 2)))) (tCut (tE (eBin cNe (eVar 12) (eLst aNil)))))) (sExpr (eMeth isLst mAppend (eVar 9) (aCons (eVar 10) aNil))) sPass))))
def n_play_F2 : MS := sFor fuelN (iListZ (eCall fSorted (aCons (eSlice xCut (eVar 0) oNone (oSome (eVar 8))) aNil))) (gSet 10) n_play_B2
def n_play_B1 : MS := (sWipe [8, 9, 10, 11, 12, 13] (sSeq (sAsg (eLst aNil) (gSet 9)) (sSeq n_play_F2 (sSeq (sIf (tE (eBin cGt (eVar 4) (eC (.int 0)))) (sAsg (eSlice xCut (eVar 9) oNone (oSome (eVar 4))) (gSet 9)) sPass) (sSeq (sAsg (eBin bAdd (eVar 7) (eVar 9)) (gSet 7)) (sSeq (sExpr (eMeth isLst mAppend (eVar 6) (aCons (eCall fMax (aCons (eBin bAdd (eLst (aCons (eBin xIx (eVar 6) (eC (.int (-1)))) aNil)) (eVar 9)) aNil)) aNil))) (sExpr (eMeth isLst mAppend (eVar 5) (aCons (eVar 9) aNil)))))))))
def n_play_F1 : MS := sFor fuelN (iListZ (eVar 1)) (gSet 8) n_play_B1
def n_play : MS := (sSeq (sAsg (eTup (aCons (eLst aNil) (aCons (eLst (aCons (eC (.int 0)) aNil)) (aCons (eLst aNil) aNil)))) (gUn 3 (gsCons (gSet 5) (gsCons (gSet 6) (gsCons (gSet 7) gsNil))))) (sSeq n_play_F1 (sRet (eVar 5))))
def g_play : FL := runD 14 n_play
/-- _law_lost(_law_row_ids, _law_looks_here, _law_size); slots 0:_law_row_ids 1:_law_looks_here 2:_law_size -/
def n_lost_k29 : MS := (sRet (eFn g_missed [] (aCons (eVar 0) (aCons (eFn g_play [] (aCons (eVar 0) (aCons (eVar 1) (aCons (eVar 2) (aCons (eC (.int 0)) (aCons (eC (.int 0)) aNil)))))) aNil))))
def g_lost_k29 : FL := cutF (runD 3 n_lost_k29)
/-- greatest_reach(order); slots 0:order 1:tops 2:place 3:row -/
def m_greatest_reach_C1 : ME := eComp fuelN true (iEnumZ (aCons (eVar 0) aNil)) [2, 3] (gUn 2 (gsCons (gSet 2) (gsCons (gSet 3) gsNil))) tYesZ (eBin bAdd (eBin bSub (eBin xIx (eVar 1) (eVar 2)) (eVar 3)) (eC (.int 1)))
def m_greatest_reach : MS := (sSeq (sExpr (eFn f_require_order [] (aCons (eVar 0) aNil))) (sSeq (sAsg (eFn f_tops_in [] (aCons (eVar 0) aNil)) (gSet 1)) (sRet (eCall fMax (aCons (eBin bAdd (eLst (aCons (eC (.int 1)) aNil)) m_greatest_reach_C1) aNil)))))
def f_greatest_reach : FL := cutF (runD 4 m_greatest_reach)
/-- _law_right(_law_pool_here, _law_row_ids); slots 0:_law_pool_here 1:_law_row_ids 2:_law_kept 3:_law_every 4:_law_size 5:_law_turn 6:_law_looks_here -/
def n_right_k29_B1 : MS := (sGc [5, 6] (sSeq (sAsg (eCut (eBin bAdd (eFn g_looks [] (aCons (eVar 0) (aCons (eCall fLen (aCons (eVar 1) aNil)) (aCons (eC (.int 29)) aNil)))) (eLst (aCons (eCall fLen (aCons (eVar 1) aNil)) aNil)))) (gSet 6)) (sIf (tAndZ (tE (eBin cLt (eCall fLen (aCons (eVar 6) aNil)) (eC (.int 31)))) (tCut (tE (eBin cNe (eFn g_lost_k29 [] (aCons (eVar 1) (aCons (eVar 6) (aCons (eVar 4) aNil)))) (eLst aNil))))) (sRet (eC (.bl false))) sPass)))
def n_right_k29_F1 : MS := sFor fuelN (iRange1 (aCons (eC (.int 2)) aNil)) (gSet 5) n_right_k29_B1
def n_right_k29 : MS := (sSeq (sPar [2, 3] (aCons (eCall fReprZ (aCons (eVar 1) aNil)) (aCons (eListR1 (eBin bAdd (eCall fLen (aCons (eVar 1) aNil)) (eC (.int 1)))) aNil))) (sSeq (sAsg (eFn f_greatest_reach [] (aCons (eVar 1) aNil)) (gSet 4)) (sSeq (sIf (tOrZ (tE (eBin cNe (eCall fReprZ (aCons (eVar 4) aNil)) (eCall fReprZ (aCons (eFn f_greatest_reach [] (aCons (eVar 1) aNil)) aNil)))) (tNotZ (tE (eCall fIsi (aCons (eVar 4) (aCons (eC (.ty "int")) aNil)))))) (sRet (eC (.bl false))) sPass) (sSeq (sIf (tE (eBin cNe (eCall fReprZ (aCons (eVar 1) aNil)) (eVar 2))) (sRet (eC (.bl false))) sPass) (sSeq (sIf (tOrZ (tCut (tE (eBin cNe (eBin cEq (eVar 4) (eC (.int 1))) (eBin cEq (eVar 1) (eCall fSorted (aCons (eVar 1) aNil)))))) (tE (eBin cLt (eVar 4) (eC (.int 1))))) (sRet (eC (.bl false))) sPass) (sSeq (sIf (tCut (tE (eBin cNe (eFn g_lost_k29 [] (aCons (eVar 1) (aCons (eVar 3) (aCons (eVar 4) aNil)))) (eLst aNil)))) (sRet (eC (.bl false))) sPass) (sSeq (sIf (tAndZ (tE (eBin cGt (eVar 4) (eC (.int 1)))) (tCut (tE (eBin cEq (eFn g_lost_k29 [] (aCons (eVar 1) (aCons (eVar 3) (aCons (eBin bSub (eVar 4) (eC (.int 1))) aNil)))) (eLst aNil))))) (sRet (eC (.bl false))) sPass) (sSeq n_right_k29_F1 (sRet (eC (.bl true)))))))))))
def g_right_k29 : FL := cutF (runD 7 n_right_k29)
/-- law(_law_script); slots 0:_law_script 1:_law_at 2:_law_pool_here 3:_law_most 4:_law_row_ids -/
def n_law_k29_B2 : MS := (sGc [3, 4] (sSeq (sAsg (eFn g_order_k11 [] (aCons (eVar 2) (aCons (eVar 3) aNil))) (gSet 4)) (sSeq (sIf (tNotZ (tE (eFn g_right_k29 [] (aCons (eVar 2) (aCons (eVar 4) aNil))))) (sRet (eC (.bl false))) sPass) (sSeq (sExpr (eMeth isLst mReverse (eVar 4) aNil)) (sIf (tNotZ (tE (eFn g_right_k29 [] (aCons (eVar 2) (aCons (eVar 4) aNil))))) (sRet (eC (.bl false))) sPass)))))
def n_law_k29_F2 : MS := sFor fuelN (iListZ (eLst (aCons (eC (.int 8)) (aCons (eBin xIx (eLst (aCons (eC (.int 30)) (aCons (eC (.int 12)) aNil))) (eCall fInt (aCons (eBin cGt (eVar 1) (eC (.int 0))) aNil))) aNil)))) (gSet 3) n_law_k29_B2
def n_law_k29_B1 : MS := (sGc [1, 2, 3, 4] (sSeq (sAsg (eFn g_pool [] (aCons (eVar 0) (aCons (eVar 1) aNil))) (gSet 2)) n_law_k29_F2))
def n_law_k29_F1 : MS := sFor fuelN (iRange1 (aCons (eCall fMax (aCons (eC (.int 1)) (aCons (eCall fMin (aCons (eC (.int 5)) (aCons (eCall fLen (aCons (eVar 0) aNil)) aNil))) aNil))) aNil)) (gSet 1) n_law_k29_B1
def n_law_k29_C3 : ME := eComp fuelN true (iListZ (eLst (aCons (eLst (aCons (eC (.int 2)) (aCons (eC (.int 1)) aNil))) (aCons (eLst (aCons (eC (.int 1000000000000000000000000000000)) (aCons (eC (.int 1)) aNil))) (aCons (eLst aNil) (aCons (eLst (aCons (eC (.int 4)) aNil)) aNil)))))) [4] (gSet 4) tYesZ (eFn f_greatest_reach [] (aCons (eVar 4) aNil))
def n_law_k29 : MS := (sSeq n_law_k29_F1 (sRet (eBin cEq n_law_k29_C3 (eLst (aCons (eC (.int 2)) (aCons (eC (.int 1000000000000000000000000000000)) (aCons (eC (.int 1)) (aCons (eC (.int 1)) aNil))))))))
def g_law_k29 : FL := runD 5 n_law_k29
end Zl
namespace Zl.K29
open PySem PySem.Spec L2 Zl
open PyProof.Rows hiding St

abbrev topS (i : Nat) : Stmt := PySem.Challenge.pw_lateids_k29_greatest_reach.main.body.getD i (.Pass ⟨0, 0, 0, 0⟩)
structure Txt (K : PySem.W.Frag) (mg : Str → Option Value) : Prop where
  b_len : mg "len" = none
  b_min : mg "min" = none
  b_range : mg "range" = none
  g__law_draw : mg "_law_draw" = some (.ref (He.ga K "_law_draw"))
  k__law_draw : PySem.W.keepIn K (.ref (He.ga K "_law_draw")) = true
  b_abs : mg "abs" = none
  b_max : mg "max" = none
  b_list : mg "list" = none
  b_sorted : mg "sorted" = none
  g__law_missed : mg "_law_missed" = some (.ref (He.ga K "_law_missed"))
  k__law_missed : PySem.W.keepIn K (.ref (He.ga K "_law_missed")) = true
  g__law_play : mg "_law_play" = some (.ref (He.ga K "_law_play"))
  k__law_play : PySem.W.keepIn K (.ref (He.ga K "_law_play")) = true
  b_bool : mg "bool" = none
  b_int : mg "int" = none
  b_isinstance : mg "isinstance" = none
  g_is_integer : mg "is_integer" = some (.ref (He.ga K "is_integer"))
  k_is_integer : PySem.W.keepIn K (.ref (He.ga K "is_integer")) = true
  i_GREATEST : ∃ t, mg "GREATEST" = some (.int 1000000000000000000000000000000 t)
  b_all : mg "all" = none
  b_set : mg "set" = none
  g_is_id : mg "is_id" = some (.ref (He.ga K "is_id"))
  k_is_id : PySem.W.keepIn K (.ref (He.ga K "is_id")) = true
  i_MOST_IDS : ∃ t, mg "MOST_IDS" = some (.int 30 t)
  g_is_order : mg "is_order" = some (.ref (He.ga K "is_order"))
  k_is_order : PySem.W.keepIn K (.ref (He.ga K "is_order")) = true
  b_enumerate : mg "enumerate" = none
  g_require_order : mg "require_order" = some (.ref (He.ga K "require_order"))
  k_require_order : PySem.W.keepIn K (.ref (He.ga K "require_order")) = true
  g_tops_in : mg "tops_in" = some (.ref (He.ga K "tops_in"))
  k_tops_in : PySem.W.keepIn K (.ref (He.ga K "tops_in")) = true
  b_repr : mg "repr" = none
  g__law_looks : mg "_law_looks" = some (.ref (He.ga K "_law_looks"))
  k__law_looks : PySem.W.keepIn K (.ref (He.ga K "_law_looks")) = true
  g__law_lost : mg "_law_lost" = some (.ref (He.ga K "_law_lost"))
  k__law_lost : PySem.W.keepIn K (.ref (He.ga K "_law_lost")) = true
  g_greatest_reach : mg "greatest_reach" = some (.ref (He.ga K "greatest_reach"))
  k_greatest_reach : PySem.W.keepIn K (.ref (He.ga K "greatest_reach")) = true
  g__law_order : mg "_law_order" = some (.ref (He.ga K "_law_order"))
  k__law_order : PySem.W.keepIn K (.ref (He.ga K "_law_order")) = true
  g__law_pool : mg "_law_pool" = some (.ref (He.ga K "_law_pool"))
  k__law_pool : PySem.W.keepIn K (.ref (He.ga K "_law_pool")) = true
  g__law_right : mg "_law_right" = some (.ref (He.ga K "_law_right"))
  k__law_right : PySem.W.keepIn K (.ref (He.ga K "_law_right")) = true
abbrev s__law_draw : Stmt := topS 16
abbrev FnP__law_draw (K : PySem.W.Frag) (fd : FuncData) : Prop := FunD K "_law_draw" "_law_draw" (defArgs s__law_draw) (defBody s__law_draw) (defScope s__law_draw) [] [] (He.ga K "_law_draw") fd
theorem sc__law_draw : FnScope ["_law_pool_here", "_law_many", "_law_drawn", "_law_mixed"] ["_law_pool_here", "_law_many"] (defScope s__law_draw) := ⟨rfl, rfl, rfl, by decide +kernel, rfl, by decide +kernel, by decide +kernel⟩
abbrev s__law_order : Stmt := topS 18
abbrev FnP__law_order (K : PySem.W.Frag) (fd : FuncData) : Prop := FunD K "_law_order" "_law_order" (defArgs s__law_order) (defBody s__law_order) (defScope s__law_order) [] [] (He.ga K "_law_order") fd
theorem sc__law_order : FnScope ["_law_pool_here", "_law_most", "_law_gap", "_law_most_out", "_law_row", "_law_left", "_law_turn", "_law_found"] ["_law_pool_here", "_law_most"] (defScope s__law_order) := ⟨rfl, rfl, rfl, by decide +kernel, rfl, by decide +kernel, by decide +kernel⟩
abbrev s__law_pool : Stmt := topS 15
abbrev FnP__law_pool (K : PySem.W.Frag) (fd : FuncData) : Prop := FunD K "_law_pool" "_law_pool" (defArgs s__law_pool) (defBody s__law_pool) (defScope s__law_pool) [] [] (He.ga K "_law_pool") fd
theorem sc__law_pool : FnScope ["_law_script", "_law_at", "_law_cell"] ["_law_script", "_law_at"] (defScope s__law_pool) := ⟨rfl, rfl, rfl, by decide +kernel, rfl, by decide +kernel, by decide +kernel⟩
abbrev s__law_looks : Stmt := topS 19
abbrev FnP__law_looks (K : PySem.W.Frag) (fd : FuncData) : Prop := FunD K "_law_looks" "_law_looks" (defArgs s__law_looks) (defBody s__law_looks) (defScope s__law_looks) [] [] (He.ga K "_law_looks") fd
theorem sc__law_looks : FnScope ["_law_pool_here", "_law_size", "_law_most", "_law_found", "_law_turn"] ["_law_pool_here", "_law_size", "_law_most"] (defScope s__law_looks) := ⟨rfl, rfl, rfl, by decide +kernel, rfl, by decide +kernel, by decide +kernel⟩
abbrev s__law_missed : Stmt := topS 21
abbrev FnP__law_missed (K : PySem.W.Frag) (fd : FuncData) : Prop := FunD K "_law_missed" "_law_missed" (defArgs s__law_missed) (defBody s__law_missed) (defScope s__law_missed) [] [] (He.ga K "_law_missed") fd
theorem sc__law_missed : FnScope ["_law_row_ids", "_law_lists", "_law_every", "_law_rows", "_law_row"] ["_law_row_ids", "_law_lists"] (defScope s__law_missed) := ⟨rfl, rfl, rfl, by decide +kernel, rfl, by decide +kernel, by decide +kernel⟩
abbrev s__law_play : Stmt := topS 20
abbrev FnP__law_play (K : PySem.W.Frag) (fd : FuncData) : Prop := FunD K "_law_play" "_law_play" (defArgs s__law_play) (defBody s__law_play) (defScope s__law_play) [] [] (He.ga K "_law_play") fd
theorem sc__law_play : FnScope ["_law_row_ids", "_law_looks_here", "_law_near", "_law_patience", "_law_most", "_law_found", "_law_cursors", "_law_gone", "_law_look", "_law_due", "_law_row", "_law_lately", "_law_passed", "_law_spot"] ["_law_row_ids", "_law_looks_here", "_law_near", "_law_patience", "_law_most"] (defScope s__law_play) := ⟨rfl, rfl, rfl, by decide +kernel, rfl, by decide +kernel, by decide +kernel⟩
abbrev s__law_lost : Stmt := topS 22
abbrev FnP__law_lost (K : PySem.W.Frag) (fd : FuncData) : Prop := FunD K "_law_lost" "_law_lost" (defArgs s__law_lost) (defBody s__law_lost) (defScope s__law_lost) [] [] (He.ga K "_law_lost") fd
theorem sc__law_lost : FnScope ["_law_row_ids", "_law_looks_here", "_law_size"] ["_law_row_ids", "_law_looks_here", "_law_size"] (defScope s__law_lost) := ⟨rfl, rfl, rfl, by decide +kernel, rfl, by decide +kernel, by decide +kernel⟩
abbrev s_is_integer : Stmt := topS 6
abbrev FnP_is_integer (K : PySem.W.Frag) (fd : FuncData) : Prop := FunD K "is_integer" "is_integer" (defArgs s_is_integer) (defBody s_is_integer) (defScope s_is_integer) [.non] [] (He.ga K "is_integer") fd
theorem sc_is_integer : FnScope ["value", "least", "greatest"] ["value", "least", "greatest"] (defScope s_is_integer) := ⟨rfl, rfl, rfl, by decide +kernel, rfl, by decide +kernel, by decide +kernel⟩
abbrev s_is_id : Stmt := topS 7
abbrev FnP_is_id (K : PySem.W.Frag) (fd : FuncData) : Prop := FunD K "is_id" "is_id" (defArgs s_is_id) (defBody s_is_id) (defScope s_is_id) [] [] (He.ga K "is_id") fd
theorem sc_is_id : FnScope ["value"] ["value"] (defScope s_is_id) := ⟨rfl, rfl, rfl, by decide +kernel, rfl, by decide +kernel, by decide +kernel⟩
abbrev s_is_order : Stmt := topS 8
abbrev FnP_is_order (K : PySem.W.Frag) (fd : FuncData) : Prop := FunD K "is_order" "is_order" (defArgs s_is_order) (defBody s_is_order) (defScope s_is_order) [] [] (He.ga K "is_order") fd
theorem sc_is_order : FnScope ["value", "row"] ["value"] (defScope s_is_order) := ⟨rfl, rfl, rfl, by decide +kernel, rfl, by decide +kernel, by decide +kernel⟩
abbrev s_require_order : Stmt := topS 9
abbrev FnP_require_order (K : PySem.W.Frag) (fd : FuncData) : Prop := FunD K "require_order" "require_order" (defArgs s_require_order) (defBody s_require_order) (defScope s_require_order) [] [] (He.ga K "require_order") fd
theorem sc_require_order : FnScope ["order"] ["order"] (defScope s_require_order) := ⟨rfl, rfl, rfl, by decide +kernel, rfl, by decide +kernel, by decide +kernel⟩
abbrev s_tops_in : Stmt := topS 11
abbrev FnP_tops_in (K : PySem.W.Frag) (fd : FuncData) : Prop := FunD K "tops_in" "tops_in" (defArgs s_tops_in) (defBody s_tops_in) (defScope s_tops_in) [] [] (He.ga K "tops_in") fd
theorem sc_tops_in : FnScope ["order", "found", "row"] ["order"] (defScope s_tops_in) := ⟨rfl, rfl, rfl, by decide +kernel, rfl, by decide +kernel, by decide +kernel⟩
abbrev s_greatest_reach : Stmt := topS 13
abbrev FnP_greatest_reach (K : PySem.W.Frag) (fd : FuncData) : Prop := FunD K "greatest_reach" "greatest_reach" (defArgs s_greatest_reach) (defBody s_greatest_reach) (defScope s_greatest_reach) [] [] (He.ga K "greatest_reach") fd
theorem sc_greatest_reach : FnScope ["order", "tops", "place", "row"] ["order"] (defScope s_greatest_reach) := ⟨rfl, rfl, rfl, by decide +kernel, rfl, by decide +kernel, by decide +kernel⟩
abbrev s__law_right : Stmt := topS 23
abbrev FnP__law_right (K : PySem.W.Frag) (fd : FuncData) : Prop := FunD K "_law_right" "_law_right" (defArgs s__law_right) (defBody s__law_right) (defScope s__law_right) [] [] (He.ga K "_law_right") fd
theorem sc__law_right : FnScope ["_law_pool_here", "_law_row_ids", "_law_kept", "_law_every", "_law_size", "_law_turn", "_law_looks_here"] ["_law_pool_here", "_law_row_ids"] (defScope s__law_right) := ⟨rfl, rfl, rfl, by decide +kernel, rfl, by decide +kernel, by decide +kernel⟩
abbrev s_law : Stmt := topS 24
abbrev FnP_law (K : PySem.W.Frag) (fd : FuncData) : Prop := FunD K "law" "law" (defArgs s_law) (defBody s_law) (defScope s_law) [] [] (He.ga K "law") fd
theorem sc_law : FnScope ["_law_script", "_law_at", "_law_pool_here", "_law_most", "_law_row_ids"] ["_law_script"] (defScope s_law) := ⟨rfl, rfl, rfl, by decide +kernel, rfl, by decide +kernel, by decide +kernel⟩
section
variable {P : Program} {w : World} {K : PySem.W.Frag} {mg : Str → Option Value} {base : Heap}
theorem ok__law_draw {fd : FuncData} (F : FnP__law_draw K fd) (T : Txt K mg) : FnZ P w K mg base 1 (He.ga K "_law_draw") fd ["_law_pool_here", "_law_many"] g_draw_k00 :=
  FnZ.cut (FunD.okZ F sc__law_draw fun cdv A outer s H hr hG =>
    (ss_cons (s_if (st_cmp z_gt (se_ix z_ix (se_var (pv 0)) (se_c pe_int) (fun _ _ => rfl)) (se_c pe_int) (nomark _))
    (ss_cons (s_set (i := 2) sc__law_draw.nd rfl (by first | exact .inl rfl | exact .inr rfl) (se_bin z_mod (se_ix z_ix (se_var (pv 0)) (se_c pe_int) (fun _ _ => rfl)) (se_var (pv 1))))
    (ss_cons (s_asg (se_bin z_div (se_ix z_ix (se_var (pv 0)) (se_c pe_int) (fun _ _ => rfl)) (se_var (pv 1))) (g_put z_putL (se_var (pv 0)) (se_c pe_int)))
    (ss_one (s_ret (se_var (pv 2))))))
    ss_nil)
    (ss_cons (s_asg (se_bin z_add (se_ix z_ix (se_var (pv 0)) (se_c pe_int) (fun _ _ => rfl)) (se_c pe_int)) (g_put z_putL (se_var (pv 0)) (se_c pe_int)))
    (ss_cons (s_set (i := 3) sc__law_draw.nd rfl (by first | exact .inl rfl | exact .inr rfl) (se_bin z_mod (se_bin z_pow (se_bin z_add (se_ix z_ix (se_var (pv 0)) (se_c pe_int) (fun _ _ => rfl)) (se_bin z_mul (se_c pe_int) (se_ix z_ix (se_var (pv 0)) (se_c pe_int) (fun _ _ => rfl)))) (se_c pe_int)) (se_c pe_int)))
    (ss_cons (s_set (i := 3) sc__law_draw.nd rfl (by first | exact .inl rfl | exact .inr rfl) (se_bin z_mod (se_bin z_pow (se_bin z_add (se_var (pv 3)) (se_bin z_mul (se_c pe_int) (se_ix z_ix (se_var (pv 0)) (se_c pe_int) (fun _ _ => rfl)))) (se_c pe_int)) (se_c pe_int)))
    (ss_one (s_ret (se_bin z_mod (se_bin z_div (se_var (pv 3)) (se_c pe_int)) (se_var (pv 1))))))))))
theorem ok__law_order {fd : FuncData} {fd__law_draw : FuncData} {ds__law_draw_0 : List Value} (F : FnP__law_order K fd) (T : Txt K mg) (d__law_draw : FnZ P w K mg base 1 (He.ga K "_law_draw") fd__law_draw ["_law_pool_here", "_law_many"] g_draw_k00) (b__law_draw_0 : Binds K fd__law_draw ["_law_pool_here", "_law_many"] ds__law_draw_0) (v__law_draw_0 : Vals [] ds__law_draw_0) : FnZ P w K mg base 2 (He.ga K "_law_order") fd ["_law_pool_here", "_law_most"] g_order_k11 :=
  FnZ.cut (FunD.okZ F sc__law_order fun cdv A outer s H hr hG =>
    (ss_cons (s_asg (se_tup (sa_cons (se_ix z_ix (se_lst (sa_cons (se_c pe_int) (sa_cons (se_c pe_int) (sa_cons (k_mul (k := 33000000000000000000000000000) (se_c pe_int) (k_pow (k := 1000000000000000000000000000) (se_c pe_int) (se_c pe_int) (by decide +kernel) (by decide) (by decide) (by decide +kernel)) (by decide +kernel) (by decide +kernel) (by decide +kernel)) sa_nil)))) (se_fn d__law_draw (hr.mono (by decide)) hG rfl T.g__law_draw T.k__law_draw b__law_draw_0 v__law_draw_0 rfl (sa_cons (se_var (pv 0)) (sa_cons (se_c pe_int) sa_nil)) ((al_cons (al_cons al_nil)).to rfl)) (fun _ _ => rfl)) (sa_cons (se_ix z_ix (se_lst (sa_cons (se_c pe_int) (sa_cons (se_c pe_int) (sa_cons (se_c pe_int) (sa_cons (se_c pe_int) sa_nil))))) (se_fn d__law_draw (hr.mono (by decide)) hG rfl T.g__law_draw T.k__law_draw b__law_draw_0 v__law_draw_0 rfl (sa_cons (se_var (pv 0)) (sa_cons (se_c pe_int) sa_nil)) ((al_cons (al_cons al_nil)).to rfl)) (fun _ _ => rfl)) (sa_cons (se_c pe_int) (sa_cons (se_lst sa_nil) sa_nil))))) (g_un rfl (gs_cons (g_set (pg_name (i := 2) sc__law_order.nd rfl (by first | exact .inl rfl | exact .inr rfl))) (gs_cons (g_set (pg_name (i := 3) sc__law_order.nd rfl (by first | exact .inl rfl | exact .inr rfl))) (gs_cons (g_set (pg_name (i := 4) sc__law_order.nd rfl (by first | exact .inl rfl | exact .inr rfl))) (gs_cons (g_set (pg_name (i := 5) sc__law_order.nd rfl (by first | exact .inl rfl | exact .inr rfl))) gs_nil))))))
    (ss_cons (s_for (n := fuelN) PassesOwn.never rfl (i_range1 rfl T.b_range (sa_cons (se_fn d__law_draw (hr.mono (by decide)) hG rfl T.g__law_draw T.k__law_draw b__law_draw_0 v__law_draw_0 rfl (sa_cons (se_var (pv 0)) (sa_cons (se_bin z_add (se_var (pv 1)) (se_c pe_int)) sa_nil)) ((al_cons (al_cons al_nil)).to rfl)) sa_nil)) (g_set (pg_name (i := 6) sc__law_order.nd rfl (by first | exact .inl rfl | exact .inr rfl)))
    (ss_gc (ds := [6]) (ss_cons (s_set (i := 4) sc__law_order.nd rfl (by first | exact .inl rfl | exact .inr rfl) (se_bin z_add (se_bin z_add (se_var (pv 4)) (se_c pe_int)) (se_fn d__law_draw (hr.mono (by decide)) hG rfl T.g__law_draw T.k__law_draw b__law_draw_0 v__law_draw_0 rfl (sa_cons (se_var (pv 0)) (sa_cons (se_var (pv 2)) sa_nil)) ((al_cons (al_cons al_nil)).to rfl))))
    (ss_one (s_expr (se_meth PySem.F.plainAttrs_list PySem.F.slot_list_append PySem.F.type_list_append z_append (se_var (pv 5)) (sa_cons (se_var (pv 4)) sa_nil)))))))
    (ss_cons (s_set (i := 7) sc__law_order.nd rfl (by first | exact .inl rfl | exact .inr rfl) (se_lst sa_nil))
    (ss_cons (s_while (n := fuelN) PassesOwn.never (st_cut (st_cmp (z_ne (Room.units hr)) (se_var (pv 5)) (se_lst sa_nil) (nomark _)))
    (ss_gc (ds := []) (ss_one (s_expr (se_meth PySem.F.plainAttrs_list PySem.F.slot_list_append PySem.F.type_list_append z_append (se_var (pv 7)) (sa_cons (se_meth PySem.F.plainAttrs_list PySem.F.slot_list_pop PySem.F.type_list_pop z_pop (se_var (pv 5)) (sa_cons (se_fn d__law_draw (hr.mono (by decide)) hG rfl T.g__law_draw T.k__law_draw b__law_draw_0 v__law_draw_0 rfl (sa_cons (se_var (pv 0)) (sa_cons (se_callB (z_min rfl) rfl T.b_min (by decide +kernel) (sa_cons (se_var (pv 3)) (sa_cons (se_callB z_len rfl T.b_len (by decide +kernel) (sa_cons (se_var (pv 5)) sa_nil)) sa_nil))) sa_nil)) ((al_cons (al_cons al_nil)).to rfl)) sa_nil)) sa_nil))))))
    (ss_one (s_ret (se_ifE (st_cmp (z_eq (Room.units hr)) (se_fn d__law_draw (hr.mono (by decide)) hG rfl T.g__law_draw T.k__law_draw b__law_draw_0 v__law_draw_0 rfl (sa_cons (se_var (pv 0)) (sa_cons (se_c pe_int) sa_nil)) ((al_cons (al_cons al_nil)).to rfl)) (se_c pe_int) (nomark _)) (se_revL (se_var (pv 7))) (se_var (pv 7))))))))))
theorem ok__law_pool {fd : FuncData} (F : FnP__law_pool K fd) (T : Txt K mg) : FnZ P w K mg base 1 (He.ga K "_law_pool") fd ["_law_script", "_law_at"] g_pool :=
  FnZ.cut (FunD.okZ F sc__law_pool fun cdv A outer s H hr hG =>
    (ss_cons (s_set (i := 2) sc__law_pool.nd rfl (by first | exact .inl rfl | exact .inr rfl) (se_ifE (st_cmp z_lt (se_var (pv 1)) (se_callB z_len rfl T.b_len (by decide +kernel) (sa_cons (se_var (pv 0)) sa_nil)) (nomark _)) (se_ix z_ix (se_var (pv 0)) (se_var (pv 1)) (fun _ _ => rfl)) (se_c pe_int)))
    (ss_one (s_ret (se_lst (sa_cons (se_callB (z_max rfl) rfl T.b_max (by decide +kernel) (sa_cons (se_c pe_int) (sa_cons (se_bin z_sub (se_callB z_abs rfl T.b_abs (by decide +kernel) (sa_cons (se_var (pv 2)) sa_nil)) (k_pow (k := 1000000000000000000) (se_c pe_int) (se_c pe_int) (by decide +kernel) (by decide) (by decide) (by decide +kernel))) sa_nil))) (sa_cons (se_bin z_add (se_bin z_mod (se_var (pv 2)) (se_c pe_int)) (se_bin z_mul (se_c pe_int) (se_bin z_add (se_var (pv 1)) (se_c pe_int)))) (sa_cons (se_c pe_int) sa_nil))))))))
theorem ok__law_looks {fd : FuncData} {fd__law_draw : FuncData} {ds__law_draw_0 : List Value} (F : FnP__law_looks K fd) (T : Txt K mg) (d__law_draw : FnZ P w K mg base 1 (He.ga K "_law_draw") fd__law_draw ["_law_pool_here", "_law_many"] g_draw_k00) (b__law_draw_0 : Binds K fd__law_draw ["_law_pool_here", "_law_many"] ds__law_draw_0) (v__law_draw_0 : Vals [] ds__law_draw_0) : FnZ P w K mg base 2 (He.ga K "_law_looks") fd ["_law_pool_here", "_law_size", "_law_most"] g_looks :=
  FnZ.cut (FunD.okZ F sc__law_looks fun cdv A outer s H hr hG =>
    (ss_cons (s_if (SW.pt (sw_and (st_cmp (z_eq (Room.units hr)) (se_fn d__law_draw (hr.mono (by decide)) hG rfl T.g__law_draw T.k__law_draw b__law_draw_0 v__law_draw_0 rfl (sa_cons (se_var (pv 0)) (sa_cons (se_c pe_int) sa_nil)) ((al_cons (al_cons al_nil)).to rfl)) (se_c pe_int) (nomark _)) (sw_and1 (st_cmp z_lt (se_var (pv 1)) (se_var (pv 2)) (nomark _)))))
    (ss_one (s_ret (se_listR1 rfl T.b_list rfl T.b_range (se_bin z_add (se_var (pv 1)) (se_c pe_int)))))
    ss_nil)
    (ss_cons (s_set (i := 3) sc__law_looks.nd rfl (by first | exact .inl rfl | exact .inr rfl) (se_cut (se_callB z_sorted rfl T.b_sorted (by decide +kernel) (sa_cons (se_compV rfl sc__law_looks.nd (i_range1 rfl T.b_range (sa_cons (se_fn d__law_draw (hr.mono (by decide)) hG rfl T.g__law_draw T.k__law_draw b__law_draw_0 v__law_draw_0 rfl (sa_cons (se_var (pv 0)) (sa_cons (se_bin z_add (se_var (pv 2)) (se_c pe_int)) sa_nil)) ((al_cons (al_cons al_nil)).to rfl)) sa_nil)) (blkOk_by (own := [("_law_turn", 4)]) (by kernel_rfl)) rfl (gw_set (by decide)) (fun _ _ _ _ _ => (g_set (pg_name (i := 4) sc__law_looks.nd rfl (by first | exact .inl rfl | exact .inr rfl)))) (fun _ _ _ _ _ => sts_nil) (fun _ _ _ _ _ => (se_fn d__law_draw (hr.mono (by decide)) hG rfl T.g__law_draw T.k__law_draw b__law_draw_0 v__law_draw_0 rfl (sa_cons (se_var (pv 0)) (sa_cons (se_bin z_add (se_var (pv 1)) (se_c pe_int)) sa_nil)) ((al_cons (al_cons al_nil)).to rfl)))) sa_nil))))
    (ss_cons (s_if (SW.pt (sw_and (st_cut (st_cmp (z_ne (Room.units hr)) (se_var (pv 3)) (se_lst sa_nil) (nomark _))) (sw_and1 (st_cmp (z_eq (Room.units hr)) (se_fn d__law_draw (hr.mono (by decide)) hG rfl T.g__law_draw T.k__law_draw b__law_draw_0 v__law_draw_0 rfl (sa_cons (se_var (pv 0)) (sa_cons (se_c pe_int) sa_nil)) ((al_cons (al_cons al_nil)).to rfl)) (se_c pe_int) (nomark _)))))
    (ss_one (s_asg (se_var (pv 1)) (g_put z_putL (se_var (pv 3)) (k_neg (se_c pe_int)))))
    ss_nil)
    (ss_one (s_ret (se_var (pv 3))))))))
theorem ok__law_missed {fd : FuncData} (F : FnP__law_missed K fd) (T : Txt K mg) : FnZ P w K mg base 1 (He.ga K "_law_missed") fd ["_law_row_ids", "_law_lists"] g_missed :=
  FnZ.cut (FunD.okZ F sc__law_missed fun cdv A outer s H hr hG =>
    (ss_cons (s_set (i := 2) sc__law_missed.nd rfl (by first | exact .inl rfl | exact .inr rfl) (se_lst sa_nil))
    (ss_cons (s_for (n := fuelN) PassesOwn.never rfl (i_listZ (se_var (pv 1))) (g_set (pg_name (i := 3) sc__law_missed.nd rfl (by first | exact .inl rfl | exact .inr rfl)))
    (ss_wipe (ds := [3]) (ss_one (s_set (i := 2) sc__law_missed.nd rfl (by first | exact .inl rfl | exact .inr rfl) (se_bin z_add (se_var (pv 2)) (se_var (pv 3)))))))
    (ss_one (s_ret (se_callB z_sorted rfl T.b_sorted (by decide +kernel) (sa_cons (se_compV rfl sc__law_missed.nd (i_listZ (se_var (pv 0))) (blkOk_by (own := [("_law_row", 4)]) (by kernel_rfl)) rfl (gw_set (by decide)) (fun _ _ _ _ _ => (g_set (pg_name (i := 4) sc__law_missed.nd rfl (by first | exact .inl rfl | exact .inr rfl)))) (fun _ _ _ _ _ => (sts_one (SW.pt (sw_and (st_cmp (z_notIn (Nat.lt_of_le_of_lt (Nat.add_le_add_left (by decide : 1 ≤ 64) _) (Room.units hr))) (se_var (pv 4)) (se_var (pv 2)) rfl) (sw_and1 (st_cut (st_cmp z_lt (se_var (pv 4)) (se_callB (z_max rfl) rfl T.b_max (by decide +kernel) (sa_cons (se_bin z_add (se_lst (sa_cons (se_c pe_int) sa_nil)) (se_var (pv 2))) sa_nil)) (nomark _)))))))) (fun _ _ _ _ _ => (se_var (pv 4)))) sa_nil)))))))
theorem ok__law_play {fd : FuncData} (F : FnP__law_play K fd) (T : Txt K mg) : FnZ P w K mg base 1 (He.ga K "_law_play") fd ["_law_row_ids", "_law_looks_here", "_law_near", "_law_patience", "_law_most"] g_play :=
  FunD.okZ F sc__law_play fun cdv A outer s H hr hG =>
    (ss_cons (s_asg (se_tup (sa_cons (se_lst sa_nil) (sa_cons (se_lst (sa_cons (se_c pe_int) sa_nil)) (sa_cons (se_lst sa_nil) sa_nil)))) (g_un rfl (gs_cons (g_set (pg_name (i := 5) sc__law_play.nd rfl (by first | exact .inl rfl | exact .inr rfl))) (gs_cons (g_set (pg_name (i := 6) sc__law_play.nd rfl (by first | exact .inl rfl | exact .inr rfl))) (gs_cons (g_set (pg_name (i := 7) sc__law_play.nd rfl (by first | exact .inl rfl | exact .inr rfl))) gs_nil)))))
    (ss_cons (s_for (n := fuelN) PassesOwn.never rfl (i_listZ (se_var (pv 1))) (g_set (pg_name (i := 8) sc__law_play.nd rfl (by first | exact .inl rfl | exact .inr rfl)))
    (ss_wipe (ds := [8, 9, 10, 11, 12, 13]) (ss_cons (s_set (i := 9) sc__law_play.nd rfl (by first | exact .inl rfl | exact .inr rfl) (se_lst sa_nil))
    (ss_cons (s_for (n := fuelN) PassesOwn.never rfl (i_listZ (se_callB z_sorted rfl T.b_sorted (by decide +kernel) (sa_cons (se_slice z_slice (se_var (pv 0)) so_none (so_some (se_var (pv 8)))) sa_nil))) (g_set (pg_name (i := 10) sc__law_play.nd rfl (by first | exact .inl rfl | exact .inr rfl)))
    (ss_gc (ds := [10, 11, 12, 13]) (ss_cons (s_set (i := 11) sc__law_play.nd rfl (by first | exact .inl rfl | exact .inr rfl) (se_cut (se_listR2 rfl T.b_list rfl T.b_range (se_callB (z_max rfl) rfl T.b_max (by decide +kernel) (sa_cons (se_c pe_int) (sa_cons (se_bin z_sub (se_callB z_len rfl T.b_len (by decide +kernel) (sa_cons (se_var (pv 5)) sa_nil)) (se_var (pv 3))) sa_nil))) (se_callB z_len rfl T.b_len (by decide +kernel) (sa_cons (se_var (pv 5)) sa_nil)))))
    (ss_cons (s_setCompV rfl sc__law_play.nd rfl rfl rfl (i_listZ (se_var (pv 11))) (blkOk_by (own := [("_law_spot", 13)]) (by kernel_rfl)) rfl (gw_set (by decide)) (fun _ _ _ _ _ => (g_set (pg_name (i := 13) sc__law_play.nd rfl (by first | exact .inl rfl | exact .inr rfl)))) (fun _ _ _ _ _ => (sts_one (st_chain z_lt z_lt (se_ix z_ix (se_var (pv 6)) (se_var (pv 13)) (fun _ _ => rfl)) (se_var (pv 10)) (se_ix z_ix (se_var (pv 6)) (se_bin z_add (se_var (pv 13)) (se_c pe_int)) (fun _ _ => rfl))))) (fun _ _ _ _ _ => (se_var (pv 13))))
    (ss_one (s_if (SW.pt (sw_and (st_cmp (z_notIn (Nat.lt_of_le_of_lt (Nat.add_le_add_left (by decide : 1 ≤ 64) _) (Room.units hr))) (se_var (pv 10)) (se_var (pv 7)) rfl) (sw_and1 (SW.pt (sw_or (st_cmp z_gt (se_var (pv 10)) (se_bin z_sub (se_ix z_ix (se_var (pv 6)) (k_neg (se_c pe_int)) (fun _ _ => rfl)) (se_var (pv 2))) (nomark _)) (sw_or1 (st_cut (st_cmp (z_ne (Room.units hr)) (se_var (pv 12)) (se_lst sa_nil) (nomark _)))))))))
    (ss_one (s_expr (se_meth PySem.F.plainAttrs_list PySem.F.slot_list_append PySem.F.type_list_append z_append (se_var (pv 9)) (sa_cons (se_var (pv 10)) sa_nil))))
    ss_nil))))))
    (ss_cons (s_if (st_cmp z_gt (se_var (pv 4)) (se_c pe_int) (nomark _))
    (ss_one (s_set (i := 9) sc__law_play.nd rfl (by first | exact .inl rfl | exact .inr rfl) (se_slice z_slice (se_var (pv 9)) so_none (so_some (se_var (pv 4))))))
    ss_nil)
    (ss_cons (s_set (i := 7) sc__law_play.nd rfl (by first | exact .inl rfl | exact .inr rfl) (se_bin z_add (se_var (pv 7)) (se_var (pv 9))))
    (ss_cons (s_expr (se_meth PySem.F.plainAttrs_list PySem.F.slot_list_append PySem.F.type_list_append z_append (se_var (pv 6)) (sa_cons (se_callB (z_max rfl) rfl T.b_max (by decide +kernel) (sa_cons (se_bin z_add (se_lst (sa_cons (se_ix z_ix (se_var (pv 6)) (k_neg (se_c pe_int)) (fun _ _ => rfl)) sa_nil)) (se_var (pv 9))) sa_nil)) sa_nil)))
    (ss_one (s_expr (se_meth PySem.F.plainAttrs_list PySem.F.slot_list_append PySem.F.type_list_append z_append (se_var (pv 5)) (sa_cons (se_var (pv 9)) sa_nil)))))))))))
    (ss_one (s_ret (se_var (pv 5))))))
theorem ok__law_lost {fd : FuncData} {fd__law_missed : FuncData} {ds__law_missed_0 : List Value} {fd__law_play : FuncData} {ds__law_play_0 : List Value} (F : FnP__law_lost K fd) (T : Txt K mg) (d__law_missed : FnZ P w K mg base 1 (He.ga K "_law_missed") fd__law_missed ["_law_row_ids", "_law_lists"] g_missed) (b__law_missed_0 : Binds K fd__law_missed ["_law_row_ids", "_law_lists"] ds__law_missed_0) (v__law_missed_0 : Vals [] ds__law_missed_0) (d__law_play : FnZ P w K mg base 1 (He.ga K "_law_play") fd__law_play ["_law_row_ids", "_law_looks_here", "_law_near", "_law_patience", "_law_most"] g_play) (b__law_play_0 : Binds K fd__law_play ["_law_row_ids", "_law_looks_here", "_law_near", "_law_patience", "_law_most"] ds__law_play_0) (v__law_play_0 : Vals [] ds__law_play_0) : FnZ P w K mg base 2 (He.ga K "_law_lost") fd ["_law_row_ids", "_law_looks_here", "_law_size"] g_lost_k29 :=
  FnZ.cut (FunD.okZ F sc__law_lost fun cdv A outer s H hr hG =>
    (ss_one (s_ret (se_fn d__law_missed (hr.mono (by decide)) hG rfl T.g__law_missed T.k__law_missed b__law_missed_0 v__law_missed_0 rfl (sa_cons (se_var (pv 0)) (sa_cons (se_fn d__law_play (hr.mono (by decide)) hG rfl T.g__law_play T.k__law_play b__law_play_0 v__law_play_0 rfl (sa_cons (se_var (pv 0)) (sa_cons (se_var (pv 1)) (sa_cons (se_var (pv 2)) (sa_cons (se_c pe_int) (sa_cons (se_c pe_int) sa_nil))))) ((al_cons (al_cons (al_cons (al_cons (al_cons al_nil))))).to rfl)) sa_nil)) ((al_cons (al_cons al_nil)).to rfl)))))
theorem ok_is_integer {fd : FuncData} (F : FnP_is_integer K fd) (T : Txt K mg) : FnZ P w K mg base 1 (He.ga K "is_integer") fd ["value", "least", "greatest"] f_is_integer :=
  FnZ.cut (FunD.okZ F sc_is_integer fun cdv A outer s H hr hG =>
    (ss_cons (s_if (SW.pt (sw_or (st_not (st_val (se_callB z_isi rfl T.b_isinstance (by decide +kernel) (sa_cons (se_var (pv 0)) (sa_cons (se_ty rfl T.b_int (by decide +kernel)) sa_nil))))) (sw_or (st_val (se_callB z_isi rfl T.b_isinstance (by decide +kernel) (sa_cons (se_var (pv 0)) (sa_cons (se_ty rfl T.b_bool (by decide +kernel)) sa_nil)))) (sw_or1 (st_cmp z_lt (se_var (pv 0)) (se_var (pv 1)) (nomark _))))))
    (ss_one (s_ret (se_c pe_bl)))
    ss_nil)
    (ss_one (s_ret (se_or (se_isN (se_var (pv 2))) (se_one (se_cmp z_le (se_var (pv 0)) (se_var (pv 2)) (nomark _))))))))
theorem ok_is_id {fd : FuncData} {fd_is_integer : FuncData} {ds_is_integer_0 : List Value} (F : FnP_is_id K fd) (T : Txt K mg) (d_is_integer : FnZ P w K mg base 1 (He.ga K "is_integer") fd_is_integer ["value", "least", "greatest"] f_is_integer) (b_is_integer_0 : Binds K fd_is_integer ["value", "least", "greatest"] ds_is_integer_0) (v_is_integer_0 : Vals [] ds_is_integer_0) : FnZ P w K mg base 2 (He.ga K "is_id") fd ["value"] f_is_id :=
  FnZ.cut (FunD.okZ F sc_is_id fun cdv A outer s H hr hG =>
    (ss_one (s_ret (se_fn d_is_integer (hr.mono (by decide)) hG rfl T.g_is_integer T.k_is_integer b_is_integer_0 v_is_integer_0 rfl (sa_cons (se_var (pv 0)) (sa_cons (se_c pe_int) (sa_cons (se_gc rfl (int_rel T.i_GREATEST)) sa_nil))) ((al_cons (al_cons (al_cons al_nil))).to rfl)))))
theorem ok_is_order {fd : FuncData} {fd_is_id : FuncData} {ds_is_id_0 : List Value} (F : FnP_is_order K fd) (T : Txt K mg) (d_is_id : FnZ P w K mg base 2 (He.ga K "is_id") fd_is_id ["value"] f_is_id) (b_is_id_0 : Binds K fd_is_id ["value"] ds_is_id_0) (v_is_id_0 : Vals [] ds_is_id_0) : FnZ P w K mg base 3 (He.ga K "is_order") fd ["value"] f_is_order :=
  FnZ.cut (FunD.okZ F sc_is_order fun cdv A outer s H hr hG =>
    (ss_cons (s_if (SW.pt (sw_or (st_not (st_val (se_callB z_isi rfl T.b_isinstance (by decide +kernel) (sa_cons (se_var (pv 0)) (sa_cons (se_ty rfl T.b_list (by decide +kernel)) sa_nil))))) (sw_or (st_cmp z_gt (se_callB z_len rfl T.b_len (by decide +kernel) (sa_cons (se_var (pv 0)) sa_nil)) (se_gc rfl (int_rel T.i_MOST_IDS)) (nomark _)) (sw_or1 (st_not (st_cut (st_val (se_callB (z_all rfl) rfl T.b_all (by decide +kernel) (sa_cons (se_compV rfl sc_is_order.nd (i_listZ (se_var (pv 0))) (blkOk_by (own := [("row", 1)]) (by kernel_rfl)) rfl (gw_set (by decide)) (fun _ _ _ _ _ => (g_set (pg_name (i := 1) sc_is_order.nd rfl (by first | exact .inl rfl | exact .inr rfl)))) (fun _ _ _ _ _ => sts_nil) (fun _ _ _ _ _ => (se_fn d_is_id (hr.mono (by decide)) hG rfl T.g_is_id T.k_is_id b_is_id_0 v_is_id_0 rfl (sa_cons (se_var (pv 1)) sa_nil) ((al_cons al_nil).to rfl)))) sa_nil)))))))))
    (ss_one (s_ret (se_c pe_bl)))
    ss_nil)
    (ss_one (s_ret (se_cmp (z_eq (Room.units hr)) (se_lenSet rfl T.b_len rfl T.b_set (se_var (pv 0))) (se_callB z_len rfl T.b_len (by decide +kernel) (sa_cons (se_var (pv 0)) sa_nil)) (nomark _))))))
theorem ok_require_order {fd : FuncData} {fd_is_order : FuncData} {ds_is_order_0 : List Value} (F : FnP_require_order K fd) (T : Txt K mg) (d_is_order : FnZ P w K mg base 3 (He.ga K "is_order") fd_is_order ["value"] f_is_order) (b_is_order_0 : Binds K fd_is_order ["value"] ds_is_order_0) (v_is_order_0 : Vals [] ds_is_order_0) : FnZ P w K mg base 4 (He.ga K "require_order") fd ["order"] f_require_order :=
  FnZ.cut (FunD.okZ F sc_require_order fun cdv A outer s H hr hG =>
    (ss_one (s_if (st_not (st_val (se_fn d_is_order (hr.mono (by decide)) hG rfl T.g_is_order T.k_is_order b_is_order_0 v_is_order_0 rfl (sa_cons (se_var (pv 0)) sa_nil) ((al_cons al_nil).to rfl))))
    (ss_one s_never)
    ss_nil)))
theorem ok_tops_in {fd : FuncData} (F : FnP_tops_in K fd) (T : Txt K mg) : FnZ P w K mg base 1 (He.ga K "tops_in") fd ["order"] f_tops_in :=
  FnZ.cut (FunD.okZ F sc_tops_in fun cdv A outer s H hr hG =>
    (ss_cons (s_set (i := 1) sc_tops_in.nd rfl (by first | exact .inl rfl | exact .inr rfl) (se_lst (sa_cons (se_c pe_int) sa_nil)))
    (ss_cons (s_for (n := fuelN) PassesOwn.never rfl (i_listZ (se_var (pv 0))) (g_set (pg_name (i := 2) sc_tops_in.nd rfl (by first | exact .inl rfl | exact .inr rfl)))
    (ss_gc (ds := [2]) (ss_one (s_expr (se_meth PySem.F.plainAttrs_list PySem.F.slot_list_append PySem.F.type_list_append z_append (se_var (pv 1)) (sa_cons (se_callB (z_max rfl) rfl T.b_max (by decide +kernel) (sa_cons (se_ix z_ix (se_var (pv 1)) (k_neg (se_c pe_int)) (fun _ _ => rfl)) (sa_cons (se_var (pv 2)) sa_nil))) sa_nil))))))
    (ss_one (s_ret (se_var (pv 1)))))))
theorem ok_greatest_reach {fd : FuncData} {fd_require_order : FuncData} {ds_require_order_0 : List Value} {fd_tops_in : FuncData} {ds_tops_in_0 : List Value} (F : FnP_greatest_reach K fd) (T : Txt K mg) (d_require_order : FnZ P w K mg base 4 (He.ga K "require_order") fd_require_order ["order"] f_require_order) (b_require_order_0 : Binds K fd_require_order ["order"] ds_require_order_0) (v_require_order_0 : Vals [] ds_require_order_0) (d_tops_in : FnZ P w K mg base 1 (He.ga K "tops_in") fd_tops_in ["order"] f_tops_in) (b_tops_in_0 : Binds K fd_tops_in ["order"] ds_tops_in_0) (v_tops_in_0 : Vals [] ds_tops_in_0) : FnZ P w K mg base 5 (He.ga K "greatest_reach") fd ["order"] f_greatest_reach :=
  FnZ.cut (FunD.okZ F sc_greatest_reach fun cdv A outer s H hr hG =>
    (ss_cons (s_expr (se_fn d_require_order (hr.mono (by decide)) hG rfl T.g_require_order T.k_require_order b_require_order_0 v_require_order_0 rfl (sa_cons (se_var (pv 0)) sa_nil) ((al_cons al_nil).to rfl)))
    (ss_cons (s_set (i := 1) sc_greatest_reach.nd rfl (by first | exact .inl rfl | exact .inr rfl) (se_fn d_tops_in (hr.mono (by decide)) hG rfl T.g_tops_in T.k_tops_in b_tops_in_0 v_tops_in_0 rfl (sa_cons (se_var (pv 0)) sa_nil) ((al_cons al_nil).to rfl)))
    (ss_one (s_ret (se_callB (z_max rfl) rfl T.b_max (by decide +kernel) (sa_cons (se_bin z_add (se_lst (sa_cons (se_c pe_int) sa_nil)) (se_compV rfl sc_greatest_reach.nd (i_enum rfl T.b_enumerate (sa_cons (se_var (pv 0)) sa_nil)) (blkOk_by (own := [("place", 2), ("row", 3)]) (by kernel_rfl)) rfl (gw_un (gws_cons (gw_set (by decide)) (gws_cons (gw_set (by decide)) gws_nil))) (fun _ _ _ _ _ => (g_un rfl (gs_cons (g_set (pg_name (i := 2) sc_greatest_reach.nd rfl (by first | exact .inl rfl | exact .inr rfl))) (gs_cons (g_set (pg_name (i := 3) sc_greatest_reach.nd rfl (by first | exact .inl rfl | exact .inr rfl))) gs_nil)))) (fun _ _ _ _ _ => sts_nil) (fun _ _ _ _ _ => (se_bin z_add (se_bin z_sub (se_ix z_ix (se_var (pv 1)) (se_var (pv 2)) (fun _ _ => rfl)) (se_var (pv 3))) (se_c pe_int))))) sa_nil)))))))
theorem ok__law_right {fd : FuncData} {fd__law_looks : FuncData} {ds__law_looks_0 : List Value} {fd__law_lost : FuncData} {ds__law_lost_0 : List Value} {fd_greatest_reach : FuncData} {ds_greatest_reach_0 : List Value} (F : FnP__law_right K fd) (T : Txt K mg) (d__law_looks : FnZ P w K mg base 2 (He.ga K "_law_looks") fd__law_looks ["_law_pool_here", "_law_size", "_law_most"] g_looks) (b__law_looks_0 : Binds K fd__law_looks ["_law_pool_here", "_law_size", "_law_most"] ds__law_looks_0) (v__law_looks_0 : Vals [] ds__law_looks_0) (d__law_lost : FnZ P w K mg base 2 (He.ga K "_law_lost") fd__law_lost ["_law_row_ids", "_law_looks_here", "_law_size"] g_lost_k29) (b__law_lost_0 : Binds K fd__law_lost ["_law_row_ids", "_law_looks_here", "_law_size"] ds__law_lost_0) (v__law_lost_0 : Vals [] ds__law_lost_0) (d_greatest_reach : FnZ P w K mg base 5 (He.ga K "greatest_reach") fd_greatest_reach ["order"] f_greatest_reach) (b_greatest_reach_0 : Binds K fd_greatest_reach ["order"] ds_greatest_reach_0) (v_greatest_reach_0 : Vals [] ds_greatest_reach_0) : FnZ P w K mg base 6 (He.ga K "_law_right") fd ["_law_pool_here", "_law_row_ids"] g_right_k29 :=
  FnZ.cut (FunD.okZ F sc__law_right fun cdv A outer s H hr hG =>
    (ss_cons (s_par2 (i := 2) (j := 3) rfl sc__law_right.nd rfl rfl (by decide) rfl rfl (sa_cons (se_callB (z_repr hG (Room.units hr)) rfl T.b_repr (by decide +kernel) (sa_cons (se_var (pv 1)) sa_nil)) (sa_cons (se_listR1 rfl T.b_list rfl T.b_range (se_bin z_add (se_callB z_len rfl T.b_len (by decide +kernel) (sa_cons (se_var (pv 1)) sa_nil)) (se_c pe_int))) sa_nil)) rfl)
    (ss_cons (s_set (i := 4) sc__law_right.nd rfl (by first | exact .inl rfl | exact .inr rfl) (se_fn d_greatest_reach (hr.mono (by decide)) hG rfl T.g_greatest_reach T.k_greatest_reach b_greatest_reach_0 v_greatest_reach_0 rfl (sa_cons (se_var (pv 1)) sa_nil) ((al_cons al_nil).to rfl)))
    (ss_cons (s_if (SW.pt (sw_or (st_cmp (z_ne (Room.units hr)) (se_callB (z_repr hG (Room.units hr)) rfl T.b_repr (by decide +kernel) (sa_cons (se_var (pv 4)) sa_nil)) (se_callB (z_repr hG (Room.units hr)) rfl T.b_repr (by decide +kernel) (sa_cons (se_fn d_greatest_reach (hr.mono (by decide)) hG rfl T.g_greatest_reach T.k_greatest_reach b_greatest_reach_0 v_greatest_reach_0 rfl (sa_cons (se_var (pv 1)) sa_nil) ((al_cons al_nil).to rfl)) sa_nil)) (nomark _)) (sw_or1 (st_not (st_val (se_callB z_isi rfl T.b_isinstance (by decide +kernel) (sa_cons (se_var (pv 4)) (sa_cons (se_ty rfl T.b_int (by decide +kernel)) sa_nil))))))))
    (ss_one (s_ret (se_c pe_bl)))
    ss_nil)
    (ss_cons (s_if (st_cmp (z_ne (Room.units hr)) (se_callB (z_repr hG (Room.units hr)) rfl T.b_repr (by decide +kernel) (sa_cons (se_var (pv 1)) sa_nil)) (se_var (pv 2)) (nomark _))
    (ss_one (s_ret (se_c pe_bl)))
    ss_nil)
    (ss_cons (s_if (SW.pt (sw_or (st_cut (st_cmp (z_ne (Room.units hr)) (se_cmp (z_eq (Room.units hr)) (se_var (pv 4)) (se_c pe_int) (nomark _)) (se_cmp (z_eq (Room.units hr)) (se_var (pv 1)) (se_callB z_sorted rfl T.b_sorted (by decide +kernel) (sa_cons (se_var (pv 1)) sa_nil)) (nomark _)) (nomark _))) (sw_or1 (st_cmp z_lt (se_var (pv 4)) (se_c pe_int) (nomark _)))))
    (ss_one (s_ret (se_c pe_bl)))
    ss_nil)
    (ss_cons (s_if (st_cut (st_cmp (z_ne (Room.units hr)) (se_fn d__law_lost (hr.mono (by decide)) hG rfl T.g__law_lost T.k__law_lost b__law_lost_0 v__law_lost_0 rfl (sa_cons (se_var (pv 1)) (sa_cons (se_var (pv 3)) (sa_cons (se_var (pv 4)) sa_nil))) ((al_cons (al_cons (al_cons al_nil))).to rfl)) (se_lst sa_nil) (nomark _)))
    (ss_one (s_ret (se_c pe_bl)))
    ss_nil)
    (ss_cons (s_if (SW.pt (sw_and (st_cmp z_gt (se_var (pv 4)) (se_c pe_int) (nomark _)) (sw_and1 (st_cut (st_cmp (z_eq (Room.units hr)) (se_fn d__law_lost (hr.mono (by decide)) hG rfl T.g__law_lost T.k__law_lost b__law_lost_0 v__law_lost_0 rfl (sa_cons (se_var (pv 1)) (sa_cons (se_var (pv 3)) (sa_cons (se_bin z_sub (se_var (pv 4)) (se_c pe_int)) sa_nil))) ((al_cons (al_cons (al_cons al_nil))).to rfl)) (se_lst sa_nil) (nomark _))))))
    (ss_one (s_ret (se_c pe_bl)))
    ss_nil)
    (ss_cons (s_for (n := fuelN) PassesOwn.never rfl (i_range1 rfl T.b_range (sa_cons (se_c pe_int) sa_nil)) (g_set (pg_name (i := 5) sc__law_right.nd rfl (by first | exact .inl rfl | exact .inr rfl)))
    (ss_gc (ds := [5, 6]) (ss_cons (s_set (i := 6) sc__law_right.nd rfl (by first | exact .inl rfl | exact .inr rfl) (se_cut (se_bin z_add (se_fn d__law_looks (hr.mono (by decide)) hG rfl T.g__law_looks T.k__law_looks b__law_looks_0 v__law_looks_0 rfl (sa_cons (se_var (pv 0)) (sa_cons (se_callB z_len rfl T.b_len (by decide +kernel) (sa_cons (se_var (pv 1)) sa_nil)) (sa_cons (se_c pe_int) sa_nil))) ((al_cons (al_cons (al_cons al_nil))).to rfl)) (se_lst (sa_cons (se_callB z_len rfl T.b_len (by decide +kernel) (sa_cons (se_var (pv 1)) sa_nil)) sa_nil)))))
    (ss_one (s_if (SW.pt (sw_and (st_cmp z_lt (se_callB z_len rfl T.b_len (by decide +kernel) (sa_cons (se_var (pv 6)) sa_nil)) (se_c pe_int) (nomark _)) (sw_and1 (st_cut (st_cmp (z_ne (Room.units hr)) (se_fn d__law_lost (hr.mono (by decide)) hG rfl T.g__law_lost T.k__law_lost b__law_lost_0 v__law_lost_0 rfl (sa_cons (se_var (pv 1)) (sa_cons (se_var (pv 6)) (sa_cons (se_var (pv 4)) sa_nil))) ((al_cons (al_cons (al_cons al_nil))).to rfl)) (se_lst sa_nil) (nomark _))))))
    (ss_one (s_ret (se_c pe_bl)))
    ss_nil)))))
    (ss_one (s_ret (se_c pe_bl))))))))))))
theorem ok_law {fd : FuncData} {fd__law_order : FuncData} {ds__law_order_0 : List Value} {fd__law_pool : FuncData} {ds__law_pool_0 : List Value} {fd__law_right : FuncData} {ds__law_right_0 : List Value} {fd_greatest_reach : FuncData} {ds_greatest_reach_0 : List Value} (F : FnP_law K fd) (T : Txt K mg) (d__law_order : FnZ P w K mg base 2 (He.ga K "_law_order") fd__law_order ["_law_pool_here", "_law_most"] g_order_k11) (b__law_order_0 : Binds K fd__law_order ["_law_pool_here", "_law_most"] ds__law_order_0) (v__law_order_0 : Vals [] ds__law_order_0) (d__law_pool : FnZ P w K mg base 1 (He.ga K "_law_pool") fd__law_pool ["_law_script", "_law_at"] g_pool) (b__law_pool_0 : Binds K fd__law_pool ["_law_script", "_law_at"] ds__law_pool_0) (v__law_pool_0 : Vals [] ds__law_pool_0) (d__law_right : FnZ P w K mg base 6 (He.ga K "_law_right") fd__law_right ["_law_pool_here", "_law_row_ids"] g_right_k29) (b__law_right_0 : Binds K fd__law_right ["_law_pool_here", "_law_row_ids"] ds__law_right_0) (v__law_right_0 : Vals [] ds__law_right_0) (d_greatest_reach : FnZ P w K mg base 5 (He.ga K "greatest_reach") fd_greatest_reach ["order"] f_greatest_reach) (b_greatest_reach_0 : Binds K fd_greatest_reach ["order"] ds_greatest_reach_0) (v_greatest_reach_0 : Vals [] ds_greatest_reach_0) : FnZ P w K mg base 7 (He.ga K "law") fd ["_law_script"] g_law_k29 :=
  FunD.okZ F sc_law fun cdv A outer s H hr hG =>
    (ss_cons (s_for (n := fuelN) PassesOwn.never rfl (i_range1 rfl T.b_range (sa_cons (se_callB (z_max rfl) rfl T.b_max (by decide +kernel) (sa_cons (se_c pe_int) (sa_cons (se_callB (z_min rfl) rfl T.b_min (by decide +kernel) (sa_cons (se_c pe_int) (sa_cons (se_callB z_len rfl T.b_len (by decide +kernel) (sa_cons (se_var (pv 0)) sa_nil)) sa_nil))) sa_nil))) sa_nil)) (g_set (pg_name (i := 1) sc_law.nd rfl (by first | exact .inl rfl | exact .inr rfl)))
    (ss_gc (ds := [1, 2, 3, 4]) (ss_cons (s_set (i := 2) sc_law.nd rfl (by first | exact .inl rfl | exact .inr rfl) (se_fn d__law_pool (hr.mono (by decide)) hG rfl T.g__law_pool T.k__law_pool b__law_pool_0 v__law_pool_0 rfl (sa_cons (se_var (pv 0)) (sa_cons (se_var (pv 1)) sa_nil)) ((al_cons (al_cons al_nil)).to rfl)))
    (ss_one (s_for (n := fuelN) PassesOwn.never rfl (i_listZ (se_lst (sa_cons (se_c pe_int) (sa_cons (se_ix z_ix (se_lst (sa_cons (se_c pe_int) (sa_cons (se_c pe_int) sa_nil))) (se_callT z_int rfl T.b_int (by decide +kernel) (sa_cons (se_cmp z_gt (se_var (pv 1)) (se_c pe_int) (nomark _)) sa_nil)) (fun _ _ => rfl)) sa_nil)))) (g_set (pg_name (i := 3) sc_law.nd rfl (by first | exact .inl rfl | exact .inr rfl)))
    (ss_gc (ds := [3, 4]) (ss_cons (s_set (i := 4) sc_law.nd rfl (by first | exact .inl rfl | exact .inr rfl) (se_fn d__law_order (hr.mono (by decide)) hG rfl T.g__law_order T.k__law_order b__law_order_0 v__law_order_0 rfl (sa_cons (se_var (pv 2)) (sa_cons (se_var (pv 3)) sa_nil)) ((al_cons (al_cons al_nil)).to rfl)))
    (ss_cons (s_if (st_not (st_val (se_fn d__law_right (hr.mono (by decide)) hG rfl T.g__law_right T.k__law_right b__law_right_0 v__law_right_0 rfl (sa_cons (se_var (pv 2)) (sa_cons (se_var (pv 4)) sa_nil)) ((al_cons (al_cons al_nil)).to rfl))))
    (ss_one (s_ret (se_c pe_bl)))
    ss_nil)
    (ss_cons (s_expr (se_meth0 PySem.F.plainAttrs_list PySem.F.slot_list_reverse PySem.F.type_list_reverse z_reverse (se_var (pv 4))))
    (ss_one (s_if (st_not (st_val (se_fn d__law_right (hr.mono (by decide)) hG rfl T.g__law_right T.k__law_right b__law_right_0 v__law_right_0 rfl (sa_cons (se_var (pv 2)) (sa_cons (se_var (pv 4)) sa_nil)) ((al_cons (al_cons al_nil)).to rfl))))
    (ss_one (s_ret (se_c pe_bl)))
    ss_nil)))))))))))
    (ss_one (s_ret (se_cmp (z_eq (Room.units hr)) (se_compV rfl sc_law.nd (i_listZ (se_lst (sa_cons (se_lst (sa_cons (se_c pe_int) (sa_cons (se_c pe_int) sa_nil))) (sa_cons (se_lst (sa_cons (k_pow (k := 1000000000000000000000000000000) (se_c pe_int) (se_c pe_int) (by decide +kernel) (by decide) (by decide) (by decide +kernel)) (sa_cons (se_c pe_int) sa_nil))) (sa_cons (se_lst sa_nil) (sa_cons (se_lst (sa_cons (se_c pe_int) sa_nil)) sa_nil)))))) (blkOk_by (own := [("_law_row_ids", 4)]) (by kernel_rfl)) rfl (gw_set (by decide)) (fun _ _ _ _ _ => (g_set (pg_name (i := 4) sc_law.nd rfl (by first | exact .inl rfl | exact .inr rfl)))) (fun _ _ _ _ _ => sts_nil) (fun _ _ _ _ _ => (se_fn d_greatest_reach (hr.mono (by decide)) hG rfl T.g_greatest_reach T.k_greatest_reach b_greatest_reach_0 v_greatest_reach_0 rfl (sa_cons (se_var (pv 4)) sa_nil) ((al_cons al_nil).to rfl)))) (se_lst (sa_cons (se_c pe_int) (sa_cons (k_pow (k := 1000000000000000000000000000000) (se_c pe_int) (se_c pe_int) (by decide +kernel) (by decide) (by decide) (by decide +kernel)) (sa_cons (se_c pe_int) (sa_cons (se_c pe_int) sa_nil))))) (nomark _)))))
end
def dd__law_draw : He.DefD := ⟨("_law_draw", none), "_law_draw", "_law_draw", defArgs s__law_draw, defBody s__law_draw, defScope s__law_draw, [], []⟩
def dd__law_order : He.DefD := ⟨("_law_order", none), "_law_order", "_law_order", defArgs s__law_order, defBody s__law_order, defScope s__law_order, [], []⟩
def dd__law_pool : He.DefD := ⟨("_law_pool", none), "_law_pool", "_law_pool", defArgs s__law_pool, defBody s__law_pool, defScope s__law_pool, [], []⟩
def dd__law_looks : He.DefD := ⟨("_law_looks", none), "_law_looks", "_law_looks", defArgs s__law_looks, defBody s__law_looks, defScope s__law_looks, [], []⟩
def dd__law_missed : He.DefD := ⟨("_law_missed", none), "_law_missed", "_law_missed", defArgs s__law_missed, defBody s__law_missed, defScope s__law_missed, [], []⟩
def dd__law_play : He.DefD := ⟨("_law_play", none), "_law_play", "_law_play", defArgs s__law_play, defBody s__law_play, defScope s__law_play, [], []⟩
def dd__law_lost : He.DefD := ⟨("_law_lost", none), "_law_lost", "_law_lost", defArgs s__law_lost, defBody s__law_lost, defScope s__law_lost, [], []⟩
def dd_is_integer : He.DefD := ⟨("is_integer", none), "is_integer", "is_integer", defArgs s_is_integer, defBody s_is_integer, defScope s_is_integer, [.non], []⟩
def dd_is_id : He.DefD := ⟨("is_id", none), "is_id", "is_id", defArgs s_is_id, defBody s_is_id, defScope s_is_id, [], []⟩
def dd_is_order : He.DefD := ⟨("is_order", none), "is_order", "is_order", defArgs s_is_order, defBody s_is_order, defScope s_is_order, [], []⟩
def dd_require_order : He.DefD := ⟨("require_order", none), "require_order", "require_order", defArgs s_require_order, defBody s_require_order, defScope s_require_order, [], []⟩
def dd_tops_in : He.DefD := ⟨("tops_in", none), "tops_in", "tops_in", defArgs s_tops_in, defBody s_tops_in, defScope s_tops_in, [], []⟩
def dd_greatest_reach : He.DefD := ⟨("greatest_reach", none), "greatest_reach", "greatest_reach", defArgs s_greatest_reach, defBody s_greatest_reach, defScope s_greatest_reach, [], []⟩
def dd__law_right : He.DefD := ⟨("_law_right", none), "_law_right", "_law_right", defArgs s__law_right, defBody s__law_right, defScope s__law_right, [], []⟩
def dd_law : He.DefD := ⟨("law", none), "law", "law", defArgs s_law, defBody s_law, defScope s_law, [], []⟩
def fn : List He.DefD := [dd__law_draw, dd__law_order, dd__law_pool, dd__law_looks, dd__law_missed, dd__law_play, dd__law_lost, dd_is_integer, dd_is_id, dd_is_order, dd_require_order, dd_tops_in, dd_greatest_reach, dd__law_right, dd_law]
def fa : List He.Fa := [.free "len", .free "min", .free "range", .glo "_law_draw", .free "abs", .free "max", .free "list", .free "sorted", .glo "_law_missed", .glo "_law_play", .free "bool", .free "int", .free "isinstance", .glo "is_integer", .int "GREATEST" 1000000000000000000000000000000, .free "all", .free "set", .glo "is_id", .int "MOST_IDS" 30, .glo "is_order", .free "enumerate", .glo "require_order", .glo "tops_in", .free "repr", .glo "_law_looks", .glo "_law_lost", .glo "greatest_reach", .glo "_law_order", .glo "_law_pool", .glo "_law_right", .glo "law"]
abbrev R : PySem.W.OpenRow := PySem.W.OpenLaw.row PySem.Challenge.rw_lateids_k29_greatest_reach
abbrev hk : PySem.W.Hook := He.hookD 4 fa fn
def ob (s : PySem.W.SharedT) : He.AlD := He.obsDG 4 fa fn (HandSHeadRun.getT s)
theorem ob_eq (s : PySem.W.SharedT) : ob s = hk.obs s.abs := He.obsDG_eq (HandSHeadRun.getT_eq s)
def loose : List PySem.Str := ["__name__", "LateError", "InvalidOrder", "GREATEST", "MOST_IDS", "is_integer", "is_id", "is_order", "require_order", "tops_in", "greatest_reach", "_law_pool", "_law_draw", "_law_shuffled", "_law_order", "_law_looks", "_law_play", "_law_missed", "_law_lost", "_law_right"]
set_option maxHeartbeats 0 in
theorem run (w : World) : HandSHeadRun.RunEq R (PySem.W.view R.prog [24]) hk ob 4000 loose w := by
  intro os
  kernel_rfl
theorem facts {P : Program} {w : World} {K : PySem.W.Frag} {h : Heap} {mg : Str → Option Value} {f : Addr} (X : K.In h) (G : h.Ns mainGlobals mg) (hfa : mg ("law" : Str) = some (.ref f)) (c : He.SaysD fa fn K) :
    ∃ fd : FuncData, (∀ (s : Shared) (v : Value), BindsTo s fd ⟨[v], []⟩ [("_law_script", v)]) ∧ ∀ base : Heap, K.In base → base.Ns mainGlobals mg → FnZ P w K mg base 7 f fd ["_law_script"] g_law_k29 := by
  obtain ⟨fd__law_draw, F__law_draw⟩ : ∃ fd, FnP__law_draw K fd := c.def_ 0 (d := dd__law_draw) rfl
  obtain ⟨fd__law_order, F__law_order⟩ : ∃ fd, FnP__law_order K fd := c.def_ 1 (d := dd__law_order) rfl
  obtain ⟨fd__law_pool, F__law_pool⟩ : ∃ fd, FnP__law_pool K fd := c.def_ 2 (d := dd__law_pool) rfl
  obtain ⟨fd__law_looks, F__law_looks⟩ : ∃ fd, FnP__law_looks K fd := c.def_ 3 (d := dd__law_looks) rfl
  obtain ⟨fd__law_missed, F__law_missed⟩ : ∃ fd, FnP__law_missed K fd := c.def_ 4 (d := dd__law_missed) rfl
  obtain ⟨fd__law_play, F__law_play⟩ : ∃ fd, FnP__law_play K fd := c.def_ 5 (d := dd__law_play) rfl
  obtain ⟨fd__law_lost, F__law_lost⟩ : ∃ fd, FnP__law_lost K fd := c.def_ 6 (d := dd__law_lost) rfl
  obtain ⟨fd_is_integer, F_is_integer⟩ : ∃ fd, FnP_is_integer K fd := c.def_ 7 (d := dd_is_integer) rfl
  obtain ⟨fd_is_id, F_is_id⟩ : ∃ fd, FnP_is_id K fd := c.def_ 8 (d := dd_is_id) rfl
  obtain ⟨fd_is_order, F_is_order⟩ : ∃ fd, FnP_is_order K fd := c.def_ 9 (d := dd_is_order) rfl
  obtain ⟨fd_require_order, F_require_order⟩ : ∃ fd, FnP_require_order K fd := c.def_ 10 (d := dd_require_order) rfl
  obtain ⟨fd_tops_in, F_tops_in⟩ : ∃ fd, FnP_tops_in K fd := c.def_ 11 (d := dd_tops_in) rfl
  obtain ⟨fd_greatest_reach, F_greatest_reach⟩ : ∃ fd, FnP_greatest_reach K fd := c.def_ 12 (d := dd_greatest_reach) rfl
  obtain ⟨fd__law_right, F__law_right⟩ : ∃ fd, FnP__law_right K fd := c.def_ 13 (d := dd__law_right) rfl
  obtain ⟨fd_law, F_law⟩ : ∃ fd, FnP_law K fd := c.def_ 14 (d := dd_law) rfl
  have e := hfa.symm.trans (He.glo_ok X G (c.fact 30 (f := .glo "law") rfl))
  cases e
  have T : Txt K mg := ⟨He.free_ok X G (c.fact 0 (f := .free "len") rfl), He.free_ok X G (c.fact 1 (f := .free "min") rfl), He.free_ok X G (c.fact 2 (f := .free "range") rfl), He.glo_ok X G (c.fact 3 (f := .glo "_law_draw") rfl), F__law_draw.kp, He.free_ok X G (c.fact 4 (f := .free "abs") rfl), He.free_ok X G (c.fact 5 (f := .free "max") rfl), He.free_ok X G (c.fact 6 (f := .free "list") rfl), He.free_ok X G (c.fact 7 (f := .free "sorted") rfl), He.glo_ok X G (c.fact 8 (f := .glo "_law_missed") rfl), F__law_missed.kp, He.glo_ok X G (c.fact 9 (f := .glo "_law_play") rfl), F__law_play.kp, He.free_ok X G (c.fact 10 (f := .free "bool") rfl), He.free_ok X G (c.fact 11 (f := .free "int") rfl), He.free_ok X G (c.fact 12 (f := .free "isinstance") rfl), He.glo_ok X G (c.fact 13 (f := .glo "is_integer") rfl), F_is_integer.kp, He.int_ok X G (c.fact 14 (f := .int "GREATEST" 1000000000000000000000000000000) rfl), He.free_ok X G (c.fact 15 (f := .free "all") rfl), He.free_ok X G (c.fact 16 (f := .free "set") rfl), He.glo_ok X G (c.fact 17 (f := .glo "is_id") rfl), F_is_id.kp, He.int_ok X G (c.fact 18 (f := .int "MOST_IDS" 30) rfl), He.glo_ok X G (c.fact 19 (f := .glo "is_order") rfl), F_is_order.kp, He.free_ok X G (c.fact 20 (f := .free "enumerate") rfl), He.glo_ok X G (c.fact 21 (f := .glo "require_order") rfl), F_require_order.kp, He.glo_ok X G (c.fact 22 (f := .glo "tops_in") rfl), F_tops_in.kp, He.free_ok X G (c.fact 23 (f := .free "repr") rfl), He.glo_ok X G (c.fact 24 (f := .glo "_law_looks") rfl), F__law_looks.kp, He.glo_ok X G (c.fact 25 (f := .glo "_law_lost") rfl), F__law_lost.kp, He.glo_ok X G (c.fact 26 (f := .glo "greatest_reach") rfl), F_greatest_reach.kp, He.glo_ok X G (c.fact 27 (f := .glo "_law_order") rfl), F__law_order.kp, He.glo_ok X G (c.fact 28 (f := .glo "_law_pool") rfl), F__law_pool.kp, He.glo_ok X G (c.fact 29 (f := .glo "_law_right") rfl), F__law_right.kp⟩
  have bl := FunD.bindsA (ps := ["_law_script"]) F_law fun _ _ _ _ _ _ us hl => match us, hl with | [_], _ => rfl
  have b__law_draw_0 : Binds K fd__law_draw ["_law_pool_here", "_law_many"] [] := FunD.bindsN F__law_draw fun _ _ _ _ _ _ us hl => match us, hl with | [_, _], _ => rfl
  have v__law_draw_0 : Vals [] [] := .nil
  have b__law_play_0 : Binds K fd__law_play ["_law_row_ids", "_law_looks_here", "_law_near", "_law_patience", "_law_most"] [] := FunD.bindsN F__law_play fun _ _ _ _ _ _ us hl => match us, hl with | [_, _, _, _, _], _ => rfl
  have v__law_play_0 : Vals [] [] := .nil
  have b__law_missed_0 : Binds K fd__law_missed ["_law_row_ids", "_law_lists"] [] := FunD.bindsN F__law_missed fun _ _ _ _ _ _ us hl => match us, hl with | [_, _], _ => rfl
  have v__law_missed_0 : Vals [] [] := .nil
  obtain ⟨ds_is_integer_0, v_is_integer_0, b_is_integer_0⟩ := FunD.binds1 (ps := ["value", "least", "greatest"]) F_is_integer 3 1 (by decide) rfl fun _ _ _ _ _ _ _ us its h1 h2 => match us, its, h1, h2 with | [_, _, _], [_], _, _ => ⟨_, rfl, rfl⟩
  have b_is_id_0 : Binds K fd_is_id ["value"] [] := FunD.bindsN F_is_id fun _ _ _ _ _ _ us hl => match us, hl with | [_], _ => rfl
  have v_is_id_0 : Vals [] [] := .nil
  have b_is_order_0 : Binds K fd_is_order ["value"] [] := FunD.bindsN F_is_order fun _ _ _ _ _ _ us hl => match us, hl with | [_], _ => rfl
  have v_is_order_0 : Vals [] [] := .nil
  have b_require_order_0 : Binds K fd_require_order ["order"] [] := FunD.bindsN F_require_order fun _ _ _ _ _ _ us hl => match us, hl with | [_], _ => rfl
  have v_require_order_0 : Vals [] [] := .nil
  have b_tops_in_0 : Binds K fd_tops_in ["order"] [] := FunD.bindsN F_tops_in fun _ _ _ _ _ _ us hl => match us, hl with | [_], _ => rfl
  have v_tops_in_0 : Vals [] [] := .nil
  have b_greatest_reach_0 : Binds K fd_greatest_reach ["order"] [] := FunD.bindsN F_greatest_reach fun _ _ _ _ _ _ us hl => match us, hl with | [_], _ => rfl
  have v_greatest_reach_0 : Vals [] [] := .nil
  have b__law_lost_0 : Binds K fd__law_lost ["_law_row_ids", "_law_looks_here", "_law_size"] [] := FunD.bindsN F__law_lost fun _ _ _ _ _ _ us hl => match us, hl with | [_, _, _], _ => rfl
  have v__law_lost_0 : Vals [] [] := .nil
  have b__law_looks_0 : Binds K fd__law_looks ["_law_pool_here", "_law_size", "_law_most"] [] := FunD.bindsN F__law_looks fun _ _ _ _ _ _ us hl => match us, hl with | [_, _, _], _ => rfl
  have v__law_looks_0 : Vals [] [] := .nil
  have b__law_pool_0 : Binds K fd__law_pool ["_law_script", "_law_at"] [] := FunD.bindsN F__law_pool fun _ _ _ _ _ _ us hl => match us, hl with | [_, _], _ => rfl
  have v__law_pool_0 : Vals [] [] := .nil
  have b__law_order_0 : Binds K fd__law_order ["_law_pool_here", "_law_most"] [] := FunD.bindsN F__law_order fun _ _ _ _ _ _ us hl => match us, hl with | [_, _], _ => rfl
  have v__law_order_0 : Vals [] [] := .nil
  have b__law_right_0 : Binds K fd__law_right ["_law_pool_here", "_law_row_ids"] [] := FunD.bindsN F__law_right fun _ _ _ _ _ _ us hl => match us, hl with | [_, _], _ => rfl
  have v__law_right_0 : Vals [] [] := .nil
  refine ⟨fd_law, fun s v => bl s [v] rfl, fun base _ _ => ?_⟩
  have d__law_draw : FnZ P w K mg base 1 (He.ga K "_law_draw") fd__law_draw ["_law_pool_here", "_law_many"] g_draw_k00 := ok__law_draw F__law_draw T
  have d__law_order : FnZ P w K mg base 2 (He.ga K "_law_order") fd__law_order ["_law_pool_here", "_law_most"] g_order_k11 := ok__law_order F__law_order T d__law_draw b__law_draw_0 v__law_draw_0
  have d__law_pool : FnZ P w K mg base 1 (He.ga K "_law_pool") fd__law_pool ["_law_script", "_law_at"] g_pool := ok__law_pool F__law_pool T
  have d__law_looks : FnZ P w K mg base 2 (He.ga K "_law_looks") fd__law_looks ["_law_pool_here", "_law_size", "_law_most"] g_looks := ok__law_looks F__law_looks T d__law_draw b__law_draw_0 v__law_draw_0
  have d__law_missed : FnZ P w K mg base 1 (He.ga K "_law_missed") fd__law_missed ["_law_row_ids", "_law_lists"] g_missed := ok__law_missed F__law_missed T
  have d__law_play : FnZ P w K mg base 1 (He.ga K "_law_play") fd__law_play ["_law_row_ids", "_law_looks_here", "_law_near", "_law_patience", "_law_most"] g_play := ok__law_play F__law_play T
  have d__law_lost : FnZ P w K mg base 2 (He.ga K "_law_lost") fd__law_lost ["_law_row_ids", "_law_looks_here", "_law_size"] g_lost_k29 := ok__law_lost F__law_lost T d__law_missed b__law_missed_0 v__law_missed_0 d__law_play b__law_play_0 v__law_play_0
  have d_is_integer : FnZ P w K mg base 1 (He.ga K "is_integer") fd_is_integer ["value", "least", "greatest"] f_is_integer := ok_is_integer F_is_integer T
  have d_is_id : FnZ P w K mg base 2 (He.ga K "is_id") fd_is_id ["value"] f_is_id := ok_is_id F_is_id T d_is_integer b_is_integer_0 v_is_integer_0
  have d_is_order : FnZ P w K mg base 3 (He.ga K "is_order") fd_is_order ["value"] f_is_order := ok_is_order F_is_order T d_is_id b_is_id_0 v_is_id_0
  have d_require_order : FnZ P w K mg base 4 (He.ga K "require_order") fd_require_order ["order"] f_require_order := ok_require_order F_require_order T d_is_order b_is_order_0 v_is_order_0
  have d_tops_in : FnZ P w K mg base 1 (He.ga K "tops_in") fd_tops_in ["order"] f_tops_in := ok_tops_in F_tops_in T
  have d_greatest_reach : FnZ P w K mg base 5 (He.ga K "greatest_reach") fd_greatest_reach ["order"] f_greatest_reach := ok_greatest_reach F_greatest_reach T d_require_order b_require_order_0 v_require_order_0 d_tops_in b_tops_in_0 v_tops_in_0
  have d__law_right : FnZ P w K mg base 6 (He.ga K "_law_right") fd__law_right ["_law_pool_here", "_law_row_ids"] g_right_k29 := ok__law_right F__law_right T d__law_looks b__law_looks_0 v__law_looks_0 d__law_lost b__law_lost_0 v__law_lost_0 d_greatest_reach b_greatest_reach_0 v_greatest_reach_0
  exact ok_law F_law T d__law_order b__law_order_0 v__law_order_0 d__law_pool b__law_pool_0 v__law_pool_0 d__law_right b__law_right_0 v__law_right_0 d_greatest_reach b_greatest_reach_0 v_greatest_reach_0
end Zl.K29

/-! Zl, part 9: lemmas for plain reckoning with the meanings. -/
namespace Zl
open PySem L2

/-- not by rfl: the kernel is to be told it -/
theorem nr {α : Sort u} {a b : α} (h : a = b) : a = b := h
@[simp] theorem bsome {α β : Type} (a : α) (f : α → Option β) : (some a).bind f = f a := nr rfl
@[simp] theorem bnone {α β : Type} (f : α → Option β) : (none : Option α).bind f = none := nr rfl
section
variable {σ : St} {G : Hz} {α β : Type}
def getS : Option (Option V) → Option V
  | some (some v) => some v
  | _ => none
@[simp] theorem getS_some (v : V) : getS (some (some v)) = some v := nr rfl
def asBl : V → Hz → Option (Bool × Hz)
  | .bl k, G => some (k, G)
  | _, _ => none
@[simp] theorem asBl_bl (k : Bool) : asBl (.bl k) G = some (k, G) := nr rfl
def asInt : V → Hz → Option (Option Int × Hz)
  | .int i, G => some (some i, G)
  | _, _ => none
@[simp] theorem asInt_int (i : Int) : asInt (.int i) G = some (some i, G) := nr rfl
def varK (H : Hz) : V → Option (V × Hz) := fun v => some (v, H)
@[simp] theorem varK_ev (H : Hz) (v : V) : varK H v = some (v, H) := nr rfl
@[simp] theorem eVar_ev (i : Nat) : eVar i σ G = (getS σ[i]?).bind (varK G) := by
  show (match σ[i]? with | some (some v) => some (v, G) | _ => none) = _
  cases σ[i]? with
  | none => rfl
  | some o => cases o <;> rfl
@[simp] theorem eC_ev (v : V) : eC v σ G = some (v, G) := nr rfl
def binB (f : F2) (x : V) : V × Hz → Option (V × Hz) := fun p => f x p.1 p.2
@[simp] theorem binB_ev (f : F2) (x : V) (y : V) (H : Hz) : binB f x (y, H) = f x y H := nr rfl
def binA (f : F2) (b : ME) (σ : St) : V × Hz → Option (V × Hz) := fun p => (b σ p.2).bind (binB f p.1)
@[simp] theorem binA_ev (f : F2) (b : ME) (σ : St) (x : V) (H : Hz) : binA f b σ (x, H) = (b σ H).bind (binB f x) := nr rfl
@[simp] theorem eBin_ev (f : F2) (a b : ME) : eBin f a b σ G = (a σ G).bind (binA f b σ) := nr rfl
def unA (f : F1) : V × Hz → Option (V × Hz) := fun p => f p.1 p.2
@[simp] theorem unA_ev (f : F1) (x : V) (H : Hz) : unA f (x, H) = f x H := nr rfl
@[simp] theorem eUn_ev (f : F1) (a : ME) : eUn f a σ G = (a σ G).bind (unA f) := nr rfl
def tstA  : V × Hz → Option (Bool × Hz) := fun p => asBl p.1 p.2
@[simp] theorem tstA_ev  (x : V) (H : Hz) : tstA  (x, H) = asBl x H := nr rfl
@[simp] theorem tE_ev (a : ME) : tE a σ G = (a σ G).bind tstA := by
  unfold tE
  congr 1
  funext p
  rcases p with ⟨v, H⟩
  cases v <;> first | rfl | (rename_i k; cases k <;> rfl)
def andB (b : ME) (σ : St) : Bool × Hz → Option (V × Hz) := fun p => if p.1 = true then b σ p.2 else some (.bl false, p.2)
@[simp] theorem andB_ev (b : ME) (σ : St) (k : Bool) (H : Hz) : andB b σ (k, H) = if k = true then b σ H else some (.bl false, H) := nr rfl
def andA (b : ME) (σ : St) : V × Hz → Option (V × Hz) := fun p => (asBl p.1 p.2).bind (andB b σ)
@[simp] theorem andA_ev (b : ME) (σ : St) (x : V) (H : Hz) : andA b σ (x, H) = (asBl x H).bind (andB b σ) := nr rfl
@[simp] theorem eAnd_ev (a b : ME) : eAnd a b σ G = (a σ G).bind (andA b σ) := by
  unfold eAnd
  congr 1
  funext p
  rcases p with ⟨v, H⟩
  cases v <;> first | rfl | (rename_i k; cases k <;> rfl)
def orB (b : ME) (σ : St) : Bool × Hz → Option (V × Hz) := fun p => if p.1 = true then some (.bl true, p.2) else b σ p.2
@[simp] theorem orB_ev (b : ME) (σ : St) (k : Bool) (H : Hz) : orB b σ (k, H) = if k = true then some (.bl true, H) else b σ H := nr rfl
def orA (b : ME) (σ : St) : V × Hz → Option (V × Hz) := fun p => (asBl p.1 p.2).bind (orB b σ)
@[simp] theorem orA_ev (b : ME) (σ : St) (x : V) (H : Hz) : orA b σ (x, H) = (asBl x H).bind (orB b σ) := nr rfl
@[simp] theorem eOr_ev (a b : ME) : eOr a b σ G = (a σ G).bind (orA b σ) := by
  unfold eOr
  congr 1
  funext p
  rcases p with ⟨v, H⟩
  cases v <;> first | rfl | (rename_i k; cases k <;> rfl)
def notB  : Bool × Hz → Option (V × Hz) := fun p => some (V.bl (!p.1), p.2)
@[simp] theorem notB_ev  (k : Bool) (H : Hz) : notB  (k, H) = some (V.bl (!k), H) := nr rfl
def notA  : V × Hz → Option (V × Hz) := fun p => (asBl p.1 p.2).bind notB
@[simp] theorem notA_ev  (x : V) (H : Hz) : notA  (x, H) = (asBl x H).bind notB := nr rfl
@[simp] theorem eNot_ev (a : ME) : eNot a σ G = (a σ G).bind notA := by
  unfold eNot
  congr 1
  funext p
  rcases p with ⟨v, H⟩
  cases v <;> first | rfl | (rename_i k; cases k <;> rfl)
def ifA (a b : ME) (σ : St) : Bool × Hz → Option (V × Hz) := fun p => if p.1 = true then a σ p.2 else b σ p.2
@[simp] theorem ifA_ev (a b : ME) (σ : St) (k : Bool) (H : Hz) : ifA a b σ (k, H) = if k = true then a σ H else b σ H := nr rfl
@[simp] theorem eIf_ev (t : MT) (a b : ME) : eIf t a b σ G = (t σ G).bind (ifA a b σ) := nr rfl
def chD (g : F2) (y : V) : V × Hz → Option (V × Hz) := fun p => g y p.1 p.2
@[simp] theorem chD_ev (g : F2) (y : V) (z : V) (H : Hz) : chD g y (z, H) = g y z H := nr rfl
def chC (g : F2) (c : ME) (σ : St) (y : V) : Bool × Hz → Option (V × Hz) := fun p => if p.1 = true then (c σ p.2).bind (chD g y) else some (.bl false, p.2)
@[simp] theorem chC_ev (g : F2) (c : ME) (σ : St) (y : V) (k : Bool) (H : Hz) : chC g c σ y (k, H) = if k = true then (c σ H).bind (chD g y) else some (.bl false, H) := nr rfl
def chR (g : F2) (c : ME) (σ : St) (y : V) : V × Hz → Option (V × Hz) := fun p => (asBl p.1 p.2).bind (chC g c σ y)
@[simp] theorem chR_ev (g : F2) (c : ME) (σ : St) (y : V) (r : V) (H : Hz) : chR g c σ y (r, H) = (asBl r H).bind (chC g c σ y) := nr rfl
def chB (f g : F2) (c : ME) (σ : St) (x : V) : V × Hz → Option (V × Hz) := fun p => (f x p.1 p.2).bind (chR g c σ p.1)
@[simp] theorem chB_ev (f g : F2) (c : ME) (σ : St) (x : V) (y : V) (H : Hz) : chB f g c σ x (y, H) = (f x y H).bind (chR g c σ y) := nr rfl
def chA (f g : F2) (b c : ME) (σ : St) : V × Hz → Option (V × Hz) := fun p => (b σ p.2).bind (chB f g c σ p.1)
@[simp] theorem chA_ev (f g : F2) (b c : ME) (σ : St) (x : V) (H : Hz) : chA f g b c σ (x, H) = (b σ H).bind (chB f g c σ x) := nr rfl
@[simp] theorem eChain_ev (f g : F2) (a b c : ME) : eChain f g a b c σ G = (a σ G).bind (chA f g b c σ) := by
  unfold eChain
  congr 1
  funext p
  show _ = (b σ p.2).bind (chB f g c σ p.1)
  congr 1
  funext q
  show _ = (f p.1 q.1 q.2).bind (chR g c σ q.1)
  congr 1
  funext r
  rcases r with ⟨v, G'⟩
  cases v <;> try rfl
  rename_i k
  cases k <;> rfl
@[simp] theorem aNil_ev : aNil σ G = some ([], G) := nr rfl
def consB (x : V) : List V × Hz → Option (List V × Hz) := fun p => some (x :: p.1, p.2)
@[simp] theorem consB_ev (x : V) (xs : List V) (H : Hz) : consB x (xs, H) = some (x :: xs, H) := nr rfl
def consA (r : MA) (σ : St) : V × Hz → Option (List V × Hz) := fun p => (r σ p.2).bind (consB p.1)
@[simp] theorem consA_ev (r : MA) (σ : St) (x : V) (H : Hz) : consA r σ (x, H) = (r σ H).bind (consB x) := nr rfl
@[simp] theorem aCons_ev (a : ME) (r : MA) : aCons a r σ G = (a σ G).bind (consA r σ) := nr rfl
def lstA  : List V × Hz → Option (V × Hz) := fun p => if p.1.length ≤ sizeLine then some (.ref p.2.length, p.2 ++ [.lst p.1]) else none
@[simp] theorem lstA_ev  (xs : List V) (H : Hz) : lstA  (xs, H) = if xs.length ≤ sizeLine then some (.ref H.length, H ++ [.lst xs]) else none := nr rfl
def tupA  : List V × Hz → Option (V × Hz) := fun p => if p.1.length ≤ sizeLine then some (.ref p.2.length, p.2 ++ [.tup p.1]) else none
@[simp] theorem tupA_ev  (xs : List V) (H : Hz) : tupA  (xs, H) = if xs.length ≤ sizeLine then some (.ref H.length, H ++ [.tup xs]) else none := nr rfl
@[simp] theorem eLst_ev (r : MA) : eLst r σ G = (r σ G).bind lstA := nr rfl
@[simp] theorem eTup_ev (r : MA) : eTup r σ G = (r σ G).bind tupA := nr rfl
def callA (f : FL) : List V × Hz → Option (V × Hz) := fun p => f p.1 p.2
@[simp] theorem callA_ev (f : FL) (xs : List V) (H : Hz) : callA f (xs, H) = f xs H := nr rfl
@[simp] theorem eCall_ev (f : FL) (r : MA) : eCall f r σ G = (r σ G).bind (callA f) := nr rfl
def fnA (f : FL) (d : List V) : List V × Hz → Option (V × Hz) := fun p => f (p.1 ++ d) p.2
@[simp] theorem fnA_ev (f : FL) (d : List V) (xs : List V) (H : Hz) : fnA f d (xs, H) = f (xs ++ d) H := nr rfl
@[simp] theorem eFn_ev (m : FL) (d : List V) (r : MA) : eFn m d r σ G = (r σ G).bind (fnA m d) := nr rfl
def methB (f : FM) (x : V) : List V × Hz → Option (V × Hz) := fun p => f x p.1 p.2
@[simp] theorem methB_ev (f : FM) (x : V) (xs : List V) (H : Hz) : methB f x (xs, H) = f x xs H := nr rfl
def methA (T : V → Hz → Bool) (f : FM) (r : MA) (σ : St) : V × Hz → Option (V × Hz) := fun p => if T p.1 p.2 = true then (r σ p.2).bind (methB f p.1) else none
@[simp] theorem methA_ev (T : V → Hz → Bool) (f : FM) (r : MA) (σ : St) (x : V) (H : Hz) : methA T f r σ (x, H) = if T x H = true then (r σ H).bind (methB f x) else none := nr rfl
@[simp] theorem eMeth_ev (T : V → Hz → Bool) (f : FM) (o : ME) (r : MA) : eMeth T f o r σ G = (o σ G).bind (methA T f r σ) := nr rfl
@[simp] theorem oNone_ev : oNone σ G = some (none, G) := nr rfl
def someA  : V × Hz → Option (Option Int × Hz) := fun p => asInt p.1 p.2
@[simp] theorem someA_ev  (x : V) (H : Hz) : someA  (x, H) = asInt x H := nr rfl
@[simp] theorem oSome_ev (a : ME) : oSome a σ G = (a σ G).bind someA := by
  unfold oSome
  congr 1
  funext p
  rcases p with ⟨v, H⟩
  cases v <;> first | rfl | (rename_i k; cases k <;> rfl)
abbrev SlF := V → Option Int → Option Int → Hz → Option (V × Hz)
def slC (f : SlF) (x : V) (l : Option Int) : Option Int × Hz → Option (V × Hz) := fun p => f x l p.1 p.2
@[simp] theorem slC_ev (f : SlF) (x : V) (l : Option Int) (h : Option Int) (H : Hz) : slC f x l (h, H) = f x l h H := nr rfl
def slB (f : SlF) (m : MO) (σ : St) (x : V) : Option Int × Hz → Option (V × Hz) := fun p => (m σ p.2).bind (slC f x p.1)
@[simp] theorem slB_ev (f : SlF) (m : MO) (σ : St) (x : V) (l : Option Int) (H : Hz) : slB f m σ x (l, H) = (m σ H).bind (slC f x l) := nr rfl
def slA (f : SlF) (n m : MO) (σ : St) : V × Hz → Option (V × Hz) := fun p => (n σ p.2).bind (slB f m σ p.1)
@[simp] theorem slA_ev (f : SlF) (n m : MO) (σ : St) (x : V) (H : Hz) : slA f n m σ (x, H) = (n σ H).bind (slB f m σ x) := nr rfl
@[simp] theorem eSlice_ev (f : SlF) (a : ME) (l h : MO) : eSlice f a l h σ G = (a σ G).bind (slA f l h σ) := nr rfl
def tAndA (b : MT) (σ : St) : Bool × Hz → Option (Bool × Hz) := fun p => if p.1 = true then b σ p.2 else some (false, p.2)
@[simp] theorem tAndA_ev (b : MT) (σ : St) (k : Bool) (H : Hz) : tAndA b σ (k, H) = if k = true then b σ H else some (false, H) := nr rfl
def tOrA (b : MT) (σ : St) : Bool × Hz → Option (Bool × Hz) := fun p => if p.1 = true then some (true, p.2) else b σ p.2
@[simp] theorem tOrA_ev (b : MT) (σ : St) (k : Bool) (H : Hz) : tOrA b σ (k, H) = if k = true then some (true, H) else b σ H := nr rfl
def tNotA  : Bool × Hz → Option (Bool × Hz) := fun p => some (!p.1, p.2)
@[simp] theorem tNotA_ev  (k : Bool) (H : Hz) : tNotA  (k, H) = some (!k, H) := nr rfl
@[simp] theorem tAndZ_ev (a b : MT) : tAndZ a b σ G = (a σ G).bind (tAndA b σ) := nr rfl
@[simp] theorem tOrZ_ev (a b : MT) : tOrZ a b σ G = (a σ G).bind (tOrA b σ) := nr rfl
@[simp] theorem tNotZ_ev (a : MT) : tNotZ a σ G = (a σ G).bind tNotA := nr rfl
@[simp] theorem tYesZ_ev : tYesZ σ G = some (true, G) := nr rfl
def cutA (G : Hz) : V × Hz → Option (V × Hz) := fun p => cut G p.1 p.2
@[simp] theorem cutA_ev (G : Hz) (x : V) (H : Hz) : cutA G (x, H) = cut G x H := nr rfl
def dropA (G : Hz) : V × Hz → Option (V × Hz) := fun p => if keptB G.length G p.2 = true then some (V.non, p.2.take G.length) else none
@[simp] theorem dropA_ev (G : Hz) (x : V) (H : Hz) : dropA G (x, H) = if keptB G.length G H = true then some (V.non, H.take G.length) else none := nr rfl
def tCutA (G : Hz) : Bool × Hz → Option (Bool × Hz) := fun p => if keptB G.length G p.2 = true then some (p.1, p.2.take G.length) else none
@[simp] theorem tCutA_ev (G : Hz) (k : Bool) (H : Hz) : tCutA G (k, H) = if keptB G.length G H = true then some (k, H.take G.length) else none := nr rfl
@[simp] theorem eCut_ev (m : ME) : eCut m σ G = (m σ G).bind (cutA G) := nr rfl
@[simp] theorem eDrop_ev (m : ME) : eDrop m σ G = (m σ G).bind (dropA G) := nr rfl
@[simp] theorem tCut_ev (m : MT) : tCut m σ G = (m σ G).bind (tCutA G) := nr rfl
@[simp] theorem cut_int (i : Int) (H : Hz) : cut G (.int i) H = if keptB G.length G H = true then some (.int i, H.take G.length) else none := nr rfl
@[simp] theorem cut_bl (i : Bool) (H : Hz) : cut G (.bl i) H = if keptB G.length G H = true then some (.bl i, H.take G.length) else none := nr rfl
@[simp] theorem cut_str (i : Str) (H : Hz) : cut G (.str i) H = if keptB G.length G H = true then some (.str i, H.take G.length) else none := nr rfl
@[simp] theorem cut_ty (i : String) (H : Hz) : cut G (.ty i) H = if keptB G.length G H = true then some (.ty i, H.take G.length) else none := nr rfl
@[simp] theorem cut_non (H : Hz) : cut G .non H = if keptB G.length G H = true then some (.non, H.take G.length) else none := nr rfl
def cutO (G H : Hz) : O → Option (V × Hz) := fun o => if okO G.length o = true ∧ isFz o = false then some (.ref G.length, H.take G.length ++ [o]) else none
@[simp] theorem cutO_ev (G H : Hz) (o : O) : cutO G H o = if okO G.length o = true ∧ isFz o = false then some (.ref G.length, H.take G.length ++ [o]) else none := nr rfl
@[simp] theorem cut_ref (a : Nat) (H : Hz) : cut G (.ref a) H = if keptB G.length G H = true then (if a < G.length then some (.ref a, H.take G.length) else (H[a]?).bind (cutO G H)) else none := by
  unfold cut
  split
  · dsimp only
    split
    · rfl
    · cases H[a]? <;> rfl
  · rfl
/-! statements -/
@[simp] theorem then_nx (H : Hz) (k : St → Hz → Option R) : R.then (.nx σ H) k = k σ H := nr rfl
@[simp] theorem then_rt (v : V) (H : Hz) (k : St → Hz → Option R) : R.then (.rt v H) k = some (.rt v H) := nr rfl
@[simp] theorem then_bk (H : Hz) (k : St → Hz → Option R) : R.then (.bk σ H) k = some (.bk σ H) := nr rfl
@[simp] theorem then_ct (H : Hz) (k : St → Hz → Option R) : R.then (.ct σ H) k = some (.ct σ H) := nr rfl
def seqA (b : MS) : R → Option (R) := fun r => r.then b
@[simp] theorem seqA_ev (b : MS) (r : R) : seqA b r = r.then b := nr rfl
@[simp] theorem sSeq_ev (a b : MS) : sSeq a b σ G = (a σ G).bind (seqA b) := nr rfl
@[simp] theorem sPass_ev : sPass σ G = some (.nx σ G) := nr rfl
@[simp] theorem sNever_ev : sNever σ G = none := nr rfl
@[simp] theorem sBreak_ev : sBreak σ G = some (.bk σ G) := nr rfl
@[simp] theorem sCont_ev : sCont σ G = some (.ct σ G) := nr rfl
def exprA (σ : St) : V × Hz → Option (R) := fun p => some (R.nx σ p.2)
@[simp] theorem exprA_ev (σ : St) (x : V) (H : Hz) : exprA σ (x, H) = some (R.nx σ H) := nr rfl
def retA  : V × Hz → Option (R) := fun p => some (R.rt p.1 p.2)
@[simp] theorem retA_ev  (x : V) (H : Hz) : retA  (x, H) = some (R.rt x H) := nr rfl
@[simp] theorem sExpr_ev (a : ME) : sExpr a σ G = (a σ G).bind (exprA σ) := nr rfl
@[simp] theorem sRet_ev (a : ME) : sRet a σ G = (a σ G).bind retA := nr rfl
@[simp] theorem sRetN_ev : sRetN σ G = some (.rt .non G) := nr rfl
def sifA (a b : MS) (σ : St) : Bool × Hz → Option (R) := fun p => if p.1 = true then a σ p.2 else b σ p.2
@[simp] theorem sifA_ev (a b : MS) (σ : St) (k : Bool) (H : Hz) : sifA a b σ (k, H) = if k = true then a σ H else b σ H := nr rfl
@[simp] theorem sIf_ev (t : MT) (a b : MS) : sIf t a b σ G = (t σ G).bind (sifA a b σ) := nr rfl
@[simp] theorem gSet_ev (i : Nat) (v : V) : gSet i v σ G = some (σ.set i (some v), G) := nr rfl
@[simp] theorem gsNil_ev : gsNil [] σ G = some (σ, G) := nr rfl
def gsA (r : MGs) (vs : List V) : St × Hz → Option (St × Hz) := fun p => r vs p.1 p.2
@[simp] theorem gsA_ev (r : MGs) (vs : List V) (t : St) (H : Hz) : gsA r vs (t, H) = r vs t H := nr rfl
@[simp] theorem gsCons_ev (g : MG) (r : MGs) (v : V) (vs : List V) : gsCons g r (v :: vs) σ G = (g v σ G).bind (gsA r vs) := nr rfl
def unpk : Option O → Option (List V)
  | some (.tup xs) => some xs
  | some (.lst xs) => some xs
  | _ => none
@[simp] theorem unpk_tup (xs : List V) : unpk (some (.tup xs)) = some xs := nr rfl
@[simp] theorem unpk_lst (xs : List V) : unpk (some (.lst xs)) = some xs := nr rfl
def gunA (n : Nat) (r : MGs) (σ : St) (H : Hz) : List V → Option (St × Hz) := fun xs => if xs.length = n then r xs σ H else none
@[simp] theorem gunA_ev (n : Nat) (r : MGs) (σ : St) (H : Hz) (xs : List V) : gunA n r σ H xs = if xs.length = n then r xs σ H else none := nr rfl
@[simp] theorem gUn_ev (n : Nat) (r : MGs) (a : Nat) : gUn n r (.ref a) σ G = (unpk G[a]?).bind (gunA n r σ G) := by
  unfold gUn unpk
  dsimp only
  cases G[a]? with
  | none => rfl
  | some o => cases o <;> rfl
def putC (σ : St) : Hz → Option (St × Hz) := fun H => some (σ, H)
@[simp] theorem putC_ev (σ : St) (H : Hz) : putC σ H = some (σ, H) := nr rfl
def putB (f : V → V → V → Hz → Option Hz) (σ : St) (v x : V) : V × Hz → Option (St × Hz) := fun p => (f x p.1 v p.2).bind (putC σ)
@[simp] theorem putB_ev (f : V → V → V → Hz → Option Hz) (σ : St) (v x : V) (y : V) (H : Hz) : putB f σ v x (y, H) = (f x y v H).bind (putC σ) := nr rfl
def putA (f : V → V → V → Hz → Option Hz) (i : ME) (σ : St) (v : V) : V × Hz → Option (St × Hz) := fun p => (i σ p.2).bind (putB f σ v p.1)
@[simp] theorem putA_ev (f : V → V → V → Hz → Option Hz) (i : ME) (σ : St) (v : V) (x : V) (H : Hz) : putA f i σ v (x, H) = (i σ H).bind (putB f σ v x) := nr rfl
@[simp] theorem gPut_ev (f : V → V → V → Hz → Option Hz) (o i : ME) (v : V) : gPut f o i v σ G = (o σ G).bind (putA f i σ v) := nr rfl
def asgB  : St × Hz → Option (R) := fun p => some (R.nx p.1 p.2)
@[simp] theorem asgB_ev  (t : St) (H : Hz) : asgB  (t, H) = some (R.nx t H) := nr rfl
def asgA (g : MG) (σ : St) : V × Hz → Option (R) := fun p => (g p.1 σ p.2).bind asgB
@[simp] theorem asgA_ev (g : MG) (σ : St) (x : V) (H : Hz) : asgA g σ (x, H) = (g x σ H).bind asgB := nr rfl
@[simp] theorem sAsg_ev (e : ME) (g : MG) : sAsg e g σ G = (e σ G).bind (asgA g σ) := nr rfl
def parA (i : List Nat) (σ : St) : List V × Hz → Option (R) := fun p => if p.1.length = i.length then some (R.nx ((i.zip p.1).foldl (fun σ q => σ.set q.1 (some q.2)) σ) p.2) else none
@[simp] theorem parA_ev (i : List Nat) (σ : St) (xs : List V) (H : Hz) : parA i σ (xs, H) = if xs.length = i.length then some (R.nx ((i.zip xs).foldl (fun σ q => σ.set q.1 (some q.2)) σ) H) else none := nr rfl
@[simp] theorem sPar_ev (i : List Nat) (r : MA) : sPar i r σ G = (r σ G).bind (parA i σ) := nr rfl
def augC (σ : St) (i : Nat) : V × Hz → Option (R) := fun p => some (R.nx (σ.set i (some p.1)) p.2)
@[simp] theorem augC_ev (σ : St) (i : Nat) (y : V) (H : Hz) : augC σ i (y, H) = some (R.nx (σ.set i (some y)) H) := nr rfl
def augB (f : F2) (σ : St) (i : Nat) (x : V) : V × Hz → Option (R) := fun p => (f x p.1 p.2).bind (augC σ i)
@[simp] theorem augB_ev (f : F2) (σ : St) (i : Nat) (x : V) (y : V) (H : Hz) : augB f σ i x (y, H) = (f x y H).bind (augC σ i) := nr rfl
def augA (f : F2) (e : ME) (σ : St) (H : Hz) (i : Nat) : V → Option (R) := fun x => (e σ H).bind (augB f σ i x)
@[simp] theorem augA_ev (f : F2) (e : ME) (σ : St) (H : Hz) (i : Nat) (x : V) : augA f e σ H i x = (e σ H).bind (augB f σ i x) := nr rfl
@[simp] theorem sAug_ev (i : Nat) (f : F2) (e : ME) : sAug i f e σ G = (getS σ[i]?).bind (augA f e σ G i) := by
  show (match σ[i]? with | some (some x) => (e σ G).bind fun p => (f x p.1 p.2).bind fun q => some (R.nx (σ.set i (some q.1)) q.2) | _ => none) = _
  cases σ[i]? with
  | none => rfl
  | some o => cases o <;> rfl
def gcR (ds : List Nat) (G : Hz) : R → Option R
  | .nx σ' G' => if okS G.length (wipe σ' ds) = true ∧ keptB G.length G G' = true then some (.nx (wipe σ' ds) (G'.take G.length)) else none
  | .ct σ' G' => if okS G.length (wipe σ' ds) = true ∧ keptB G.length G G' = true then some (.ct (wipe σ' ds) (G'.take G.length)) else none
  | r => some r
@[simp] theorem sGc_ev (ds : List Nat) (b : MS) : sGc ds b σ G = (b σ G).bind (gcR ds G) := by
  show (b σ G).bind _ = _
  refine congrArg _ (funext fun r => ?_)
  cases r <;> rfl
@[simp] theorem gcR_nx (ds : List Nat) (H : Hz) : gcR ds G (.nx σ H) = if okS G.length (wipe σ ds) = true ∧ keptB G.length G H = true then some (.nx (wipe σ ds) (H.take G.length)) else none := nr rfl
@[simp] theorem gcR_ct (ds : List Nat) (H : Hz) : gcR ds G (.ct σ H) = if okS G.length (wipe σ ds) = true ∧ keptB G.length G H = true then some (.ct (wipe σ ds) (H.take G.length)) else none := nr rfl
@[simp] theorem gcR_bk (ds : List Nat) (H : Hz) : gcR ds G (.bk σ H) = some (.bk σ H) := nr rfl
@[simp] theorem gcR_rt (ds : List Nat) (v : V) (H : Hz) : gcR ds G (.rt v H) = some (.rt v H) := nr rfl
def wipeR (ds : List Nat) : R → Option R
  | .nx σ' G' => some (.nx (wipe σ' ds) G')
  | .ct σ' G' => some (.ct (wipe σ' ds) G')
  | r => some r
@[simp] theorem sWipe_ev (ds : List Nat) (b : MS) : sWipe ds b σ G = (b σ G).bind (wipeR ds) := by
  show (b σ G).bind _ = _
  refine congrArg _ (funext fun r => ?_)
  cases r <;> rfl
@[simp] theorem wipeR_nx (ds : List Nat) (H : Hz) : wipeR ds (.nx σ H) = some (.nx (wipe σ ds) H) := nr rfl
@[simp] theorem wipeR_ct (ds : List Nat) (H : Hz) : wipeR ds (.ct σ H) = some (.ct (wipe σ ds) H) := nr rfl
@[simp] theorem wipeR_bk (ds : List Nat) (H : Hz) : wipeR ds (.bk σ H) = some (.bk σ H) := nr rfl
@[simp] theorem wipeR_rt (ds : List Nat) (v : V) (H : Hz) : wipeR ds (.rt v H) = some (.rt v H) := nr rfl
@[simp] theorem wipe_nil : wipe σ [] = σ := nr rfl
@[simp] theorem wipe_cons (d : Nat) (ds : List Nat) : wipe σ (d :: ds) = (wipe σ ds).set d none := nr rfl
def endR : R → Option (V × Hz)
  | .nx _ G' => some (.non, G')
  | .rt v G' => some (v, G')
  | _ => none
@[simp] theorem endR_nx (H : Hz) : endR (.nx σ H) = some (.non, H) := nr rfl
@[simp] theorem endR_rt (v : V) (H : Hz) : endR (.rt v H) = some (v, H) := nr rfl
@[simp] theorem runD_ev (n : Nat) (b : MS) (vs : List V) : runD n b vs G = (b (startZ n vs) G).bind endR := by
  show (b (startZ n vs) G).bind _ = _
  refine congrArg _ (funext fun r => ?_)
  cases r <;> rfl
@[simp] theorem startZ_ev (n : Nat) (vs : List V) : startZ n vs = vs.map some ++ List.replicate (n - vs.length) none := nr rfl
@[simp] theorem cutF_ev (f : FL) (vs : List V) : cutF f vs G = (f vs G).bind (cutA G) := nr rfl
/-! operators -/
@[simp] theorem bAdd_ii (i j : Int) : bAdd (.int i) (.int j) G = some (.int (i + j), G) := nr rfl
@[simp] theorem bSub_ii (i j : Int) : bSub (.int i) (.int j) G = some (.int (i - j), G) := nr rfl
@[simp] theorem bMul_ii (i j : Int) : bMul (.int i) (.int j) G = if smallN i = true ∧ smallN j = true then some (.int (i * j), G) else none := nr rfl
@[simp] theorem bMod_ii (i j : Int) : bMod (.int i) (.int j) G = if j ≠ 0 then some (.int (i.fmod j), G) else none := nr rfl
@[simp] theorem bDiv_ii (i j : Int) : bDiv (.int i) (.int j) G = if j ≠ 0 ∧ smallN j = true then some (.int (i.fdiv j), G) else none := nr rfl
@[simp] theorem bPow_ii (i j : Int) : bPow (.int i) (.int j) G = if smallN i = true ∧ 0 ≤ j ∧ j ≤ 1000 then some (.int (i ^ j.toNat), G) else none := nr rfl
@[simp] theorem cLt_ii (i j : Int) : cLt (.int i) (.int j) G = some (.bl (decide (i < j)), G) := nr rfl
@[simp] theorem cLe_ii (i j : Int) : cLe (.int i) (.int j) G = some (.bl (decide (i ≤ j)), G) := nr rfl
@[simp] theorem cGt_ii (i j : Int) : cGt (.int i) (.int j) G = some (.bl (decide (j < i)), G) := nr rfl
@[simp] theorem cGe_ii (i j : Int) : cGe (.int i) (.int j) G = some (.bl (decide (j ≤ i)), G) := nr rfl
@[simp] theorem uAdd_ii (i j : Int) : uAdd (.int i) (.int j) G = some (.int (i + j), G) := nr rfl
@[simp] theorem uSub_ii (i j : Int) : uSub (.int i) (.int j) G = some (.int (i - j), G) := nr rfl
@[simp] theorem fNeg_i (i : Int) : fNeg (.int i) G = some (.int (-i), G) := nr rfl
@[simp] theorem cIsN_ev (v : V) : cIsN v G = some (.bl (decide (v = .non)), G) := nr rfl
@[simp] theorem cNotN_ev (v : V) : cNotN v G = some (.bl (!decide (v = .non)), G) := nr rfl
@[simp] theorem fAbs_i (i : Int) : fAbs [.int i] G = some (.int (if i < 0 then -i else i), G) := nr rfl
@[simp] theorem fInt_i (i : Int) : fInt [.int i] G = some (.int i, G) := nr rfl
@[simp] theorem fInt_b (k : Bool) : fInt [.bl k] G = some (.int (if k then 1 else 0), G) := nr rfl
@[simp] theorem alloc_ev (x : O) : alloc x G = some (.ref G.length, G ++ [x]) := nr rfl
def lstO : Option O → Option (List V)
  | some (.lst xs) => some xs
  | _ => none
@[simp] theorem lstO_lst (xs : List V) : lstO (some (.lst xs)) = some xs := nr rfl
def seqO : Option O → Option (List V)
  | some (.lst xs) => some xs
  | some (.fz xs) => some xs
  | some (.tup xs) => some xs
  | _ => none
@[simp] theorem seqO_lst (xs : List V) : seqO (some (.lst xs)) = some xs := nr rfl
@[simp] theorem seqO_fz (xs : List V) : seqO (some (.fz xs)) = some xs := nr rfl
@[simp] theorem seqO_tup (xs : List V) : seqO (some (.tup xs)) = some xs := nr rfl
def lenO : Option O → Option Nat
  | some (.lst xs) => some xs.length
  | some (.fz xs) => some xs.length
  | some (.tup xs) => some xs.length
  | some (.dK xs) => some xs.length
  | _ => none
@[simp] theorem lenO_lst (xs : List V) : lenO (some (.lst xs)) = some xs.length := nr rfl
@[simp] theorem lenO_fz (xs : List V) : lenO (some (.fz xs)) = some xs.length := nr rfl
@[simp] theorem lenO_tup (xs : List V) : lenO (some (.tup xs)) = some xs.length := nr rfl
@[simp] theorem lenO_dK (xs : List (Key × V)) : lenO (some (.dK xs)) = some xs.length := nr rfl
def cpyO : Option O → Option (List V)
  | some (.lst xs) => some xs
  | some (.tup xs) => some xs
  | _ => none
@[simp] theorem cpyO_lst (xs : List V) : cpyO (some (.lst xs)) = some xs := nr rfl
@[simp] theorem cpyO_tup (xs : List V) : cpyO (some (.tup xs)) = some xs := nr rfl
theorem lstO_inv {o : Option O} {xs : List V} (h : lstO o = some xs) : o = some (.lst xs) := by
  unfold lstO at h
  split at h <;> simp_all [-Option.bind_some]
def ixB (H : Hz) : V → Option (V × Hz) := fun v => some (v, H)
@[simp] theorem ixB_ev (H : Hz) (v : V) : ixB H v = some (v, H) := nr rfl
def ixA (i : Int) (H : Hz) : List V → Option (V × Hz) := fun xs => (atI xs i).bind (ixB H)
@[simp] theorem ixA_ev (i : Int) (H : Hz) (xs : List V) : ixA i H xs = (atI xs i).bind (ixB H) := nr rfl
@[simp] theorem xIx_ri (a : Nat) (i : Int) : xIx (.ref a) (.int i) G = (seqO G[a]?).bind (ixA i G) := by
  show (match G[a]? with | some (.lst xs) => (atI xs i).bind fun v => some (v, G) | some (.fz xs) => (atI xs i).bind fun v => some (v, G) | some (.tup xs) => (atI xs i).bind fun v => some (v, G) | _ => none) = _
  cases G[a]? with
  | none => rfl
  | some o => cases o <;> rfl
def xcA (lo hi : Option Int) (H : Hz) : List V → Option (V × Hz) := fun xs => some (.ref H.length, H ++ [.lst (cutV xs lo hi)])
@[simp] theorem xcA_ev (lo hi : Option Int) (H : Hz) (xs : List V) : xcA lo hi H xs = some (.ref H.length, H ++ [.lst (cutV xs lo hi)]) := nr rfl
@[simp] theorem xCut_r (a : Nat) (lo hi : Option Int) : xCut (.ref a) lo hi G = (lstO G[a]?).bind (xcA lo hi G) := by
  show (match G[a]? with | some (.lst xs) => alloc (.lst (cutV xs lo hi)) G | _ => none) = _
  cases G[a]? with
  | none => rfl
  | some o => cases o <;> rfl
def plB (a : Nat) (xs : List V) (v : V) (H : Hz) : Nat → Option (Hz) := fun j => some (H.set a (.lst (xs.set j v)))
@[simp] theorem plB_ev (a : Nat) (xs : List V) (v : V) (H : Hz) (j : Nat) : plB a xs v H j = some (H.set a (.lst (xs.set j v))) := nr rfl
def plA (a : Nat) (k : Int) (v : V) (H : Hz) : List V → Option (Hz) := fun xs => (ixN xs.length k).bind (plB a xs v H)
@[simp] theorem plA_ev (a : Nat) (k : Int) (v : V) (H : Hz) (xs : List V) : plA a k v H xs = (ixN xs.length k).bind (plB a xs v H) := nr rfl
@[simp] theorem pLst_ri (a : Nat) (k : Int) (v : V) : pLst (.ref a) (.int k) v G = (lstO G[a]?).bind (plA a k v G) := by
  show (match G[a]? with | some (.lst xs) => (ixN xs.length k).bind fun j => some (G.set a (.lst (xs.set j v))) | _ => none) = _
  cases G[a]? with
  | none => rfl
  | some o => cases o <;> rfl
def lenA (H : Hz) : Nat → Option (V × Hz) := fun n => some (.int n, H)
@[simp] theorem lenA_ev (H : Hz) (n : Nat) : lenA H n = some (.int n, H) := nr rfl
@[simp] theorem fLen_r (a : Nat) : fLen [.ref a] G = (lenO G[a]?).bind (lenA G) := by
  show (match G[a]? with | some (.lst xs) => some (V.int xs.length, G) | some (.fz xs) => some (V.int xs.length, G) | some (.tup xs) => some (V.int xs.length, G) | some (.dK xs) => some (V.int xs.length, G) | _ => none) = _
  cases G[a]? with
  | none => rfl
  | some o => cases o <;> rfl
def allB (H : Hz) : List Bool → Option (V × Hz) := fun bs => some (.bl (bs.all id), H)
@[simp] theorem allB_ev (H : Hz) (bs : List Bool) : allB H bs = some (.bl (bs.all id), H) := nr rfl
def allA (H : Hz) : List V → Option (V × Hz) := fun xs => (bls? xs).bind (allB H)
@[simp] theorem allA_ev (H : Hz) (xs : List V) : allA H xs = (bls? xs).bind (allB H) := nr rfl
@[simp] theorem fAll_r (a : Nat) : fAll [.ref a] G = (lstO G[a]?).bind (allA G) := by
  show (match G[a]? with | some (.lst xs) => (bls? xs).bind fun bs => some (V.bl (bs.all id), G) | _ => none) = _
  cases G[a]? with
  | none => rfl
  | some o => cases o <;> rfl
def anyB (H : Hz) : List Bool → Option (V × Hz) := fun bs => some (.bl (bs.any id), H)
@[simp] theorem anyB_ev (H : Hz) (bs : List Bool) : anyB H bs = some (.bl (bs.any id), H) := nr rfl
def anyA (H : Hz) : List V → Option (V × Hz) := fun xs => (bls? xs).bind (anyB H)
@[simp] theorem anyA_ev (H : Hz) (xs : List V) : anyA H xs = (bls? xs).bind (anyB H) := nr rfl
@[simp] theorem fAny_r (a : Nat) : fAny [.ref a] G = (lstO G[a]?).bind (anyA G) := by
  show (match G[a]? with | some (.lst xs) => (bls? xs).bind fun bs => some (V.bl (bs.any id), G) | _ => none) = _
  cases G[a]? with
  | none => rfl
  | some o => cases o <;> rfl
def sumB (H : Hz) : List Int → Option (V × Hz) := fun ns => some (.int ns.sum, H)
@[simp] theorem sumB_ev (H : Hz) (ns : List Int) : sumB H ns = some (.int ns.sum, H) := nr rfl
def sumA (H : Hz) : List V → Option (V × Hz) := fun xs => (ints? xs).bind (sumB H)
@[simp] theorem sumA_ev (H : Hz) (xs : List V) : sumA H xs = (ints? xs).bind (sumB H) := nr rfl
@[simp] theorem fSum_r (a : Nat) : fSum [.ref a] G = (lstO G[a]?).bind (sumA G) := by
  show (match G[a]? with | some (.lst xs) => (ints? xs).bind fun ns => some (V.int ns.sum, G) | _ => none) = _
  cases G[a]? with
  | none => rfl
  | some o => cases o <;> rfl
def srtB (H : Hz) : List Int → Option (V × Hz) := fun ns => some (.ref H.length, H ++ [.lst ((isort ns).map V.int)])
@[simp] theorem srtB_ev (H : Hz) (ns : List Int) : srtB H ns = some (.ref H.length, H ++ [.lst ((isort ns).map V.int)]) := nr rfl
def srtA (H : Hz) : List V → Option (V × Hz) := fun xs => (ints? xs).bind (srtB H)
@[simp] theorem srtA_ev (H : Hz) (xs : List V) : srtA H xs = (ints? xs).bind (srtB H) := nr rfl
@[simp] theorem fSorted_r (a : Nat) : fSorted [.ref a] G = (lstO G[a]?).bind (srtA G) := by
  show (match G[a]? with | some (.lst xs) => (ints? xs).bind fun ns => alloc (.lst ((isort ns).map V.int)) G | _ => none) = _
  cases G[a]? with
  | none => rfl
  | some o => cases o <;> rfl
def cpyA (H : Hz) : List V → Option (V × Hz) := fun xs => some (.ref H.length, H ++ [.lst xs])
@[simp] theorem cpyA_ev (H : Hz) (xs : List V) : cpyA H xs = some (.ref H.length, H ++ [.lst xs]) := nr rfl
@[simp] theorem fList_r (a : Nat) : fList [.ref a] G = (cpyO G[a]?).bind (cpyA G) := by
  show (match G[a]? with | some (.lst xs) => alloc (.lst xs) G | some (.tup xs) => alloc (.lst xs) G | _ => none) = _
  cases G[a]? with
  | none => rfl
  | some o => cases o <;> rfl
def maxL : List Int → Option Int
  | [] => none
  | m :: ns => some (maxI m ns)
def minL : List Int → Option Int
  | [] => none
  | m :: ns => some (minI m ns)
def intB (H : Hz) : Int → Option (V × Hz) := fun m => some (.int m, H)
@[simp] theorem intB_ev (H : Hz) (m : Int) : intB H m = some (.int m, H) := nr rfl
def maxB (H : Hz) : List Int → Option (V × Hz) := fun ns => (maxL ns).bind (intB H)
@[simp] theorem maxB_ev (H : Hz) (ns : List Int) : maxB H ns = (maxL ns).bind (intB H) := nr rfl
def maxA (H : Hz) : List V → Option (V × Hz) := fun xs => (ints? xs).bind (maxB H)
@[simp] theorem maxA_ev (H : Hz) (xs : List V) : maxA H xs = (ints? xs).bind (maxB H) := nr rfl
@[simp] theorem fMax_r (a : Nat) : fMax [.ref a] G = (lstO G[a]?).bind (maxA G) := by
  show (match G[a]? with | some (.lst xs) => (match ints? xs with | some (m :: ns) => some (V.int (maxI m ns), G) | _ => none) | _ => none) = _
  cases G[a]? with
  | none => rfl
  | some o =>
    cases o <;> try rfl
    rename_i xs
    show (match ints? xs with | some (m :: ns) => some (V.int (maxI m ns), G) | _ => none) = (ints? xs).bind (maxB G)
    cases ints? xs with
    | none => rfl
    | some ns => cases ns <;> rfl
def minB (H : Hz) : List Int → Option (V × Hz) := fun ns => (minL ns).bind (intB H)
@[simp] theorem minB_ev (H : Hz) (ns : List Int) : minB H ns = (minL ns).bind (intB H) := nr rfl
def minA (H : Hz) : List V → Option (V × Hz) := fun xs => (ints? xs).bind (minB H)
@[simp] theorem minA_ev (H : Hz) (xs : List V) : minA H xs = (ints? xs).bind (minB H) := nr rfl
@[simp] theorem fMin_r (a : Nat) : fMin [.ref a] G = (lstO G[a]?).bind (minA G) := by
  show (match G[a]? with | some (.lst xs) => (match ints? xs with | some (m :: ns) => some (V.int (minI m ns), G) | _ => none) | _ => none) = _
  cases G[a]? with
  | none => rfl
  | some o =>
    cases o <;> try rfl
    rename_i xs
    show (match ints? xs with | some (m :: ns) => some (V.int (minI m ns), G) | _ => none) = (ints? xs).bind (minB G)
    cases ints? xs with
    | none => rfl
    | some ns => cases ns <;> rfl
def lsB (H : Hz) : List Int → Option (V × Hz) := fun ns => if ns.length ≤ 4000 then some (.int (nDist ns), H) else none
@[simp] theorem lsB_ev (H : Hz) (ns : List Int) : lsB H ns = if ns.length ≤ 4000 then some (.int (nDist ns), H) else none := nr rfl
def lsA (H : Hz) : List V → Option (V × Hz) := fun xs => (ints? xs).bind (lsB H)
@[simp] theorem lsA_ev (H : Hz) (xs : List V) : lsA H xs = (ints? xs).bind (lsB H) := nr rfl
@[simp] theorem fLenSet_r (a : Nat) : fLenSet (.ref a) G = (lstO G[a]?).bind (lsA G) := by
  show (match G[a]? with | some (.lst xs) => (match ints? xs with | some ns => if ns.length ≤ 4000 then some (V.int (nDist ns), G) else none | none => none) | _ => none) = _
  cases G[a]? with
  | none => rfl
  | some o =>
    cases o <;> try rfl
    rename_i xs
    show (match ints? xs with | some ns => if ns.length ≤ 4000 then some (V.int (nDist ns), G) else none | none => none) = (ints? xs).bind (lsB G)
    cases ints? xs <;> rfl
@[simp] theorem isLst_r (a : Nat) : isLst (.ref a) G = (lstO G[a]?).isSome := by
  show (match G[a]? with | some (.lst _) => true | _ => false) = _
  cases G[a]? with
  | none => rfl
  | some o => cases o <;> rfl
def appA (a : Nat) (y : V) (H : Hz) : List V → Option (V × Hz) := fun xs => if xs.length < sizeLine then some (.non, H.set a (.lst (xs ++ [y]))) else none
@[simp] theorem appA_ev (a : Nat) (y : V) (H : Hz) (xs : List V) : appA a y H xs = if xs.length < sizeLine then some (.non, H.set a (.lst (xs ++ [y]))) else none := nr rfl
@[simp] theorem mAppend_ev (a : Nat) (y : V) : mAppend (.ref a) [y] G = (lstO G[a]?).bind (appA a y G) := by
  show (match G[a]? with | some (.lst xs) => if xs.length < sizeLine then some (V.non, G.set a (.lst (xs ++ [y]))) else none | _ => none) = _
  cases G[a]? with
  | none => rfl
  | some o => cases o <;> rfl
def popB (a : Nat) (xs : List V) (H : Hz) : V → Option (V × Hz) := fun y => some (y, H.set a (.lst xs.dropLast))
@[simp] theorem popB_ev (a : Nat) (xs : List V) (H : Hz) (y : V) : popB a xs H y = some (y, H.set a (.lst xs.dropLast)) := nr rfl
def popA (a : Nat) (H : Hz) : List V → Option (V × Hz) := fun xs => xs.getLast?.bind (popB a xs H)
@[simp] theorem popA_ev (a : Nat) (H : Hz) (xs : List V) : popA a H xs = xs.getLast?.bind (popB a xs H) := nr rfl
@[simp] theorem mPop_ev (a : Nat) : mPop (.ref a) [] G = (lstO G[a]?).bind (popA a G) := by
  show (match G[a]? with | some (.lst xs) => (match xs[xs.length - 1]? with | some y => some (y, G.set a (.lst xs.dropLast)) | none => none) | _ => none) = _
  cases G[a]? with
  | none => rfl
  | some o =>
    cases o <;> try rfl
    rename_i xs
    show (match xs[xs.length - 1]? with | some y => some (y, G.set a (.lst xs.dropLast)) | none => none) = xs.getLast?.bind (popB a xs G)
    rw [List.getLast?_eq_getElem?]
    cases xs[xs.length - 1]? <;> rfl
/-- the place that an index means -/
def popI (xs : List V) (i : Int) : Option Nat := if -(2 ^ 63) ≤ i ∧ i < 2 ^ 63 then seqIndex? i xs.length else none
def pop1C (a : Nat) (xs : List V) (k : Nat) (H : Hz) : V → Option (V × Hz) := fun y => some (y, H.set a (.lst (xs.eraseIdx k)))
@[simp] theorem pop1C_ev (a : Nat) (xs : List V) (k : Nat) (H : Hz) (y : V) : pop1C a xs k H y = some (y, H.set a (.lst (xs.eraseIdx k))) := nr rfl
def pop1B (a : Nat) (xs : List V) (H : Hz) : Nat → Option (V × Hz) := fun k => (xs[k]?).bind (pop1C a xs k H)
@[simp] theorem pop1B_ev (a : Nat) (xs : List V) (H : Hz) (k : Nat) : pop1B a xs H k = (xs[k]?).bind (pop1C a xs k H) := nr rfl
def pop1A (a : Nat) (i : Int) (H : Hz) : List V → Option (V × Hz) := fun xs => (popI xs i).bind (pop1B a xs H)
@[simp] theorem pop1A_ev (a : Nat) (i : Int) (H : Hz) (xs : List V) : pop1A a i H xs = (popI xs i).bind (pop1B a xs H) := nr rfl
@[simp] theorem mPop_ev1 (a : Nat) (i : Int) : mPop (.ref a) [.int i] G = (lstO G[a]?).bind (pop1A a i G) := by
  show (match G[a]? with | some (.lst xs) => (if -(2 ^ 63) ≤ i ∧ i < 2 ^ 63 then (match seqIndex? i xs.length with | some k => (match xs[k]? with | some y => some (y, G.set a (.lst (xs.eraseIdx k))) | none => none) | none => none) else none) | _ => none) = _
  cases G[a]? with
  | none => rfl
  | some o =>
    cases o <;> try rfl
    rename_i xs
    show (if -(2 ^ 63) ≤ i ∧ i < 2 ^ 63 then (match seqIndex? i xs.length with | some k => (match xs[k]? with | some y => some (y, G.set a (.lst (xs.eraseIdx k))) | none => none) | none => none) else none) = (popI xs i).bind (pop1B a xs G)
    unfold popI
    split
    · cases seqIndex? i xs.length with
      | none => rfl
      | some k =>
        show (match xs[k]? with | some y => some (y, G.set a (.lst (xs.eraseIdx k))) | none => none) = (xs[k]?).bind (pop1C a xs k G)
        cases xs[k]? <;> rfl
    · rfl
def clrA (a : Nat) (H : Hz) : List V → Option (V × Hz) := fun xs => some (.non, H.set a (.lst []))
@[simp] theorem clrA_ev (a : Nat) (H : Hz) (xs : List V) : clrA a H xs = some (.non, H.set a (.lst [])) := nr rfl
@[simp] theorem mClear_ev (a : Nat) : mClear (.ref a) [] G = (lstO G[a]?).bind (clrA a G) := by
  show (match G[a]? with | some (.lst _) => some (V.non, G.set a (.lst [])) | _ => none) = _
  cases G[a]? with
  | none => rfl
  | some o => cases o <;> rfl
def revA (a : Nat) (H : Hz) : List V → Option (V × Hz) := fun xs => some (.non, H.set a (.lst xs.reverse))
@[simp] theorem revA_ev (a : Nat) (H : Hz) (xs : List V) : revA a H xs = some (.non, H.set a (.lst xs.reverse)) := nr rfl
@[simp] theorem mReverse_ev (a : Nat) : mReverse (.ref a) [] G = (lstO G[a]?).bind (revA a G) := by
  show (match G[a]? with | some (.lst xs) => some (V.non, G.set a (.lst xs.reverse)) | _ => none) = _
  cases G[a]? with
  | none => rfl
  | some o => cases o <;> rfl
def insA (a : Nat) (i : Int) (y : V) (H : Hz) : List V → Option (V × Hz) := fun xs => if xs.length < sizeLine ∧ 0 ≤ i ∧ i < 2 ^ 63 then some (.non, H.set a (.lst (xs.take i.toNat ++ [y] ++ xs.drop i.toNat))) else none
@[simp] theorem insA_ev (a : Nat) (i : Int) (y : V) (H : Hz) (xs : List V) : insA a i y H xs = if xs.length < sizeLine ∧ 0 ≤ i ∧ i < 2 ^ 63 then some (.non, H.set a (.lst (xs.take i.toNat ++ [y] ++ xs.drop i.toNat))) else none := nr rfl
@[simp] theorem mInsert_ev (a : Nat) (i : Int) (y : V) : mInsert (.ref a) [.int i, y] G = (lstO G[a]?).bind (insA a i y G) := by
  show (match G[a]? with | some (.lst xs) => if xs.length < sizeLine ∧ 0 ≤ i ∧ i < 2 ^ 63 then some (V.non, G.set a (.lst (xs.take i.toNat ++ [y] ++ xs.drop i.toNat))) else none | _ => none) = _
  cases G[a]? with
  | none => rfl
  | some o => cases o <;> rfl
def extB (a : Nat) (xs : List V) (H : Hz) : List V → Option (V × Hz) := fun ys => if xs.length + ys.length ≤ sizeLine then some (.non, H.set a (.lst (xs ++ ys))) else none
@[simp] theorem extB_ev (a : Nat) (xs : List V) (H : Hz) (ys : List V) : extB a xs H ys = if xs.length + ys.length ≤ sizeLine then some (.non, H.set a (.lst (xs ++ ys))) else none := nr rfl
def extA (a b : Nat) (H : Hz) : List V → Option (V × Hz) := fun xs => (lstO H[b]?).bind (extB a xs H)
@[simp] theorem extA_ev (a b : Nat) (H : Hz) (xs : List V) : extA a b H xs = (lstO H[b]?).bind (extB a xs H) := nr rfl
@[simp] theorem mExtend_ev (a b : Nat) : mExtend (.ref a) [.ref b] G = (lstO G[a]?).bind (extA a b G) := by
  show (match G[a]?, G[b]? with | some (.lst xs), some (.lst ys) => if xs.length + ys.length ≤ sizeLine then some (V.non, G.set a (.lst (xs ++ ys))) else none | _, _ => none) = _
  cases G[a]? with
  | none => rfl
  | some o =>
    cases o <;> try rfl
    rename_i xs
    show _ = (lstO G[b]?).bind (extB a xs G)
    cases G[b]? with
    | none => rfl
    | some u => cases u <;> rfl
def idxB (k : Int) (H : Hz) : List Int → Option (V × Hz) := fun ns => if k ∈ ns then some (.int ((ns.idxOf k : Nat) : Int), H) else none
@[simp] theorem idxB_ev (k : Int) (H : Hz) (ns : List Int) : idxB k H ns = if k ∈ ns then some (.int ((ns.idxOf k : Nat) : Int), H) else none := nr rfl
def idxA (k : Int) (H : Hz) : List V → Option (V × Hz) := fun xs => (ints? xs).bind (idxB k H)
@[simp] theorem idxA_ev (k : Int) (H : Hz) (xs : List V) : idxA k H xs = (ints? xs).bind (idxB k H) := nr rfl
@[simp] theorem mIndex_ev (a : Nat) (k : Int) : mIndex (.ref a) [.int k] G = (lstO G[a]?).bind (idxA k G) := by
  show (match G[a]? with | some (.lst xs) => (match ints? xs with | some ns => if k ∈ ns then some (V.int ((ns.idxOf k : Nat) : Int), G) else none | none => none) | _ => none) = _
  cases G[a]? with
  | none => rfl
  | some o =>
    cases o <;> try rfl
    rename_i xs
    show (match ints? xs with | some ns => if k ∈ ns then some (V.int ((ns.idxOf k : Nat) : Int), G) else none | none => none) = (ints? xs).bind (idxB k G)
    cases ints? xs <;> rfl
/-! iterators -/
def itrO (a : Nat) : Option O → Option MIt
  | some (.lst _) => some (itL a)
  | some (.fz _) => some (itL a)
  | _ => none
@[simp] theorem itrO_lst (a : Nat) (xs : List V) : itrO a (some (.lst xs)) = some (itL a) := nr rfl
@[simp] theorem itrO_fz (a : Nat) (xs : List V) : itrO a (some (.fz xs)) = some (itL a) := nr rfl
def itK (H : Hz) : MIt → Option (MIt × Hz) := fun it => some (it, H)
@[simp] theorem itK_ev (H : Hz) (it : MIt) : itK H it = some (it, H) := nr rfl
def itrV : V → Hz → Option (MIt × Hz)
  | .ref a, G => (itrO a G[a]?).bind (itK G)
  | _, _ => none
@[simp] theorem itrV_r (a : Nat) : itrV (.ref a) G = (itrO a G[a]?).bind (itK G) := nr rfl
def itrA  : V × Hz → Option (MIt × Hz) := fun p => itrV p.1 p.2
@[simp] theorem itrA_ev  (x : V) (H : Hz) : itrA  (x, H) = itrV x H := nr rfl
@[simp] theorem iListZ_ev (m : ME) : iListZ m σ G = (m σ G).bind itrA := by
  unfold iListZ
  congr 1
  funext p
  rcases p with ⟨v, H⟩
  cases v <;> try rfl
  rename_i a
  show (match H[a]? with | some (.lst _) => some (itL a, H) | some (.fz _) => some (itL a, H) | _ => none) = (itrO a H[a]?).bind (itK H)
  cases H[a]? with
  | none => rfl
  | some o => cases o <;> rfl
def rng1 : List V → Hz → Option (MIt × Hz)
  | [.int j], G => if small62 j = true then some (itR 0 j.toNat, G) else none
  | _, _ => none
def rng2 : List V → Hz → Option (MIt × Hz)
  | [.int i, .int j], G => if small62 i = true ∧ small62 j = true then some (itR i (j - i).toNat, G) else none
  | _, _ => none
def rng1A  : List V × Hz → Option (MIt × Hz) := fun p => rng1 p.1 p.2
@[simp] theorem rng1A_ev  (xs : List V) (H : Hz) : rng1A  (xs, H) = rng1 xs H := nr rfl
def rng2A  : List V × Hz → Option (MIt × Hz) := fun p => rng2 p.1 p.2
@[simp] theorem rng2A_ev  (xs : List V) (H : Hz) : rng2A  (xs, H) = rng2 xs H := nr rfl
@[simp] theorem iRange1_ev (m : MA) : iRange1 m σ G = (m σ G).bind rng1A := by
  unfold iRange1 rng1A rng1
  congr 1
  funext p
  rcases p with ⟨vs, H⟩
  dsimp only
  split <;> split <;> simp_all [-Option.bind_some]
@[simp] theorem iRange2_ev (m : MA) : iRange2 m σ G = (m σ G).bind rng2A := by
  unfold iRange2 rng2A rng2
  congr 1
  funext p
  rcases p with ⟨vs, H⟩
  dsimp only
  split <;> split <;> simp_all [-Option.bind_some]
def enmB (a : Nat) (H : Hz) : List V → Option (MIt × Hz) := fun xs => some (itE a, H)
@[simp] theorem enmB_ev (a : Nat) (H : Hz) (xs : List V) : enmB a H xs = some (itE a, H) := nr rfl
def enmV : List V → Hz → Option (MIt × Hz)
  | [.ref a], G => (lstO G[a]?).bind (enmB a G)
  | _, _ => none
@[simp] theorem enmV_r (a : Nat) : enmV [.ref a] G = (lstO G[a]?).bind (enmB a G) := nr rfl
def enmA  : List V × Hz → Option (MIt × Hz) := fun p => enmV p.1 p.2
@[simp] theorem enmA_ev  (xs : List V) (H : Hz) : enmA  (xs, H) = enmV xs H := nr rfl
@[simp] theorem iEnumZ_ev (m : MA) : iEnumZ m σ G = (m σ G).bind enmA := by
  unfold iEnumZ
  congr 1
  funext p
  rcases p with ⟨vs, H⟩
  match vs with
  | [] => rfl
  | [.ref a] =>
    show (match H[a]? with | some (.lst _) => some (itE a, H) | _ => none) = (lstO H[a]?).bind (enmB a H)
    cases H[a]? with
    | none => rfl
    | some o => cases o <;> rfl
  | .ref _ :: _ :: _ => rfl
  | .non :: _ => rfl
  | .bl _ :: _ => rfl
  | .int _ :: _ => rfl
  | .str _ :: _ => rfl
  | .byt _ :: _ => rfl
  | .flt _ :: _ => rfl
  | .ty _ :: _ => rfl
def zipC (a b : Nat) (H : Hz) : List V → Option (MIt × Hz) := fun ys => some (itZ a b, H)
@[simp] theorem zipC_ev (a b : Nat) (H : Hz) (ys : List V) : zipC a b H ys = some (itZ a b, H) := nr rfl
def zipB (a b : Nat) (H : Hz) : List V → Option (MIt × Hz) := fun xs => (lstO H[b]?).bind (zipC a b H)
@[simp] theorem zipB_ev (a b : Nat) (H : Hz) (xs : List V) : zipB a b H xs = (lstO H[b]?).bind (zipC a b H) := nr rfl
def zipV : List V → Hz → Option (MIt × Hz)
  | [.ref a, .ref b], G => (lstO G[a]?).bind (zipB a b G)
  | _, _ => none
@[simp] theorem zipV_r (a b : Nat) : zipV [.ref a, .ref b] G = (lstO G[a]?).bind (zipB a b G) := nr rfl
def zipA  : List V × Hz → Option (MIt × Hz) := fun p => zipV p.1 p.2
@[simp] theorem zipA_ev  (xs : List V) (H : Hz) : zipA  (xs, H) = zipV xs H := nr rfl
@[simp] theorem iZipZ_ev (m : MA) : iZipZ m σ G = (m σ G).bind zipA := by
  unfold iZipZ zipA zipV
  congr 1
  funext p
  rcases p with ⟨vs, H⟩
  dsimp only
  split
  · rename_i a b
    show (match H[a]?, H[b]? with | some (.lst _), some (.lst _) => some (itZ a b, H) | _, _ => none) = (lstO H[a]?).bind (zipB a b H)
    cases H[a]? with
    | none => rfl
    | some o =>
      cases o with
      | lst xs =>
        show (match some (O.lst xs), H[b]? with | some (.lst _), some (.lst _) => some (itZ a b, H) | _, _ => none) = (lstO H[b]?).bind (zipC a b H)
        cases H[b]? with
        | none => rfl
        | some u => cases u <;> rfl
      | _ => rfl
  · split <;> simp_all [-Option.bind_some]
end
section
variable {n : Nat}
@[simp] theorem okV_ref (a : Nat) : okV n (.ref a) = decide (a < n) := nr rfl
@[simp] theorem okV_int (i : Int) : okV n (.int i) = true := nr rfl
@[simp] theorem okV_bl (i : Bool) : okV n (.bl i) = true := nr rfl
@[simp] theorem okV_str (i : Str) : okV n (.str i) = true := nr rfl
@[simp] theorem okV_non : okV n .non = true := nr rfl
@[simp] theorem okO_lst (xs : List V) : okO n (.lst xs) = xs.all (okV n) := nr rfl
@[simp] theorem okO_tup (xs : List V) : okO n (.tup xs) = xs.all (okV n) := nr rfl
@[simp] theorem okO_fz (xs : List V) : okO n (.fz xs) = xs.all (okV n) := nr rfl
@[simp] theorem okO_dK (kvs : List (Key × V)) : okO n (.dK kvs) = kvs.all (fun p => okV n p.2) := nr rfl
@[simp] theorem isFz_lst (xs : List V) : isFz (.lst xs) = false := nr rfl
@[simp] theorem isFz_tup (xs : List V) : isFz (.tup xs) = false := nr rfl
@[simp] theorem isFz_dK (xs : List (Key × V)) : isFz (.dK xs) = false := nr rfl
@[simp] theorem isFz_fz (xs : List V) : isFz (.fz xs) = true := nr rfl
@[simp] theorem okS_nil : okS n [] = true := nr rfl
@[simp] theorem okS_none' (σ : St) : okS n (none :: σ) = okS n σ := nr rfl
@[simp] theorem okS_some (v : V) (σ : St) : okS n (some v :: σ) = (okV n v && okS n σ) := nr rfl
@[simp] theorem kept_nil (H : Hz) : keptB n [] H = true := by cases H <;> rfl
@[simp] theorem kept_cons (o u : O) (G H : Hz) : keptB n (o :: G) (u :: H) = ((decide (o = u) || okO n u) && keptB n G H) := nr rfl
end
@[simp] theorem tyZ_non (G : Hz) : tyZ .non G = some "NoneType" := nr rfl
@[simp] theorem tyZ_bl (k : Bool) (G : Hz) : tyZ (.bl k) G = some "bool" := nr rfl
@[simp] theorem tyZ_int (k : Int) (G : Hz) : tyZ (.int k) G = some "int" := nr rfl
@[simp] theorem tyZ_str (k : Str) (G : Hz) : tyZ (.str k) G = some "str" := nr rfl
def tyO : Option O → Option String
  | some (.lst _) => some "list"
  | some (.fz _) => some "list"
  | some (.tup _) => some "tuple"
  | some (.dK _) => some "dict"
  | none => none
@[simp] theorem tyO_lst (xs : List V) : tyO (some (.lst xs)) = some "list" := nr rfl
@[simp] theorem tyO_fz (xs : List V) : tyO (some (.fz xs)) = some "list" := nr rfl
@[simp] theorem tyO_tup (xs : List V) : tyO (some (.tup xs)) = some "tuple" := nr rfl
@[simp] theorem tyO_dK (xs : List (Key × V)) : tyO (some (.dK xs)) = some "dict" := nr rfl
@[simp] theorem tyZ_ref (a : Nat) (G : Hz) : tyZ (.ref a) G = tyO G[a]? := by
  show (match G[a]? with | some (.lst _) => some "list" | some (.fz _) => some "list" | some (.tup _) => some "tuple" | some (.dK _) => some "dict" | none => none) = tyO G[a]?
  cases G[a]? with
  | none => rfl
  | some o => cases o <;> rfl
def isiB (H : Hz) : Bool → Option (V × Hz) := fun b => some (.bl b, H)
@[simp] theorem isiB_ev (H : Hz) (b : Bool) : isiB H b = some (.bl b, H) := nr rfl
def isiA (T : String) (H : Hz) : String → Option (V × Hz) := fun t => (isiT t T).bind (isiB H)
@[simp] theorem isiA_ev (T : String) (H : Hz) (t : String) : isiA T H t = (isiT t T).bind (isiB H) := nr rfl
@[simp] theorem fIsi_ev (x : V) (T : String) (G : Hz) : fIsi [x, .ty T] G = (tyZ x G).bind (isiA T G) := nr rfl

/-! ### what is thrown away -/
@[simp] theorem kept_refl (n : Nat) (G : Hz) : keptB n G G = true := by
  induction G with
  | nil => rfl
  | cons o G ih => simp [-Option.bind_some, keptB, ih]
@[simp] theorem kept_app (n : Nat) : ∀ (G H S : Hz), keptB n G H = true → keptB n G (H ++ S) = true
  | [], _, _, _ => rfl
  | _ :: _, [], _, h => by cases h
  | o :: G, o' :: H, S, h => by
    obtain ⟨h1, h2⟩ := Bool.and_eq_true_iff.mp h
    exact Bool.and_eq_true_iff.mpr ⟨h1, kept_app n G H S h2⟩
@[simp] theorem kept_set (n : Nat) : ∀ (G H : Hz) (a : Nat) (o : O), okO n o = true → keptB n G H = true → keptB n G (H.set a o) = true
  | [], _, _, _, _, _ => rfl
  | _ :: _, [], _, _, _, h => by cases h
  | u :: G, u' :: H, 0, o, k, h => by
    obtain ⟨h1, h2⟩ := Bool.and_eq_true_iff.mp h
    exact Bool.and_eq_true_iff.mpr ⟨by rw [k, Bool.or_true], h2⟩
  | u :: G, u' :: H, a + 1, o, k, h => by
    obtain ⟨h1, h2⟩ := Bool.and_eq_true_iff.mp h
    exact Bool.and_eq_true_iff.mpr ⟨h1, kept_set n G H a o k h2⟩
@[simp] theorem take_len (H S : Hz) (n : Nat) (h : H.length = n) : (H ++ S).take n = H := by
  subst h
  simp [-Option.bind_some]
@[simp] theorem take_len0 (H : Hz) (n : Nat) (h : H.length = n) : H.take n = H := by
  subst h
  simp [-Option.bind_some]
theorem lt_get {G : Hz} {a : Nat} {o : O} (h : G[a]? = some o) : a < G.length := lt_of_get h

/-! ### lists of atoms -/
@[simp] theorem okL_int (n : Nat) (ns : List Int) : (ns.map V.int).all (okV n) = true := ints_ok ns
@[simp] theorem okL_f {α : Type} (n : Nat) (xs : List α) (f : α → Int) : (xs.map fun x => V.int (f x)).all (okV n) = true := by simp [-Option.bind_some]
@[simp] theorem okL_b {α : Type} (n : Nat) (xs : List α) (f : α → Bool) : (xs.map fun x => V.bl (f x)).all (okV n) = true := by simp [-Option.bind_some]
@[simp] theorem ints_map (ns : List Int) : ints? (ns.map V.int) = some ns := by
  unfold ints?
  induction ns with
  | nil => rfl
  | cons n ns ih => simp [-Option.bind_some, mapO, ih]
@[simp] theorem ints_mapf {α : Type} (f : α → Int) (xs : List α) : ints? (xs.map fun x => V.int (f x)) = some (xs.map f) := by
  unfold ints?
  induction xs with
  | nil => rfl
  | cons n ns ih => simp [-Option.bind_some, mapO, ih]
@[simp] theorem bls_mapf {α : Type} (f : α → Bool) (xs : List α) : bls? (xs.map fun x => V.bl (f x)) = some (xs.map f) := by
  unfold bls?
  induction xs with
  | nil => rfl
  | cons n ns ih => simp [-Option.bind_some, mapO, ih]
@[simp] theorem ints_cons (i : Int) (xs : List V) : ints? (.int i :: xs) = (ints? xs).map (i :: ·) := by
  unfold ints?
  simp only [mapO, Option.bind_some]
  cases mapO _ xs <;> rfl
@[simp] theorem ints_nil : ints? [] = some [] := nr rfl
@[simp] theorem ints_append (xs ys : List V) : ints? (xs ++ ys) = (ints? xs).bind fun a => (ints? ys).map (a ++ ·) := by
  induction xs with
  | nil => simp [-Option.bind_some]
  | cons x xs ih =>
    cases x with
    | int i =>
      rw [List.cons_append, ints_cons, ih, ints_cons]
      cases ints? xs <;> simp [-Option.bind_some]
      cases ints? ys <;> simp [-Option.bind_some]
    | _ => simp [-Option.bind_some, ints?, mapO]
theorem ints_inv {xs : List V} {ns : List Int} (h : ints? xs = some ns) : xs = ns.map V.int := by
  have := ints_of (ι := id) h
  rw [← this]
  exact (List.map_id'' (fun v => by cases v <;> rfl) xs).symm
theorem smallN_of {i : Int} (h : -(10 ^ 500) < i) (h2 : i < 10 ^ 500) : smallN i = true := by
  have e : (10 : Nat) ^ 500 < bigN := by decide +kernel
  refine decide_eq_true (Nat.lt_trans ?_ e)
  have : ((10 : Nat) ^ 500 : Int) = (10 : Int) ^ 500 := by norm_cast
  generalize hb : (10 : Nat) ^ 500 = B at *
  omega

/-! ### loops -/
def After (N B : St → Hz → Prop) (Rt : V → Hz → Prop) : R → Prop
  | .nx σ G => N σ G
  | .ct σ G => N σ G
  | .bk σ G => B σ G
  | .rt v G => Rt v G
def Done (B : St → Hz → Prop) (Rt : V → Hz → Prop) : R → Prop
  | .nx σ G => B σ G
  | .rt v G => Rt v G
  | _ => False
theorem loopF_gen {it : MIt} {g : MG} {b : MS} {k : Nat} (Inv : Nat → St → Hz → Prop) (B : St → Hz → Prop) (Rt : V → Hz → Prop)
    (step : ∀ i σ G, i < k → Inv i σ G → ∃ x G1, it i G = some (some (x, G1)) ∧ ∃ r, ((g x σ G1).bind fun p => b p.1 p.2) = some r ∧ After (Inv (i + 1)) B Rt r)
    (last : ∀ σ G, Inv k σ G → it k G = some none ∧ B σ G) : ∀ (n i : Nat) σ G, i ≤ k → Inv i σ G → k - i < n → ∃ r, loopF it g b n i σ G = some r ∧ Done B Rt r
  | 0, _, _, _, _, _, h => by omega
  | n + 1, i, σ, G, hi, hI, hn => by
    unfold loopF
    by_cases q : i = k
    · subst q
      obtain ⟨e, z⟩ := last σ G hI
      rw [e]
      exact ⟨_, rfl, z⟩
    · obtain ⟨x, G1, e, r, e2, z⟩ := step i σ G (by omega) hI
      rw [e]
      obtain ⟨⟨σ1, G2⟩, e3, e4⟩ := bnd e2
      simp only [e3, Option.bind_some, e4]
      cases r with
      | nx σ3 G3 => exact loopF_gen Inv B Rt step last n (i + 1) σ3 G3 (by omega) z (by omega)
      | ct σ3 G3 => exact loopF_gen Inv B Rt step last n (i + 1) σ3 G3 (by omega) z (by omega)
      | bk σ3 G3 => exact ⟨_, rfl, z⟩
      | rt v G3 => exact ⟨_, rfl, z⟩
/-- for i in range: full form -/
theorem forR_gen {n : Nat} {w : MI} {g : MG} {b : MS} {σ : St} {G G0 : Hz} {lo : Int} {k : Nat} (Inv : Nat → St → Hz → Prop) (B : St → Hz → Prop) (Rt : V → Hz → Prop) (hw : w σ G = some (itR lo k, G0)) (h0 : Inv 0 σ G0) (hk : k < n)
    (step : ∀ i σ G, i < k → Inv i σ G → ∃ r, ((g (.int (lo + (i : Int))) σ G).bind fun p => b p.1 p.2) = some r ∧ After (Inv (i + 1)) B Rt r) (last : ∀ σ G, Inv k σ G → B σ G) : ∃ r, sFor n w g b σ G = some r ∧ Done B Rt r := by
  unfold sFor
  rw [hw]
  refine loopF_gen (it := itR lo k) Inv B Rt (fun i σ G hi hI => ⟨_, G, by unfold itR; rw [if_pos hi], step i σ G hi hI⟩) (fun σ G hI => ⟨by unfold itR; rw [if_neg (Nat.lt_irrefl _)], last σ G hI⟩) n 0 σ G0 (Nat.zero_le _) h0 (by omega)
/-- .. without an early end -/
theorem forR {n : Nat} {w : MI} {g : MG} {b : MS} {σ : St} {G G0 : Hz} {lo : Int} {k : Nat} (Inv : Nat → St → Hz → Prop) (hw : w σ G = some (itR lo k, G0)) (h0 : Inv 0 σ G0) (hk : k < n)
    (step : ∀ i σ G, i < k → Inv i σ G → ∃ r, ((g (.int (lo + (i : Int))) σ G).bind fun p => b p.1 p.2) = some r ∧ After (Inv (i + 1)) (fun _ _ => False) (fun _ _ => False) r) : ∃ σ' G', sFor n w g b σ G = some (.nx σ' G') ∧ Inv k σ' G' := by
  obtain ⟨r, e, z⟩ := forR_gen (lo := lo) (k := k) Inv (Inv k) (fun _ _ => False) hw h0 hk (fun i σ G hi hI => by
    obtain ⟨r, e, z⟩ := step i σ G hi hI
    refine ⟨r, e, ?_⟩
    cases r <;> first | exact z | exact z.elim) fun σ G h => h
  cases r with
  | nx σ' G' => exact ⟨σ', G', e, z⟩
  | _ => exact z.elim
theorem forL_gen {n : Nat} {w : MI} {g : MG} {b : MS} {σ : St} {G G0 : Hz} {a : Nat} (xs : List V) (Inv : Nat → St → Hz → Prop) (B : St → Hz → Prop) (Rt : V → Hz → Prop) (hw : w σ G = some (itL a, G0)) (h0 : Inv 0 σ G0) (hk : xs.length < n)
    (keep : ∀ i σ G, Inv i σ G → G[a]? = some (.lst xs) ∨ G[a]? = some (.fz xs))
    (step : ∀ i σ G x, xs[i]? = some x → Inv i σ G → ∃ r, ((g x σ G).bind fun p => b p.1 p.2) = some r ∧ After (Inv (i + 1)) B Rt r) (last : ∀ σ G, Inv xs.length σ G → B σ G) : ∃ r, sFor n w g b σ G = some r ∧ Done B Rt r := by
  unfold sFor
  rw [hw]
  have at_ : ∀ i σ G, Inv i σ G → itL a i G = some (xs[i]?.map fun x => (x, G)) := fun i σ G h => by
    unfold itL
    rcases keep i σ G h with e | e <;> rw [e]
  refine loopF_gen (it := itL a) (k := xs.length) Inv B Rt (fun i σ G hi hI => ⟨xs[i], G, by rw [at_ i σ G hI, List.getElem?_eq_getElem hi]; rfl, step i σ G _ (List.getElem?_eq_getElem hi) hI⟩) (fun σ G hI => ⟨by rw [at_ _ σ G hI, List.getElem?_eq_none (Nat.le_refl _)]; rfl, last σ G hI⟩) n 0 σ G0 (Nat.zero_le _) h0 (by omega)
theorem forL {n : Nat} {w : MI} {g : MG} {b : MS} {σ : St} {G G0 : Hz} {a : Nat} (xs : List V) (Inv : Nat → St → Hz → Prop) (hw : w σ G = some (itL a, G0)) (h0 : Inv 0 σ G0) (hk : xs.length < n)
    (keep : ∀ i σ G, Inv i σ G → G[a]? = some (.lst xs) ∨ G[a]? = some (.fz xs))
    (step : ∀ i σ G x, xs[i]? = some x → Inv i σ G → ∃ r, ((g x σ G).bind fun p => b p.1 p.2) = some r ∧ After (Inv (i + 1)) (fun _ _ => False) (fun _ _ => False) r) : ∃ σ' G', sFor n w g b σ G = some (.nx σ' G') ∧ Inv xs.length σ' G' := by
  obtain ⟨r, e, z⟩ := forL_gen xs Inv (Inv xs.length) (fun _ _ => False) hw h0 hk keep (fun i σ G x hx hI => by
    obtain ⟨r, e, z⟩ := step i σ G x hx hI
    refine ⟨r, e, ?_⟩
    cases r <;> first | exact z | exact z.elim) fun σ G h => h
  cases r with
  | nx σ' G' => exact ⟨σ', G', e, z⟩
  | _ => exact z.elim
/-- while: Inv f has at most f turns left -/
theorem loopW_gen {t : MT} {b : MS} (Inv : Nat → St → Hz → Prop) (B : St → Hz → Prop) (Rt : V → Hz → Prop)
    (step : ∀ f σ G, Inv f σ G → ∃ c G1, t σ G = some (c, G1) ∧ (c = false → B σ G1) ∧ (c = true → ∃ r, b σ G1 = some r ∧ After (fun σ' G' => ∃ f', f' < f ∧ Inv f' σ' G') B Rt r)) : ∀ (n f : Nat) σ G, Inv f σ G → f < n → ∃ r, loopW t b n σ G = some r ∧ Done B Rt r
  | 0, _, _, _, _, h => by omega
  | n + 1, f, σ, G, hI, hn => by
    unfold loopW
    obtain ⟨c, G1, e, h1, h2⟩ := step f σ G hI
    rw [e]
    cases c with
    | false => exact ⟨.nx σ G1, by simp [-Option.bind_some], h1 rfl⟩
    | true =>
      obtain ⟨r, e2, z⟩ := h2 rfl
      simp only [Option.bind_some, if_true, e2]
      cases r with
      | nx σ3 G3 =>
        obtain ⟨f', l, z⟩ := z
        exact loopW_gen Inv B Rt step n f' σ3 G3 z (by omega)
      | ct σ3 G3 =>
        obtain ⟨f', l, z⟩ := z
        exact loopW_gen Inv B Rt step n f' σ3 G3 z (by omega)
      | bk σ3 G3 => exact ⟨_, rfl, z⟩
      | rt v G3 => exact ⟨_, rfl, z⟩
theorem whileI {n f : Nat} {t : MT} {b : MS} {σ : St} {G : Hz} (Inv : Nat → St → Hz → Prop) (B : St → Hz → Prop) (h0 : Inv f σ G) (hf : f < n)
    (step : ∀ f σ G, Inv f σ G → ∃ c G1, t σ G = some (c, G1) ∧ (c = false → B σ G1) ∧ (c = true → ∃ r, b σ G1 = some r ∧ After (fun σ' G' => ∃ f', f' < f ∧ Inv f' σ' G') B (fun _ _ => False) r)) : ∃ σ' G', sWhile n t b σ G = some (.nx σ' G') ∧ B σ' G' := by
  obtain ⟨r, e, z⟩ := loopW_gen Inv B (fun _ _ => False) step n f σ G h0 hf
  cases r with
  | nx σ' G' => exact ⟨σ', G', e, z⟩
  | _ => exact z.elim

/-! ### comprehensions -/
theorem loopC_gen {it : MIt} {turn : V → Hz → Hz → Option Hz} {k : Nat} (Inv : Nat → Hz → Prop)
    (step : ∀ i G, i < k → Inv i G → ∃ x G1 G2, it i G = some (some (x, G1)) ∧ turn x G G1 = some G2 ∧ Inv (i + 1) G2)
    (last : ∀ G, Inv k G → it k G = some none) : ∀ (n i : Nat) G, i ≤ k → Inv i G → k - i < n → ∃ G', loopC it turn n i G = some G' ∧ Inv k G'
  | 0, _, _, _, _, h => by omega
  | n + 1, i, G, hi, hI, hn => by
    unfold loopC
    by_cases q : i = k
    · subst q
      rw [last G hI]
      exact ⟨_, rfl, hI⟩
    · obtain ⟨x, G1, G2, e, e2, z⟩ := step i G (by omega) hI
      rw [e]
      simp only [e2, Option.bind_some]
      exact loopC_gen Inv step last n (i + 1) G2 (by omega) z (by omega)
/-- an iterator that walks xs and changes nothing -/
def Yl (it : MIt) (G : Hz) (xs : List V) : Prop := ∀ (i : Nat) (S : Hz), it i (G ++ S) = some (xs[i]?.map fun x => (x, G ++ S))
theorem yl_list {G : Hz} {a : Nat} {xs : List V} (h : G[a]? = some (.lst xs)) : Yl (itL a) G xs := fun i S => by
  unfold itL
  rw [List.getElem?_append_left (lt_get h), h]
theorem yl_fz {G : Hz} {a : Nat} {xs : List V} (h : G[a]? = some (.fz xs)) : Yl (itL a) G xs := fun i S => by
  unfold itL
  rw [List.getElem?_append_left (lt_get h), h]
def rangeL (lo : Int) (k : Nat) : List V := (List.range k).map fun (i : Nat) => V.int (lo + (i : Int))
theorem yl_range {G : Hz} {lo : Int} {k : Nat} : Yl (itR lo k) G (rangeL lo k) := fun i S => by
  unfold itR rangeL
  by_cases h : i < k
  · simp [-Option.bind_some, h]
  · simp [-Option.bind_some, h]
/-- a comprehension whose items are atoms or old: each turn leaves the heap as it is -/
theorem comp_pure {n : Nat} {cm : Bool} {w : MI} {vs : List Nat} {g : MG} {t : MT} {e : ME} {σ : St} {G G0 : Hz} {it : MIt} (xs : List V) (p : V → Bool) (F : V → V) (hw : w σ G = some (it, G0)) (hy : Yl it G0 xs) (hn : xs.length < n) (hs : xs.length ≤ sizeLine)
    (ht : ∀ x ∈ xs, ∀ acc : List V, ∃ σx, g x (wipe σ vs) (G0 ++ [.lst acc]) = some (σx, G0 ++ [.lst acc]) ∧ t σx (G0 ++ [.lst acc]) = some (p x, G0 ++ [.lst acc]) ∧ (p x = true → e σx (G0 ++ [.lst acc]) = some (F x, G0 ++ [.lst acc]) ∧ okV G0.length (F x) = true)) :
    eComp n cm w vs g t e σ G = some (.ref G0.length, G0 ++ [.lst ((xs.filter p).map F)]) := by
  unfold eComp
  rw [hw]
  simp only [Option.bind_some]
  have key := loopC_gen (it := it) (turn := turnC cm g t e G0.length (wipe σ vs)) (k := xs.length) (fun i G => G = G0 ++ [.lst (((xs.take i).filter p).map F)]) (fun i G hi hI => by
    subst hI
    have hx : xs[i] ∈ xs := List.getElem_mem hi
    refine ⟨xs[i], _, _, by rw [hy i, List.getElem?_eq_getElem hi]; rfl, ?_, rfl⟩
    obtain ⟨σx, h1, h2, h3⟩ := ht _ hx (((xs.take i).filter p).map F)
    unfold turnC
    rw [h1]
    simp only [Option.bind_some, h2]
    have et : xs.take (i + 1) = xs.take i ++ [xs[i]] := by rw [List.take_succ, List.getElem?_eq_getElem hi]; rfl
    cases q : p xs[i] with
    | false =>
      have : ((xs.take (i + 1)).filter p).map F = ((xs.take i).filter p).map F := by
        rw [et, List.filter_append, List.filter_cons, q]
        simp [-Option.bind_some]
      rw [this]
      cases cm <;> simp [-Option.bind_some]
    | true =>
      obtain ⟨h3, h4⟩ := h3 q
      have : ((xs.take (i + 1)).filter p).map F = ((xs.take i).filter p).map F ++ [F xs[i]] := by
        rw [et, List.filter_append, List.filter_cons, q]
        simp [-Option.bind_some]
      rw [this, if_pos rfl, h3]
      have hl : (((xs.take i).filter p).map F).length < sizeLine := by
        rw [List.length_map]
        have := List.length_filter_le p (xs.take i)
        rw [List.length_take] at this
        omega
      generalize ((xs.take i).filter p).map F = A at hl h3 ⊢
      have cu : cut (G0 ++ [O.lst A]) (F xs[i]) (G0 ++ [O.lst A]) = some (F xs[i], G0 ++ [O.lst A]) := by
        unfold cut
        rw [if_pos (kept_refl _ _)]
        cases hv : F xs[i] with
        | ref b =>
          rw [hv] at h4
          have h5 : b < G0.length := of_decide_eq_true h4
          have h6 : b < (G0 ++ [O.lst A]).length := by
            rw [List.length_append]
            exact Nat.lt_add_right _ h5
          simp only [if_pos h6]
          rw [List.take_length]
        | _ => simp [-Option.bind_some]
      have fin : (match (G0 ++ [O.lst A])[G0.length]? with
          | some (.lst acc) => if acc.length < sizeLine then some ((G0 ++ [O.lst A]).set G0.length (.lst (acc ++ [F xs[i]]))) else none
          | _ => none) = some (G0 ++ [.lst (A ++ [F xs[i]])]) := by
        rw [List.getElem?_append_right (Nat.le_refl _), Nat.sub_self]
        simp only [List.getElem?_cons_zero, if_pos hl]
        rw [List.set_append_right _ _ (Nat.le_refl _), Nat.sub_self]
        rfl
      cases cm with
      | false => exact fin
      | true =>
        simp only [Option.bind_some, if_true, cu]
        exact fin) (fun G hI => by
    subst hI
    rw [hy xs.length, List.getElem?_eq_none (Nat.le_refl _)]
    rfl) n 0 (G0 ++ [.lst []]) (Nat.zero_le _) rfl (by omega)
  obtain ⟨G', e1, e2⟩ := key
  rw [e1, e2, List.take_length]
  rfl
/-- .. over ints, with a test -/
theorem comp_intsP {n : Nat} {cm : Bool} {w : MI} {vs : List Nat} {g : MG} {t : MT} {e : ME} {σ : St} {G G0 : Hz} {it : MIt} (ns : List Int) (p : Int → Bool) (F : Int → V) (hw : w σ G = some (it, G0)) (hy : Yl it G0 (ns.map V.int)) (hn : ns.length < n) (hs : ns.length ≤ sizeLine)
    (ht : ∀ i ∈ ns, ∀ acc : List V, ∃ σx, g (.int i) (wipe σ vs) (G0 ++ [.lst acc]) = some (σx, G0 ++ [.lst acc]) ∧ t σx (G0 ++ [.lst acc]) = some (p i, G0 ++ [.lst acc]) ∧ (p i = true → e σx (G0 ++ [.lst acc]) = some (F i, G0 ++ [.lst acc]) ∧ okV G0.length (F i) = true)) :
    eComp n cm w vs g t e σ G = some (.ref G0.length, G0 ++ [.lst ((ns.filter p).map F)]) := by
  rw [comp_pure (it := it) (G0 := G0) (ns.map V.int) (fun v => match v with | .int i => p i | _ => false) (fun v => match v with | .int i => F i | v => v) hw hy (by rw [List.length_map]; exact hn) (by rw [List.length_map]; exact hs) (fun x hx acc => by
    obtain ⟨i, hi, rfl⟩ := List.mem_map.mp hx
    exact ht i hi acc)]
  rw [List.filter_map, List.map_map]
  rfl
theorem comp_ints {n : Nat} {cm : Bool} {w : MI} {vs : List Nat} {g : MG} {e : ME} {σ : St} {G G0 : Hz} {it : MIt} (ns : List Int) (F : Int → V) (hw : w σ G = some (it, G0)) (hy : Yl it G0 (ns.map V.int)) (hn : ns.length < n) (hs : ns.length ≤ sizeLine)
    (ht : ∀ i ∈ ns, ∀ acc : List V, ∃ σx, g (.int i) (wipe σ vs) (G0 ++ [.lst acc]) = some (σx, G0 ++ [.lst acc]) ∧ e σx (G0 ++ [.lst acc]) = some (F i, G0 ++ [.lst acc]) ∧ okV G0.length (F i) = true) :
    eComp n cm w vs g tYesZ e σ G = some (.ref G0.length, G0 ++ [.lst (ns.map F)]) := by
  rw [comp_intsP (it := it) (G0 := G0) ns (fun _ => true) F hw hy hn hs (fun i hi acc => by
    obtain ⟨σx, h1, h2, h3⟩ := ht i hi acc
    exact ⟨σx, h1, rfl, fun _ => ⟨h2, h3⟩⟩)]
  rw [List.filter_eq_self.mpr fun _ _ => rfl]
/-- .. over a range -/
theorem comp_rangeP {n : Nat} {cm : Bool} {w : MI} {vs : List Nat} {g : MG} {t : MT} {e : ME} {σ : St} {G G0 : Hz} (lo : Int) (k : Nat) (p : Nat → Bool) (F : Nat → V) (hw : w σ G = some (itR lo k, G0)) (hn : k < n) (hs : k ≤ sizeLine)
    (ht : ∀ i, i < k → ∀ acc : List V, ∃ σx, g (.int (lo + (i : Int))) (wipe σ vs) (G0 ++ [.lst acc]) = some (σx, G0 ++ [.lst acc]) ∧ t σx (G0 ++ [.lst acc]) = some (p i, G0 ++ [.lst acc]) ∧ (p i = true → e σx (G0 ++ [.lst acc]) = some (F i, G0 ++ [.lst acc]) ∧ okV G0.length (F i) = true)) :
    eComp n cm w vs g t e σ G = some (.ref G0.length, G0 ++ [.lst (((List.range k).filter p).map F)]) := by
  rw [comp_pure (it := itR lo k) (G0 := G0) (rangeL lo k) (fun v => match v with | .int i => p (i - lo).toNat | _ => false) (fun v => match v with | .int i => F (i - lo).toNat | v => v) hw yl_range (by simpa [-Option.bind_some, rangeL] using hn) (by simpa [-Option.bind_some, rangeL] using hs) (fun x hx acc => by
    obtain ⟨i, hi, rfl⟩ := List.mem_map.mp hx
    have e : (lo + (i : Int) - lo).toNat = i := by omega
    obtain ⟨σx, h1, h2, h3⟩ := ht i (List.mem_range.mp hi) acc
    refine ⟨σx, h1, ?_, ?_⟩
    · simp only [e]
      exact h2
    · simp only [e]
      exact h3)]
  unfold rangeL
  rw [List.filter_map, List.map_map]
  have q : ∀ i : Nat, (lo + (i : Int) - lo).toNat = i := fun i => by omega
  have e1 : ((fun v => match v with | V.int i => F (i - lo).toNat | v => v) ∘ fun (i : Nat) => V.int (lo + (i : Int))) = F := by
    funext i
    show F (lo + (i : Int) - lo).toNat = F i
    rw [q]
  have e2 : ((fun v => match v with | V.int i => p (i - lo).toNat | x => false) ∘ fun (i : Nat) => V.int (lo + (i : Int))) = p := by
    funext i
    show p (lo + (i : Int) - lo).toNat = p i
    rw [q]
  rw [e1, e2]
theorem comp_range {n : Nat} {cm : Bool} {w : MI} {vs : List Nat} {g : MG} {e : ME} {σ : St} {G G0 : Hz} (lo : Int) (k : Nat) (F : Nat → V) (hw : w σ G = some (itR lo k, G0)) (hn : k < n) (hs : k ≤ sizeLine)
    (ht : ∀ i, i < k → ∀ acc : List V, ∃ σx, g (.int (lo + (i : Int))) (wipe σ vs) (G0 ++ [.lst acc]) = some (σx, G0 ++ [.lst acc]) ∧ e σx (G0 ++ [.lst acc]) = some (F i, G0 ++ [.lst acc]) ∧ okV G0.length (F i) = true) :
    eComp n cm w vs g tYesZ e σ G = some (.ref G0.length, G0 ++ [.lst ((List.range k).map F)]) := by
  rw [comp_rangeP lo k (fun _ => true) F hw hn hs (fun i hi acc => by
    obtain ⟨σx, h1, h2, h3⟩ := ht i hi acc
    exact ⟨σx, h1, rfl, fun _ => ⟨h2, h3⟩⟩)]
  rw [List.filter_eq_self.mpr fun _ _ => rfl]
end Zl

/-! Zl, part 10: data. -/
namespace Zl
open PySem L2
/-- data that can be shown and compared: its text has at most L signs, depth at most k -/
structure Tame (d : PyData) (L k : Nat) : Prop where
  len : d.shown.length ≤ L
  sh : d.showable = true
  dp : d.depth ≤ k
  nd : d.hasDict = false
  cl : d.canLay0 = true
theorem Tame.mono {d : PyData} {L M j k : Nat} (h : Tame d L j) (l : L ≤ M) (m : j ≤ k) : Tame d M k := ⟨Nat.le_trans h.len l, h.sh, Nat.le_trans h.dp m, h.nd, h.cl⟩
theorem Tame.non : Tame .none 5 0 := ⟨by decide, rfl, Nat.le_refl _, rfl, rfl⟩
theorem Tame.bl (b : Bool) : Tame (.bool b) 5 0 := ⟨by cases b <;> decide, rfl, Nat.le_refl _, rfl, rfl⟩
theorem Tame.int {i : Int} (h : i.natAbs < 10 ^ 150) : Tame (.int i) 152 0 := by
  refine ⟨?_, ?_, Nat.le_refl _, rfl, rfl⟩
  · have e := int_text_length_le10 (k := 150) (by decide) h
    show (Str.ofString (toString i)).length ≤ 152
    rw [ofString_length]
    omega
  · show decide (i.natAbs.log2 < 1920) = true
    have e : (10 : Nat) ^ 150 ≤ 2 ^ 1920 := by decide +kernel
    exact decide_eq_true (PySem.Flt.log2_lt_of (by decide) (Nat.lt_of_lt_of_le h e))
theorem sum_le {ts : List Nat} {L : Nat} (h : ∀ t ∈ ts, t ≤ L) : ts.sum ≤ ts.length * L := by
  induction ts with
  | nil => simp [-Option.bind_some]
  | cons t ts ih =>
    have h1 := h t (List.mem_cons_self ..)
    have h2 := ih fun t ht => h t (List.mem_cons_of_mem _ ht)
    rw [List.sum_cons, List.length_cons, Nat.succ_mul]
    omega
theorem shownAll_map : ∀ xs : List PyData, PyData.shownAll xs = xs.map PyData.shown
  | [] => rfl
  | x :: xs => by simp [-Option.bind_some, PyData.shownAll, shownAll_map xs]
theorem tame_all {xs : List PyData} {L k : Nat} (h : ∀ x ∈ xs, Tame x L k) : ((PyData.shownAll xs).map (·.length)).sum ≤ xs.length * L ∧ PyData.showableAll xs = true ∧ PyData.depthAll xs ≤ k ∧ PyData.hasDictAll xs = false ∧ PyData.canLayAll0 xs = true := by
  refine ⟨?_, ?_⟩
  · have := sum_le (ts := (PyData.shownAll xs).map (·.length)) (L := L) fun t ht => by
      rw [shownAll_map, List.map_map] at ht
      obtain ⟨x, hx, rfl⟩ := List.mem_map.mp ht
      exact (h x hx).len
    rwa [List.length_map, shownAll_map, List.length_map, ← shownAll_map] at this
  · induction xs with
    | nil => simp [-Option.bind_some, PyData.showableAll, PyData.depthAll, PyData.hasDictAll, PyData.canLayAll0]
    | cons x xs ih =>
      obtain ⟨h2, h3, h4, h5⟩ := ih fun y hy => h y (List.mem_cons_of_mem _ hy)
      have hx := h x (List.mem_cons_self ..)
      have := hx.dp
      simp [-Option.bind_some, PyData.showableAll, PyData.depthAll, PyData.hasDictAll, PyData.canLayAll0, hx.sh, hx.nd, hx.cl, h2, h4, h5]
      omega
theorem Tame.list {xs : List PyData} {L k : Nat} (h : ∀ x ∈ xs, Tame x L k) : Tame (.list xs) (xs.length * (L + 2) + 3) (k + 1) := by
  obtain ⟨h1, h2, h3, h4, h5⟩ := tame_all h
  refine ⟨?_, h2, Nat.succ_le_succ h3, h4, h5⟩
  have := listText_len_le (PyData.shownAll xs)
  show (listText _).length ≤ _
  rw [shownAll_map, List.length_map, ← shownAll_map] at this
  rw [Nat.mul_add]
  omega
theorem Tame.tup {xs : List PyData} {L k : Nat} (h : ∀ x ∈ xs, Tame x L k) : Tame (.tuple xs) (xs.length * (L + 2) + 3) (k + 1) := by
  obtain ⟨h1, h2, h3, h4, h5⟩ := tame_all h
  refine ⟨?_, h2, Nat.succ_le_succ h3, h4, h5⟩
  have := tupleText_len_le (PyData.shownAll xs)
  show (tupleText _).length ≤ _
  rw [shownAll_map, List.length_map, ← shownAll_map] at this
  rw [Nat.mul_add]
  omega
theorem Tame.shaped {d : PyData} {L k : Nat} (h : Tame d L k) (l : k ≤ 64) : SeqAt.shaped d = true := by
  unfold SeqAt.shaped
  rw [h.cl, Bool.true_and]
  exact decide_eq_true (Nat.le_trans h.dp l)
theorem repr_ok {G : Hz} {v : V} {d : PyData} {L k : Nat} (e : rdD 20 G v = some d) (h : Tame d L k) (l : L ≤ 16000000) (m : k ≤ 30) : fReprZ [v] G = some (.str d.shown, G) := by
  unfold fReprZ dep
  simp only [e]
  have hs : d.shown.length ≤ sizeLine := by
    rw [sizeLine_eq]
    have := h.len
    omega
  rw [if_pos (show d.showable = true ∧ d.shown.length ≤ sizeLine ∧ d.depth ≤ 30 ∧ d.hasDict = false from ⟨h.sh, hs, Nat.le_trans h.dp m, h.nd⟩)]
@[simp] theorem rd_int (k : Nat) (G : Hz) (i : Int) : rdD k G (.int i) = some (.int i) := by cases k <;> rfl
@[simp] theorem rd_bl (k : Nat) (G : Hz) (b : Bool) : rdD k G (.bl b) = some (.bool b) := by cases k <;> rfl
@[simp] theorem rd_non (k : Nat) (G : Hz) : rdD k G .non = some .none := by cases k <;> rfl
@[simp] theorem rd_str (k : Nat) (G : Hz) (x : Str) : rdD k G (.str x) = some (.str x) := by cases k <;> rfl
theorem rd_lst {k : Nat} {G : Hz} {a : Nat} {xs : List V} {ds : List PyData} (h : G[a]? = some (.lst xs)) (e : mapO (rdD k G) xs = some ds) : rdD (k + 1) G (.ref a) = some (.list ds) := by
  unfold rdD
  rw [h]
  simp only [e]
  rfl
theorem rd_tup {k : Nat} {G : Hz} {a : Nat} {xs : List V} {ds : List PyData} (h : G[a]? = some (.tup xs)) (e : mapO (rdD k G) xs = some ds) : rdD (k + 1) G (.ref a) = some (.tuple ds) := by
  unfold rdD
  rw [h]
  simp only [e]
  rfl
@[simp] theorem mapO_nil {α β : Type} (f : α → Option β) : mapO f [] = some [] := rfl
@[simp] theorem mapO_cons {α β : Type} (f : α → Option β) (x : α) (xs : List α) : mapO f (x :: xs) = (f x).bind fun y => (mapO f xs).bind fun ys => some (y :: ys) := rfl
theorem mapO_of {α β γ : Type} (f : α → Option β) (g : γ → α) (h : γ → β) : ∀ xs : List γ, (∀ x ∈ xs, f (g x) = some (h x)) → mapO f (xs.map g) = some (xs.map h)
  | [], _ => rfl
  | x :: xs, q => by
    rw [List.map_cons, mapO_cons, q x (List.mem_cons_self ..), mapO_of f g h xs fun y hy => q y (List.mem_cons_of_mem _ hy)]
    rfl
@[simp] theorem mapO_ints (k : Nat) (G : Hz) (ns : List Int) : mapO (rdD k G) (ns.map V.int) = some (ns.map PyData.int) := mapO_of _ _ _ ns fun x _ => rd_int k G x
@[simp] theorem mapO_intf {α : Type} (k : Nat) (G : Hz) (f : α → Int) (ns : List α) : mapO (rdD k G) (ns.map fun x => V.int (f x)) = some (ns.map fun x => PyData.int (f x)) := mapO_of _ _ _ ns fun x _ => rd_int k G (f x)
theorem rd_ints {G : Hz} {a : Nat} {ns : List Int} (k : Nat) (h : G[a]? = some (.lst (ns.map V.int))) : rdD (k + 1) G (.ref a) = some (.list (ns.map PyData.int)) := rd_lst h (mapO_ints k G ns)
def Small (ns : List Int) : Prop := ns.length ≤ 50000 ∧ ∀ n ∈ ns, n.natAbs < 10 ^ 150
theorem tame_ints {ns : List Int} (h : Small ns) : Tame (.list (ns.map PyData.int)) 7700003 1 := by
  refine (Tame.list (L := 152) (k := 0) fun x hx => ?_).mono ?_ (Nat.le_refl _)
  · obtain ⟨n, hn, rfl⟩ := List.mem_map.mp hx
    exact .int (h.2 n hn)
  · rw [List.length_map]
    have := h.1
    omega
theorem repr_ints {G : Hz} {a : Nat} {ns : List Int} (h : G[a]? = some (.lst (ns.map V.int))) (s : Small ns) : fReprZ [.ref a] G = some (.str (PyData.list (ns.map PyData.int)).shown, G) := repr_ok (rd_ints 19 h) (tame_ints s) (by decide) (by decide)
theorem repr_int {G : Hz} {i : Int} (h : i.natAbs < 10 ^ 150) : fReprZ [.int i] G = some (.str (PyData.int i).shown, G) := repr_ok (rd_int 20 G i) (.int h) (by decide) (by decide)
/-! equality -/
mutual
theorem eqv_refl : ∀ d : PyData, d.hasDict = false → PyData.eqv d d = true
  | .none, _ => by simp [-Option.bind_some, PyData.eqv]
  | .bool b, _ => by simp [-Option.bind_some, PyData.eqv]
  | .int i, _ => by simp [-Option.bind_some, PyData.eqv]
  | .str x, _ => by simp [-Option.bind_some, PyData.eqv]
  | .list xs, h => by
    simp only [PyData.eqv]
    exact eqvAll_refl xs (by simpa [-Option.bind_some, PyData.hasDict] using h)
  | .tuple xs, h => by
    simp only [PyData.eqv]
    exact eqvAll_refl xs (by simpa [-Option.bind_some, PyData.hasDict] using h)
  | .dict _, h => by simp [-Option.bind_some, PyData.hasDict] at h
theorem eqvAll_refl : ∀ xs : List PyData, PyData.hasDictAll xs = false → PyData.eqvAll xs xs = true
  | [], _ => by simp [-Option.bind_some, PyData.eqvAll]
  | x :: xs, h => by
    simp only [PyData.hasDictAll, Bool.or_eq_false_iff] at h
    simp [-Option.bind_some, PyData.eqvAll, eqv_refl x h.1, eqvAll_refl xs h.2]
end
theorem eqvAll_ints : ∀ xs ys : List Int, PyData.eqvAll (xs.map .int) (ys.map .int) = decide (xs = ys)
  | [], [] => by simp [-Option.bind_some, PyData.eqvAll]
  | [], _ :: _ => by simp [-Option.bind_some, PyData.eqvAll]
  | _ :: _, [] => by simp [-Option.bind_some, PyData.eqvAll]
  | x :: xs, y :: ys => by
    have := eqvAll_ints xs ys
    simp only [List.map_cons, PyData.eqvAll, this, PyData.eqv]
    rw [Bool.eq_iff_iff]
    simp [-Option.bind_some]
theorem tameW_all : ∀ ns : List Int, PyData.canLayAll0 (ns.map .int) = true ∧ PyData.depthAll (ns.map .int) = 0
  | [] => ⟨rfl, rfl⟩
  | n :: ns => by
    obtain ⟨h1, h2⟩ := tameW_all ns
    simp [-Option.bind_some, PyData.canLayAll0, PyData.canLay0, PyData.depthAll, PyData.depth, h1, h2]
theorem shaped_ints (ns : List Int) : SeqAt.shaped (.list (ns.map .int)) = true := by
  obtain ⟨h1, h2⟩ := tameW_all ns
  simp [-Option.bind_some, SeqAt.shaped, PyData.canLay0, PyData.depth, h1, h2]
@[simp] theorem cEq_int (i j : Int) (G : Hz) : cEq (.int i) (.int j) G = some (.bl (decide (i = j)), G) := by simp [-Option.bind_some, cEq, scal]
@[simp] theorem cNe_int (i j : Int) (G : Hz) : cNe (.int i) (.int j) G = some (.bl (!decide (i = j)), G) := by simp [-Option.bind_some, cNe, scal]
@[simp] theorem cEq_str (i j : Str) (G : Hz) : cEq (.str i) (.str j) G = some (.bl (decide (i = j)), G) := by simp [-Option.bind_some, cEq, scal]
@[simp] theorem cNe_str (i j : Str) (G : Hz) : cNe (.str i) (.str j) G = some (.bl (!decide (i = j)), G) := by simp [-Option.bind_some, cNe, scal]
@[simp] theorem cEq_bl (i j : Bool) (G : Hz) : cEq (.bl i) (.bl j) G = some (.bl (decide (i = j)), G) := by simp [-Option.bind_some, cEq, scal]
@[simp] theorem cNe_bl (i j : Bool) (G : Hz) : cNe (.bl i) (.bl j) G = some (.bl (!decide (i = j)), G) := by simp [-Option.bind_some, cNe, scal]
theorem cEq_ints {G : Hz} {a b : Nat} {xs ys : List Int} (h : G[a]? = some (.lst (xs.map V.int))) (k : G[b]? = some (.lst (ys.map V.int))) : cEq (.ref a) (.ref b) G = some (.bl (decide (xs = ys)), G) := by
  simp [-Option.bind_some, cEq, scal, dep, rd_ints 19 h, rd_ints 19 k, shaped_ints, PyData.eqv, eqvAll_ints]
theorem cNe_ints {G : Hz} {a b : Nat} {xs ys : List Int} (h : G[a]? = some (.lst (xs.map V.int))) (k : G[b]? = some (.lst (ys.map V.int))) : cNe (.ref a) (.ref b) G = some (.bl (!decide (xs = ys)), G) := by
  simp [-Option.bind_some, cNe, scal, dep, rd_ints 19 h, rd_ints 19 k, shaped_ints, PyData.eqv, eqvAll_ints]
theorem cNe_nil {G : Hz} {a b : Nat} {xs : List Int} (h : G[a]? = some (.lst (xs.map V.int))) (k : G[b]? = some (.lst [])) : cNe (.ref a) (.ref b) G = some (.bl (!decide (xs = [])), G) := cNe_ints (ys := []) h k
/-- equal data -/
theorem cEq_same {G : Hz} {v w : V} {d : PyData} {L k : Nat} (s : scal v w = false) (h : rdD 20 G v = some d) (h' : rdD 20 G w = some d) (t : Tame d L k) (l : k ≤ 64) : cEq v w G = some (.bl true, G) := by
  simp [-Option.bind_some, cEq, s, dep, h, h', t.shaped l, eqv_refl d t.nd]
theorem cNe_same {G : Hz} {v w : V} {d : PyData} {L k : Nat} (s : scal v w = false) (h : rdD 20 G v = some d) (h' : rdD 20 G w = some d) (t : Tame d L k) (l : k ≤ 64) : cNe v w G = some (.bl false, G) := by
  simp [-Option.bind_some, cNe, s, dep, h, h', t.shaped l, eqv_refl d t.nd]
/-! branches -/
@[simp] theorem ite_bind {α β : Type} {c : Prop} [Decidable c] {a b : Option α} {f : α → Option β} : (if c then a else b).bind f = if c then a.bind f else b.bind f := by split <;> rfl
@[simp] theorem ite_some_bl {c : Prop} [Decidable c] {a b : Bool} {G : Hz} : (if c then some (a, G) else some (b, G)) = some (if c then a else b, G) := by split <;> rfl
@[simp] theorem ite_some_v {c : Prop} [Decidable c] {a b : V} {G : Hz} : (if c then some (a, G) else some (b, G)) = some (if c then a else b, G) := by split <;> rfl
@[simp] theorem ite_bl {c : Prop} [Decidable c] {a b : Bool} : (if c then V.bl a else V.bl b) = V.bl (if c then a else b) := by split <;> rfl
@[simp] theorem ite_int {c : Prop} [Decidable c] {a b : Int} : (if c then V.int a else V.int b) = V.int (if c then a else b) := by split <;> rfl
end Zl

/-! Zl, part 11: lists of ints under the map. -/
namespace Zl
open PySem L2
@[simp] theorem gc_zero {α : Type} (x : α) (xs : List α) : (x :: xs)[0]? = some x := nr rfl
@[simp] theorem gc_nil {α : Type} (i : Nat) : ([] : List α)[i]? = none := nr rfl
@[simp] theorem sizeLine_v : sizeLine = 16777216 := nr sizeLine_eq
@[simp] theorem After_nx (N B : St → Hz → Prop) (Rt : V → Hz → Prop) (σ : St) (G : Hz) : After N B Rt (.nx σ G) = N σ G := nr rfl
@[simp] theorem After_ct (N B : St → Hz → Prop) (Rt : V → Hz → Prop) (σ : St) (G : Hz) : After N B Rt (.ct σ G) = N σ G := nr rfl
@[simp] theorem After_bk (N B : St → Hz → Prop) (Rt : V → Hz → Prop) (σ : St) (G : Hz) : After N B Rt (.bk σ G) = B σ G := nr rfl
@[simp] theorem After_rt (N B : St → Hz → Prop) (Rt : V → Hz → Prop) (v : V) (G : Hz) : After N B Rt (.rt v G) = Rt v G := nr rfl
section
variable {α β : Type}
@[simp] theorem take_map (f : α → β) (xs : List α) (k : Nat) : (xs.map f).take k = (xs.take k).map f := List.map_take.symm
@[simp] theorem drop_map (f : α → β) (xs : List α) (k : Nat) : (xs.map f).drop k = (xs.drop k).map f := List.map_drop.symm
@[simp] theorem append_map (f : α → β) (xs ys : List α) : xs.map f ++ ys.map f = (xs ++ ys).map f := List.map_append.symm
@[simp] theorem append_int (xs : List Int) (i : Int) : xs.map V.int ++ [V.int i] = (xs ++ [i]).map V.int := by rw [List.map_append]; rfl
@[simp] theorem reverse_map (f : α → β) (xs : List α) : (xs.map f).reverse = xs.reverse.map f := List.map_reverse.symm
@[simp] theorem dropLast_map (f : α → β) (xs : List α) : (xs.map f).dropLast = xs.dropLast.map f := List.map_dropLast.symm
@[simp] theorem erase_map (f : α → β) (xs : List α) (k : Nat) : (xs.map f).eraseIdx k = (xs.eraseIdx k).map f := (map_eraseIdx f xs k).symm
@[simp] theorem set_int (xs : List Int) (k : Nat) (i : Int) : (xs.map V.int).set k (V.int i) = (xs.set k i).map V.int := List.map_set.symm
@[simp] theorem getLast_map (f : α → β) (xs : List α) : (xs.map f).getLast? = xs.getLast?.map f := List.getLast?_map
@[simp] theorem atI_cast (xs : List α) (k : Nat) : atI xs ((k : Nat) : Int) = xs[k]? := by
  unfold atI ixN
  rw [if_pos (by omega)]
  by_cases h : k < xs.length
  · rw [if_pos (by omega)]
    rfl
  · rw [if_neg (by omega), List.getElem?_eq_none (by omega)]
    rfl
theorem atI_nn (xs : List α) {i : Int} (h : 0 ≤ i) : atI xs i = xs[i.toNat]? := by
  obtain ⟨k, rfl⟩ := Int.eq_ofNat_of_zero_le h
  simp [-Option.bind_some, -List.map_take, -List.map_drop, -List.map_append, -List.map_reverse, -List.map_set, -List.map_dropLast, -getElem?_pos]
@[simp] theorem atI_zero (xs : List α) : atI xs 0 = xs[0]? := atI_cast xs 0
@[simp] theorem atI_one (xs : List α) : atI xs 1 = xs[1]? := atI_cast xs 1
@[simp] theorem atI_two (xs : List α) : atI xs 2 = xs[2]? := atI_cast xs 2
@[simp] theorem atI_three (xs : List α) : atI xs 3 = xs[3]? := atI_cast xs 3
@[simp] theorem atI_neg1 (xs : List α) : atI xs (-1) = xs.getLast? := by
  unfold atI ixN
  rw [if_neg (by omega), List.getLast?_eq_getElem?]
  cases xs with
  | nil => rfl
  | cons x xs =>
    rw [if_pos (by simp only [List.length_cons]; omega)]
    simp only [Option.bind_some]
    congr 1
    omega
@[simp] theorem ixN_cast (n k : Nat) : ixN n ((k : Nat) : Int) = if k < n then some k else none := by
  unfold ixN
  rw [if_pos (by omega)]
  by_cases h : k < n
  · rw [if_pos (by omega), if_pos h]; rfl
  · rw [if_neg (by omega), if_neg h]
@[simp] theorem ixN_zero (n : Nat) : ixN n 0 = if 0 < n then some 0 else none := ixN_cast n 0
@[simp] theorem ixN_one (n : Nat) : ixN n 1 = if 1 < n then some 1 else none := ixN_cast n 1
@[simp] theorem ixN_two (n : Nat) : ixN n 2 = if 2 < n then some 2 else none := ixN_cast n 2
@[simp] theorem ixN_neg1 (n : Nat) : ixN n (-1) = if 0 < n then some (n - 1) else none := by
  unfold ixN
  rw [if_neg (by omega)]
  by_cases h : 0 < n
  · rw [if_pos (by omega), if_pos h]
    congr 1
    omega
  · rw [if_neg (by omega), if_neg h]
theorem sIx_nn {n d : Nat} {i : Int} (h : 0 ≤ i) : HT.sIx n d (some i) = min i.toNat n := by
  obtain ⟨k, rfl⟩ := Int.eq_ofNat_of_zero_le h
  rw [HT.sIx_nat]
  rfl
theorem cutV_to (xs : List V) {i : Int} (h : 0 ≤ i) : cutV xs none (some i) = xs.take i.toNat := by
  unfold cutV
  rw [sIx_nn h, HT.sIx_none, List.drop_zero, Nat.sub_zero]
  by_cases q : i.toNat ≤ xs.length
  · rw [Nat.min_eq_left q]
  · rw [Nat.min_eq_right (by omega), List.take_length, List.take_of_length_le (by omega)]
theorem cutV_from (xs : List V) {i : Int} (h : 0 ≤ i) : cutV xs (some i) none = xs.drop i.toNat := by
  unfold cutV
  rw [sIx_nn h, HT.sIx_none]
  by_cases q : i.toNat ≤ xs.length
  · rw [Nat.min_eq_left q, List.take_of_length_le (by rw [List.length_drop]; omega)]
  · rw [Nat.min_eq_right (by omega), Nat.sub_self, List.drop_of_length_le (by omega), List.drop_of_length_le (by omega)]
    rfl
theorem cutV_mid (xs : List V) {i j : Int} (h : 0 ≤ i) (k : 0 ≤ j) : cutV xs (some i) (some j) = (xs.drop i.toNat).take (j.toNat - i.toNat) := by
  unfold cutV
  rw [sIx_nn h, sIx_nn k]
  by_cases q : i.toNat ≤ xs.length
  · rw [Nat.min_eq_left q]
    by_cases r : j.toNat ≤ xs.length
    · rw [Nat.min_eq_left r]
    · rw [Nat.min_eq_right (by omega), List.take_of_length_le (by rw [List.length_drop]; omega), List.take_of_length_le (by rw [List.length_drop]; omega)]
  · rw [Nat.min_eq_right (show xs.length ≤ i.toNat by omega), List.drop_of_length_le (Nat.le_refl _), List.drop_of_length_le (show xs.length ≤ i.toNat by omega), List.take_nil, List.take_nil]
@[simp] theorem cutV_to_cast (xs : List V) (k : Nat) : cutV xs none (some ((k : Nat) : Int)) = xs.take k := cutV_to xs (by omega)
@[simp] theorem cutV_from_cast (xs : List V) (k : Nat) : cutV xs (some ((k : Nat) : Int)) none = xs.drop k := cutV_from xs (by omega)
@[simp] theorem cutV_from_one (xs : List V) : cutV xs (some 1) none = xs.drop 1 := cutV_from xs (by omega)
@[simp] theorem cutV_mid_cast (xs : List V) (i j : Nat) : cutV xs (some ((i : Nat) : Int)) (some ((j : Nat) : Int)) = (xs.drop i).take (j - i) := cutV_mid xs (by omega) (by omega)
@[simp] theorem cutV_all (xs : List V) : cutV xs none none = xs := by
  unfold cutV
  rw [HT.sIx_none, HT.sIx_none, List.drop_zero, Nat.sub_zero, List.take_length]
@[simp] theorem cutV_butlast (xs : List V) : cutV xs none (some (-1)) = xs.dropLast := by
  unfold cutV
  have e : HT.sIx xs.length xs.length (some (-1)) = xs.length - 1 := by
    show (if (-1 : Int) < 0 then ((-1 : Int) + (xs.length : Int)).toNat else min (-1 : Int).toNat xs.length) = _
    rw [if_pos (by omega)]
    omega
  rw [HT.sIx_none, e, List.drop_zero, Nat.sub_zero, List.dropLast_eq_take]
end
@[simp] theorem fMax_two (i j : Int) (G : Hz) : fMax [.int i, .int j] G = some (.int (max i j), G) := by
  show some (V.int (if j > i then j else i), G) = _
  congr 3
  omega
@[simp] theorem fMin_two (i j : Int) (G : Hz) : fMin [.int i, .int j] G = some (.int (min i j), G) := by
  show some (V.int (if j < i then j else i), G) = _
  congr 3
  omega
@[simp] theorem lt_addR {a n k : Nat} (h : a < n) : (a < n + k) = True := eq_true (Nat.lt_add_right k h)
theorem kept_app2 (n : Nat) : ∀ (G H A B : Hz), G.length = H.length → keptB n (G ++ A) (H ++ B) = (keptB n G H && keptB n A B)
  | [], [], _, _, _ => by simp [-Option.bind_some, -List.map_take, -List.map_drop, -List.map_append, -List.map_reverse, -List.map_set, -List.map_dropLast, -getElem?_pos]
  | [], _ :: _, _, _, h => by simp [-Option.bind_some, -List.map_take, -List.map_drop, -List.map_append, -List.map_reverse, -List.map_set, -List.map_dropLast, -getElem?_pos] at h
  | _ :: _, [], _, _, h => by simp [-Option.bind_some, -List.map_take, -List.map_drop, -List.map_append, -List.map_reverse, -List.map_set, -List.map_dropLast, -getElem?_pos] at h
  | o :: G, o' :: H, A, B, h => by
    have := kept_app2 n G H A B (by simpa [-Option.bind_some, -List.map_take, -List.map_drop, -List.map_append, -List.map_reverse, -List.map_set, -List.map_dropLast, -getElem?_pos] using h)
    simp [-Option.bind_some, -List.map_take, -List.map_drop, -List.map_append, -List.map_reverse, -List.map_set, -List.map_dropLast, -getElem?_pos, this, Bool.and_assoc]
@[simp] theorem kept_app1 (n : Nat) (G A B : Hz) : keptB n (G ++ A) (G ++ B) = keptB n A B := by rw [kept_app2 n G G A B rfl, kept_refl, Bool.true_and]
theorem kept_set2 (n : Nat) : ∀ (G H : Hz) (a : Nat) (o o' : O), okO n o' = true → keptB n G H = true → keptB n (G.set a o) (H.set a o') = true
  | [], _, _, _, _, _, _ => by simp [-Option.bind_some, -List.map_take, -List.map_drop, -List.map_append, -List.map_reverse, -List.map_set, -List.map_dropLast, -getElem?_pos]
  | _ :: _, [], _, _, _, _, h => by cases h
  | u :: G, u' :: H, 0, o, o', k, h => by
    simp only [kept_cons, Bool.and_eq_true, List.set_cons_zero] at h ⊢
    exact ⟨by rw [k, Bool.or_true], h.2⟩
  | u :: G, u' :: H, a + 1, o, o', k, h => by
    simp only [kept_cons, Bool.and_eq_true, List.set_cons_succ] at h ⊢
    exact ⟨h.1, kept_set2 n G H a o o' k h.2⟩
@[simp] theorem kept_set2' (n : Nat) (G : Hz) (a : Nat) (o o' : O) (k : okO n o' = true) : keptB n (G.set a o) (G.set a o') = true := kept_set2 n G G a o o' k (kept_refl n G)
@[simp] theorem kept_app3 (n : Nat) (G A B : Hz) (a : Nat) (o o' : O) (k : okO n o' = true) : keptB n (G.set a o ++ A) (G.set a o' ++ B) = keptB n A B := by
  rw [kept_app2 _ _ _ _ _ (by simp [-Option.bind_some, -List.map_take, -List.map_drop, -List.map_append, -List.map_reverse, -List.map_set, -List.map_dropLast, -getElem?_pos]), kept_set2' n G a o o' k, Bool.true_and]
@[simp] theorem kept_app4 (n : Nat) (G A B : Hz) (a : Nat) (o' : O) (k : okO n o' = true) : keptB n (G ++ A) (G.set a o' ++ B) = keptB n A B := by
  rw [kept_app2 _ _ _ _ _ (by simp [-Option.bind_some, -List.map_take, -List.map_drop, -List.map_append, -List.map_reverse, -List.map_set, -List.map_dropLast, -getElem?_pos]), kept_set n G G a o' k (kept_refl n G), Bool.true_and]
/-! ### places behind the old ones -/
section
variable {α : Type}
@[simp] theorem gn0 (G S : List α) : (G ++ S)[G.length]? = S[0]? := by rw [List.getElem?_append_right (Nat.le_refl _), Nat.sub_self]
@[simp] theorem gnk (G S : List α) (k : Nat) : (G ++ S)[G.length + k]? = S[k]? := by rw [List.getElem?_append_right (Nat.le_add_right _ _), Nat.add_sub_cancel_left]
@[simp] theorem gs0 (G S : List α) (a : Nat) (x : α) : (G.set a x ++ S)[G.length]? = S[0]? := by
  have := gn0 (G.set a x) S
  rwa [List.length_set] at this
@[simp] theorem gsk (G S : List α) (a : Nat) (x : α) (k : Nat) : (G.set a x ++ S)[G.length + k]? = S[k]? := by
  have := gnk (G.set a x) S k
  rwa [List.length_set] at this
@[simp] theorem sn0 (G S : List α) (o : α) : (G ++ S).set G.length o = G ++ S.set 0 o := by rw [List.set_append_right _ _ (Nat.le_refl _), Nat.sub_self]
@[simp] theorem snk (G S : List α) (k : Nat) (o : α) : (G ++ S).set (G.length + k) o = G ++ S.set k o := by rw [List.set_append_right _ _ (Nat.le_add_right _ _), Nat.add_sub_cancel_left]
@[simp] theorem ss0 (G S : List α) (a : Nat) (x o : α) : (G.set a x ++ S).set G.length o = G.set a x ++ S.set 0 o := by
  have := sn0 (G.set a x) S o
  rwa [List.length_set] at this
@[simp] theorem ssk (G S : List α) (a : Nat) (x : α) (k : Nat) (o : α) : (G.set a x ++ S).set (G.length + k) o = G.set a x ++ S.set k o := by
  have := snk (G.set a x) S k o
  rwa [List.length_set] at this
@[simp] theorem go (G S : List α) (a : Nat) (h : a < G.length) : (G ++ S)[a]? = G[a]? := List.getElem?_append_left h
@[simp] theorem gso (G S : List α) (b : Nat) (x : α) (a : Nat) (h : a < G.length) : (G.set b x ++ S)[a]? = (G.set b x)[a]? := List.getElem?_append_left (by rwa [List.length_set])
@[simp] theorem so (G S : List α) (a : Nat) (o : α) (h : a < G.length) : (G ++ S).set a o = G.set a o ++ S := List.set_append_left _ _ h
@[simp] theorem sso (G S : List α) (b : Nat) (x : α) (a : Nat) (o : α) (h : a < G.length) : (G.set b x ++ S).set a o = (G.set b x).set a o ++ S := List.set_append_left _ _ (by rwa [List.length_set])
end
theorem step_nx {X : Option R} {N B : St → Hz → Prop} {Rt : V → Hz → Prop} {σ : St} {G : Hz} (h : X = some (.nx σ G)) (n : N σ G) : ∃ r, X = some r ∧ After N B Rt r := ⟨_, h, n⟩
theorem step_ct {X : Option R} {N B : St → Hz → Prop} {Rt : V → Hz → Prop} {σ : St} {G : Hz} (h : X = some (.ct σ G)) (n : N σ G) : ∃ r, X = some r ∧ After N B Rt r := ⟨_, h, n⟩
theorem step_bk {X : Option R} {N B : St → Hz → Prop} {Rt : V → Hz → Prop} {σ : St} {G : Hz} (h : X = some (.bk σ G)) (n : B σ G) : ∃ r, X = some r ∧ After N B Rt r := ⟨_, h, n⟩
theorem step_rt {X : Option R} {N B : St → Hz → Prop} {Rt : V → Hz → Prop} {v : V} {G : Hz} (h : X = some (.rt v G)) (n : Rt v G) : ∃ r, X = some r ∧ After N B Rt r := ⟨_, h, n⟩
theorem small62_of' {i : Int} (h : -1000000 ≤ i) (k : i ≤ 1000000) : small62 i = true := by
  unfold small62
  have : (2:Int)^62 = 4611686018427387904 := by decide +kernel
  rw [this]
  exact decide_eq_true (by omega)
theorem rng1_nat {G : Hz} (n : Nat) (h : n < 1000000) : rng1 [.int (n : Int)] G = some (itR 0 n, G) := by
  show (if small62 (n : Int) = true then some (itR 0 (n : Int).toNat, G) else none) = _
  rw [if_pos (small62_of' (by omega) (by omega))]
  rfl
theorem rng1_int {G : Hz} {i : Int} (n : Nat) (e : i = n) (h : n < 1000000) : rng1 [.int i] G = some (itR 0 n, G) := by
  rw [e, rng1_nat n h]
theorem rng2_int {G : Hz} {i j : Int} (n : Nat) (e : j = i + n) (h : n < 1000000) (l : -1000 ≤ i) (k : i ≤ 1000) (q : j ≤ 1000000) : rng2 [.int i, .int j] G = some (itR i n, G) := by
  show (if small62 i = true ∧ small62 j = true then some (itR i (j - i).toNat, G) else none) = _
  rw [if_pos ⟨small62_of' (by omega) (by omega), small62_of' (by omega) (by omega)⟩]
  rw [show (j - i).toNat = n by omega]
theorem popI_nat {xs : List V} {q : Nat} (h : q < xs.length) (hl : xs.length ≤ 1000000) : popI xs (q : Int) = some q := by
  have e : (2:Int)^63 = 9223372036854775808 := by decide +kernel
  unfold popI
  rw [e, if_pos (by omega), seqIndex_of (by omega) (by omega)]
  rfl
theorem popI_zero {xs : List V} (h : 0 < xs.length) (hl : xs.length ≤ 1000000) : popI xs 0 = some 0 := popI_nat (q := 0) h hl
section
variable {α : Type}
@[simp] theorem tn (G S : List α) (k : Nat) : (G ++ S).take (G.length + k) = G ++ S.take k := by rw [List.take_append, List.take_of_length_le (Nat.le_add_right _ _), Nat.add_sub_cancel_left]
@[simp] theorem ts (G S : List α) (a : Nat) (x : α) (k : Nat) : (G.set a x ++ S).take (G.length + k) = G.set a x ++ S.take k := by
  have := tn (G.set a x) S k
  rwa [List.length_set] at this
end
theorem perm_move {l f : List Int} {q : Nat} (h : q < l.length) : (l.eraseIdx q ++ (f ++ [l[q]])).Perm (l ++ f) := by
  have h1 : (l[q] :: l.eraseIdx q).Perm l := by
    rw [List.eraseIdx_eq_take_drop_succ]
    refine List.perm_middle.symm.trans ?_
    rw [← List.drop_eq_getElem_cons h, List.take_append_drop]
  refine List.Perm.trans ?_ (h1.append_right f)
  rw [← List.append_assoc]
  exact List.perm_append_comm.trans (by simp [-Option.bind_some, -List.map_take, -List.map_drop, -List.map_append, -List.map_reverse, -List.map_set, -List.map_dropLast, -getElem?_pos])
end Zl

/-! Zl, part 16: reckoning with ranges, dicts, packs of new objects. -/
namespace Zl
open PySem L2
section
variable {σ : St} {G : Hz} {α β : Type}
@[simp] theorem cIsB_bb (i j : Bool) : cIsB (.bl i) (.bl j) G = some (.bl (decide (i = j)), G) := nr rfl
@[simp] theorem cNotB_bb (i j : Bool) : cNotB (.bl i) (.bl j) G = some (.bl (!decide (i = j)), G) := nr rfl
def irange (a : Int) (n : Nat) : List Int := (List.range n).map fun (i : Nat) => a + (i : Int)
@[simp] theorem irange_length (a : Int) (n : Nat) : (irange a n).length = n := by simp [-Option.bind_some, -List.map_take, -List.map_drop, -List.map_append, -List.map_reverse, -List.map_set, -List.map_dropLast, -getElem?_pos, irange]
theorem mem_irange {a i : Int} {n : Nat} : i ∈ irange a n ↔ a ≤ i ∧ i < a + n := by
  unfold irange
  simp only [List.mem_map, List.mem_range]
  constructor
  · rintro ⟨k, hk, rfl⟩
    omega
  · intro h
    exact ⟨(i - a).toNat, by omega, by omega⟩
theorem irange_succ (a : Int) (n : Nat) : irange a (n + 1) = irange a n ++ [a + (n : Int)] := by
  unfold irange
  rw [List.range_succ, List.map_append]
  rfl
theorem rgV_irange (a b : Int) : rgV a b = (irange a (b - a).toNat).map V.int := by
  unfold rgV irange
  rw [List.map_map]
  rfl
def lr1A : V × Hz → Option (V × Hz)
  | (.int n, H) => lrg 0 n H
  | _ => none
@[simp] theorem lr1A_ev (n : Int) (H : Hz) : lr1A (.int n, H) = lrg 0 n H := nr rfl
@[simp] theorem eListR1_ev (a : ME) : eListR1 a σ G = (a σ G).bind lr1A := by
  unfold eListR1
  congr 1
  funext p
  rcases p with ⟨v, H⟩
  cases v <;> rfl
def lr2B (x : V) : V × Hz → Option (V × Hz)
  | (.int j, H) => match x with
    | .int i => lrg i j H
    | _ => none
  | _ => none
@[simp] theorem lr2B_ev (i j : Int) (H : Hz) : lr2B (.int i) (.int j, H) = lrg i j H := nr rfl
def lr2A (b : ME) (σ : St) : V × Hz → Option (V × Hz) := fun p => (b σ p.2).bind (lr2B p.1)
@[simp] theorem lr2A_ev (b : ME) (σ : St) (x : V) (H : Hz) : lr2A b σ (x, H) = (b σ H).bind (lr2B x) := nr rfl
@[simp] theorem eListR2_ev (a b : ME) : eListR2 a b σ G = (a σ G).bind (lr2A b σ) := by
  unfold eListR2
  congr 1
  funext p
  rcases p with ⟨v, H⟩
  show _ = (b σ H).bind (lr2B v)
  congr 1
  funext q
  rcases q with ⟨u, H2⟩
  cases v <;> cases u <;> rfl
theorem lrg_ok {i j : Int} (n : Nat) (e : j - i = n ∨ (j - i ≤ 0 ∧ n = 0)) (h1 : -1000000 ≤ i) (h2 : i ≤ 1000000) (h3 : -1000000 ≤ j) (h4 : j ≤ 1000000) : lrg i j G = some (.ref G.length, G ++ [.lst ((irange i n).map V.int)]) := by
  have en : (j - i).toNat = n := by omega
  unfold lrg
  have z : okRg i j = true := by
    unfold okRg
    rw [small62_of' h1 h2, small62_of' h3 h4, Bool.true_and, Bool.true_and]
    exact decide_eq_true (by have : (2:Nat)^24 = 16777216 := by decide
                             omega)
  rw [if_pos z, alloc_ev, rgV_irange, en]
def rvA (H : Hz) : List V → Option (V × Hz) := fun xs => some (.ref H.length, H ++ [.lst xs.reverse])
@[simp] theorem rvA_ev (H : Hz) (xs : List V) : rvA H xs = some (.ref H.length, H ++ [.lst xs.reverse]) := nr rfl
@[simp] theorem fRev_r (a : Nat) : fRev (.ref a) G = (lstO G[a]?).bind (rvA G) := by
  show (match G[a]? with | some (.lst xs) => alloc (.lst xs.reverse) G | _ => none) = _
  cases G[a]? with
  | none => rfl
  | some o => cases o <;> rfl
def catB (xs : List V) (H : Hz) : List V → Option (V × Hz) := fun ys => if xs.length + ys.length ≤ sizeLine then some (.ref H.length, H ++ [.lst (xs ++ ys)]) else none
@[simp] theorem catB_ev (xs ys : List V) (H : Hz) : catB xs H ys = if xs.length + ys.length ≤ sizeLine then some (.ref H.length, H ++ [.lst (xs ++ ys)]) else none := nr rfl
def catA (b : Nat) (H : Hz) : List V → Option (V × Hz) := fun xs => (lstO H[b]?).bind (catB xs H)
@[simp] theorem catA_ev (b : Nat) (H : Hz) (xs : List V) : catA b H xs = (lstO H[b]?).bind (catB xs H) := nr rfl
@[simp] theorem bAdd_rr (a b : Nat) : bAdd (.ref a) (.ref b) G = (lstO G[a]?).bind (catA b G) := by
  show (match G[a]?, G[b]? with | some (.lst xs), some (.lst ys) => if xs.length + ys.length ≤ sizeLine then alloc (.lst (xs ++ ys)) G else none | _, _ => none) = _
  cases G[a]? with
  | none => rfl
  | some o =>
    cases o <;> try rfl
    rename_i xs
    show _ = (lstO G[b]?).bind (catB xs G)
    cases G[b]? with
    | none => rfl
    | some u => cases u <;> rfl
@[simp] theorem eDct0_ev : eDct0 σ G = some (.ref G.length, G ++ [.dK []]) := nr rfl
def dkO : Option O → Option (List (Key × V))
  | some (.dK kvs) => some kvs
  | _ => none
@[simp] theorem dkO_dK (kvs : List (Key × V)) : dkO (some (.dK kvs)) = some kvs := nr rfl
def xdkA (k : Key) (H : Hz) : List (Key × V) → Option (V × Hz) := fun kvs => (valV kvs k).bind (ixB H)
@[simp] theorem xdkA_ev (k : Key) (H : Hz) (kvs : List (Key × V)) : xdkA k H kvs = (valV kvs k).bind (ixB H) := nr rfl
@[simp] theorem xDK_ri (a : Nat) (i : Int) : xDK (.ref a) (.int i) G = (dkO G[a]?).bind (xdkA (.inl i) G) := by
  show (match G[a]? with | some (.dK kvs) => (keyOf (.int i)).bind fun k => (valV kvs k).bind fun v => some (v, G) | _ => none) = _
  cases G[a]? with
  | none => rfl
  | some o => cases o <;> rfl
@[simp] theorem xDK_rs (a : Nat) (i : Str) : xDK (.ref a) (.str i) G = (dkO G[a]?).bind (xdkA (.inr i) G) := by
  show (match G[a]? with | some (.dK kvs) => (keyOf (.str i)).bind fun k => (valV kvs k).bind fun v => some (v, G) | _ => none) = _
  cases G[a]? with
  | none => rfl
  | some o => cases o <;> rfl
def pdA (a : Nat) (k : Key) (v : V) (H : Hz) : List (Key × V) → Option Hz := fun kvs => if kvs.length < sizeLine then some (H.set a (.dK (putK kvs k v))) else none
@[simp] theorem pdA_ev (a : Nat) (k : Key) (v : V) (H : Hz) (kvs : List (Key × V)) : pdA a k v H kvs = if kvs.length < sizeLine then some (H.set a (.dK (putK kvs k v))) else none := nr rfl
@[simp] theorem pDct_ri (a : Nat) (i : Int) (v : V) : pDct (.ref a) (.int i) v G = (dkO G[a]?).bind (pdA a (.inl i) v G) := by
  show (match G[a]? with | some (.dK kvs) => (keyOf (.int i)).bind fun k => if kvs.length < sizeLine then some (G.set a (.dK (putK kvs k v))) else none | _ => none) = _
  cases G[a]? with
  | none => rfl
  | some o => cases o <;> rfl
def dpB (H : Hz) : List (Key × V) → Option (V × Hz) := fun kvs => some (.ref H.length, H ++ [.dK (mergeK [] kvs)])
@[simp] theorem dpB_ev (H : Hz) (kvs : List (Key × V)) : dpB H kvs = some (.ref H.length, H ++ [.dK (mergeK [] kvs)]) := nr rfl
def dpA (H : Hz) : List V → Option (V × Hz) := fun xs => (mapO (pairO H) xs).bind (dpB H)
@[simp] theorem dpA_ev (H : Hz) (xs : List V) : dpA H xs = (mapO (pairO H) xs).bind (dpB H) := nr rfl
@[simp] theorem fDictP_r (a : Nat) : fDictP [.ref a] G = (lstO G[a]?).bind (dpA G) := by
  show (match G[a]? with | some (.lst xs) => (mapO (pairO G) xs).bind fun kvs => alloc (.dK (mergeK [] kvs)) G | _ => none) = _
  cases G[a]? with
  | none => rfl
  | some o => cases o <;> rfl
end
@[simp] theorem cutV_to_succ (xs : List V) (k : Nat) : cutV xs none (some ((k : Int) + 1)) = xs.take (k + 1) := by
  have := cutV_to_cast xs (k + 1)
  rwa [Int.natCast_add] at this
@[simp] theorem cutV_from_succ (xs : List V) (k : Nat) : cutV xs (some ((k : Int) + 1)) none = xs.drop (k + 1) := by
  have := cutV_from_cast xs (k + 1)
  rwa [Int.natCast_add] at this
@[simp] theorem atI_succ {α : Type} (xs : List α) (k : Nat) : atI xs ((k : Int) + 1) = xs[k + 1]? := by
  have := atI_cast xs (k + 1)
  rwa [Int.natCast_add] at this
@[simp] theorem nlt_add (n k : Nat) : (n + k < n) = False := by
  have : ¬ n + k < n := by omega
  exact eq_false this
@[simp] theorem nlt_add2 (n k j : Nat) : (n + k + j < n) = False := by
  have : ¬ n + k + j < n := by omega
  exact eq_false this
@[simp] theorem gnkk {α : Type} (G S : List α) (k j : Nat) : (G ++ S)[G.length + k + j]? = S[k + j]? := by rw [Nat.add_assoc, gnk]
/-! ### dicts by int keys -/
theorem valV_ints {ns : List Int} {f : Int → V} (m : Int) : valV (ns.map fun n => (Sum.inl n, f n)) (Sum.inl m : Key) = if m ∈ ns then some (f m) else none := by
  induction ns with
  | nil => rfl
  | cons n ns ih =>
    by_cases h : n = m
    · subst h
      rw [List.map_cons, valV_pos rfl, if_pos (List.mem_cons_self ..)]
    · rw [List.map_cons, valV_neg (fun z => h (Sum.inl.inj z)), ih]
      by_cases q : m ∈ ns
      · rw [if_pos q, if_pos (List.mem_cons_of_mem _ q)]
      · rw [if_neg q, if_neg (fun z => by rcases List.mem_cons.mp z with z | z; exact h z.symm; exact q z)]
theorem valV_none {kvs : List (Key × V)} {k : Key} (h : k ∉ kvs.map (·.1)) : valV kvs k = none := by
  induction kvs with
  | nil => rfl
  | cons p kvs ih =>
    rw [List.map_cons, List.mem_cons, not_or] at h
    rw [valV_neg (fun z => h.1 z.symm), ih h.2]
theorem mergeK_nodup : ∀ (more kvs : List (Key × V)), ((kvs ++ more).map (·.1)).Nodup → mergeK kvs more = kvs ++ more
  | [], kvs, _ => by rw [List.append_nil]; rfl
  | p :: more, kvs, h => by
    show mergeK (putK kvs p.1 p.2) more = _
    have hn : p.1 ∉ kvs.map (·.1) := fun hm => by
      rw [List.map_append, List.map_cons] at h
      exact (List.nodup_append.mp h).2.2 _ hm _ (List.mem_cons_self ..) rfl
    rw [putK_new _ (valV_none hn), mergeK_nodup more, List.append_assoc]
    · rfl
    · rw [List.append_assoc]
      exact h
theorem mergeK_ints {ns : List Int} (h : ns.Nodup) (f : Int → V) : mergeK [] (ns.map fun n => (Sum.inl n, f n)) = ns.map fun n => ((Sum.inl n : Key), f n) := by
  rw [mergeK_nodup, List.nil_append]
  rw [List.nil_append, List.map_map]
  exact h.map _ fun a b hab e => hab (Sum.inl.inj e)
/-! ### reading places that stay -/
theorem get_app {G S : Hz} {a : Nat} {o : O} (h : G[a]? = some o) : (G ++ S)[a]? = some o := by rw [List.getElem?_append_left (lt_get h), h]
theorem rd_app {G S : Hz} : ∀ {k : Nat} {v : V} {d : PyData}, rdD k G v = some d → rdD k (G ++ S) v = some d
  | 0, v, d, h => by cases v <;> first | exact h | cases h
  | k + 1, v, d, h => by
    have ih : ∀ {v d}, rdD k G v = some d → rdD k (G ++ S) v = some d := fun h => rd_app h
    have mp : ∀ {xs : List V} {ds : List PyData}, mapO (rdD k G) xs = some ds → mapO (rdD k (G ++ S)) xs = some ds := by
      intro xs
      induction xs with
      | nil => intro ds h; exact h
      | cons x xs ihx =>
        intro ds h
        obtain ⟨y, e1, h⟩ := bnd h
        obtain ⟨ys, e2, h⟩ := bnd h
        cases h
        rw [mapO_cons, ih e1, ihx e2]
        rfl
    have mpK : ∀ {xs : List (Key × V)} {ds : List (PyData × PyData)}, mapO (fun (p : Key × V) => (rdD k G p.2).bind fun d => some ((match p.1 with | .inl i => PyData.int i | .inr s => PyData.str s), d)) xs = some ds →
        mapO (fun (p : Key × V) => (rdD k (G ++ S) p.2).bind fun d => some ((match p.1 with | .inl i => PyData.int i | .inr s => PyData.str s), d)) xs = some ds := by
      intro xs
      induction xs with
      | nil => intro ds h; exact h
      | cons x xs ihx =>
        intro ds h
        obtain ⟨y, e1, h⟩ := bnd h
        obtain ⟨ys, e2, h⟩ := bnd h
        cases h
        obtain ⟨z, e3, e1⟩ := bnd e1
        cases e1
        rw [mapO_cons, ih e3, ihx e2]
        rfl
    cases v with
    | ref a =>
      unfold rdD at h ⊢
      split at h
      · rename_i q
        rw [get_app q]
        obtain ⟨ds, e1, h⟩ := bnd h
        cases h
        dsimp only
        rw [mp e1]
        rfl
      · rename_i q
        rw [get_app q]
        obtain ⟨ds, e1, h⟩ := bnd h
        cases h
        dsimp only
        rw [mp e1]
        rfl
      · rename_i q
        rw [get_app q]
        obtain ⟨ds, e1, h⟩ := bnd h
        cases h
        exact Eq.trans (congrArg (fun o => Option.bind o fun ds => some (PyData.dict ds)) (mpK e1)) rfl
      · cases h
    | _ => first | exact h | cases h
end Zl

/-! Zl, part 17: lists whose items bring new objects. -/
namespace Zl
open PySem L2
section
variable {α β : Type}
/-- F b x: the item's value, and the new objects from place b on -/
def packC (F : Nat → α → V × List O) : Nat → List α → List V × List O
  | _, [] => ([], [])
  | b, x :: xs => ((F b x).1 :: (packC F (b + (F b x).2.length) xs).1, (F b x).2 ++ (packC F (b + (F b x).2.length) xs).2)
theorem packC_length (F : Nat → α → V × List O) : ∀ (b : Nat) (xs : List α), (packC F b xs).1.length = xs.length
  | _, [] => rfl
  | b, x :: xs => by
    show ((F b x).1 :: (packC F (b + (F b x).2.length) xs).1).length = _
    rw [List.length_cons, packC_length F _ xs, List.length_cons]
theorem packC_snoc (F : Nat → α → V × List O) (x : α) : ∀ (b : Nat) (xs : List α), packC F b (xs ++ [x]) = ((packC F b xs).1 ++ [(F (b + (packC F b xs).2.length) x).1], (packC F b xs).2 ++ (F (b + (packC F b xs).2.length) x).2)
  | b, [] => by
    show ((F b x).1 :: [], (F b x).2 ++ []) = ([(F (b + 0) x).1], (F (b + 0) x).2)
    rw [List.append_nil, Nat.add_zero]
  | b, y :: xs => by
    show ((F b y).1 :: (packC F (b + (F b y).2.length) (xs ++ [x])).1, (F b y).2 ++ (packC F (b + (F b y).2.length) (xs ++ [x])).2) = _
    rw [packC_snoc F x _ xs]
    show _ = ((F b y).1 :: (packC F (b + (F b y).2.length) xs).1 ++ [(F (b + ((F b y).2 ++ (packC F (b + (F b y).2.length) xs).2).length) x).1], (F b y).2 ++ (packC F (b + (F b y).2.length) xs).2 ++ (F (b + ((F b y).2 ++ (packC F (b + (F b y).2.length) xs).2).length) x).2)
    rw [List.length_append, ← Nat.add_assoc, List.append_assoc]
    rfl
theorem pack_read {f : Hz → V → Option β} {F : Nat → α → V × List O} {d : α → β} (G : Hz) : ∀ (xs : List α), (∀ x ∈ xs, ∀ S T : List O, f (G ++ S ++ (F (G ++ S).length x).2 ++ T) (F (G ++ S).length x).1 = some (d x)) →
    ∀ S T : List O, mapO (f (G ++ S ++ (packC F (G ++ S).length xs).2 ++ T)) (packC F (G ++ S).length xs).1 = some (xs.map d)
  | [], _, _, _ => rfl
  | x :: xs, h, S, T => by
    have h1 := h x (List.mem_cons_self ..) S ((packC F ((G ++ S).length + (F (G ++ S).length x).2.length) xs).2 ++ T)
    have h2 := pack_read G xs (fun y hy => h y (List.mem_cons_of_mem _ hy)) (S ++ (F (G ++ S).length x).2) T
    have el : (G ++ (S ++ (F (G ++ S).length x).2)).length = (G ++ S).length + (F (G ++ S).length x).2.length := by
      rw [← List.append_assoc, List.length_append]
    rw [el] at h2
    show mapO (f (G ++ S ++ ((F (G ++ S).length x).2 ++ (packC F ((G ++ S).length + (F (G ++ S).length x).2.length) xs).2) ++ T)) ((F (G ++ S).length x).1 :: (packC F ((G ++ S).length + (F (G ++ S).length x).2.length) xs).1) = _
    have eq1 : G ++ S ++ ((F (G ++ S).length x).2 ++ (packC F ((G ++ S).length + (F (G ++ S).length x).2.length) xs).2) ++ T = G ++ S ++ (F (G ++ S).length x).2 ++ ((packC F ((G ++ S).length + (F (G ++ S).length x).2.length) xs).2 ++ T) := by
      simp only [List.append_assoc]
    have eq2 : G ++ S ++ ((F (G ++ S).length x).2 ++ (packC F ((G ++ S).length + (F (G ++ S).length x).2.length) xs).2) ++ T = G ++ (S ++ (F (G ++ S).length x).2) ++ (packC F ((G ++ S).length + (F (G ++ S).length x).2.length) xs).2 ++ T := by
      simp only [List.append_assoc]
    rw [mapO_cons]
    rw [show f (G ++ S ++ ((F (G ++ S).length x).2 ++ (packC F ((G ++ S).length + (F (G ++ S).length x).2.length) xs).2) ++ T) (F (G ++ S).length x).1 = some (d x) from by rw [eq1]; exact h1]
    rw [eq2, h2]
    rfl
end
/-- a comprehension whose items bring new objects -/
theorem comp_pack {n : Nat} {cm : Bool} {w : MI} {vs : List Nat} {g : MG} {t : MT} {e : ME} {σ : St} {G G0 : Hz} {it : MIt} (xs : List V) (p : V → Bool) (F : Nat → V → V × List O) (hw : w σ G = some (it, G0)) (hy : Yl it G0 xs) (hn : xs.length < n) (hs : xs.length ≤ sizeLine)
    (ht : ∀ x ∈ xs, ∀ (acc : List V) (S : List O), ∃ σx, g x (wipe σ vs) (G0 ++ .lst acc :: S) = some (σx, G0 ++ .lst acc :: S) ∧ t σx (G0 ++ .lst acc :: S) = some (p x, G0 ++ .lst acc :: S) ∧
      (p x = true → (if cm = true then (e σx (G0 ++ .lst acc :: S)).bind fun r => cut (G0 ++ .lst acc :: S) r.1 r.2 else e σx (G0 ++ .lst acc :: S)) = some ((F (G0 ++ .lst acc :: S).length x).1, (G0 ++ .lst acc :: S) ++ (F (G0 ++ .lst acc :: S).length x).2))) :
    eComp n cm w vs g t e σ G = some (.ref G0.length, G0 ++ .lst (packC F (G0.length + 1) (xs.filter p)).1 :: (packC F (G0.length + 1) (xs.filter p)).2) := by
  unfold eComp
  rw [hw]
  simp only [Option.bind_some]
  have key := loopC_gen (it := it) (turn := turnC cm g t e G0.length (wipe σ vs)) (k := xs.length) (fun i G => G = G0 ++ .lst (packC F (G0.length + 1) ((xs.take i).filter p)).1 :: (packC F (G0.length + 1) ((xs.take i).filter p)).2) (fun i G hi hI => by
    subst hI
    have hx : xs[i] ∈ xs := List.getElem_mem hi
    have et : xs.take (i + 1) = xs.take i ++ [xs[i]] := by rw [List.take_succ, List.getElem?_eq_getElem hi]; rfl
    have hlen := packC_length F (G0.length + 1) ((xs.take i).filter p)
    obtain ⟨σx, h1, h2, h3⟩ := ht _ hx (packC F (G0.length + 1) ((xs.take i).filter p)).1 (packC F (G0.length + 1) ((xs.take i).filter p)).2
    have yl : it i (G0 ++ .lst (packC F (G0.length + 1) ((xs.take i).filter p)).1 :: (packC F (G0.length + 1) ((xs.take i).filter p)).2) = some (some (xs[i], G0 ++ .lst (packC F (G0.length + 1) ((xs.take i).filter p)).1 :: (packC F (G0.length + 1) ((xs.take i).filter p)).2)) := by
      rw [hy i, List.getElem?_eq_getElem hi]
      rfl
    refine ⟨xs[i], _, _, yl, ?_, rfl⟩
    unfold turnC
    rw [h1]
    simp only [Option.bind_some, h2]
    cases q : p xs[i] with
    | false =>
      have ef : (xs.take (i + 1)).filter p = (xs.take i).filter p := by
        rw [et, List.filter_append, List.filter_cons, q]
        simp [-Option.bind_some, -List.map_take, -List.map_drop, -List.map_append, -List.map_reverse, -List.map_set, -List.map_dropLast, -getElem?_pos]
      rw [ef]
      cases cm <;> simp [-Option.bind_some, -List.map_take, -List.map_drop, -List.map_append, -List.map_reverse, -List.map_set, -List.map_dropLast, -getElem?_pos]
    | true =>
      have ef : (xs.take (i + 1)).filter p = (xs.take i).filter p ++ [xs[i]] := by
        rw [et, List.filter_append, List.filter_cons, q]
        simp [-Option.bind_some, -List.map_take, -List.map_drop, -List.map_append, -List.map_reverse, -List.map_set, -List.map_dropLast, -getElem?_pos]
      have h4 := h3 q
      rw [ef, packC_snoc]
      have hl : (packC F (G0.length + 1) ((xs.take i).filter p)).1.length < sizeLine := by
        rw [hlen]
        have := List.length_filter_le p (xs.take i)
        rw [List.length_take] at this
        omega
      have hb : (G0 ++ O.lst (packC F (G0.length + 1) ((xs.take i).filter p)).1 :: (packC F (G0.length + 1) ((xs.take i).filter p)).2).length = G0.length + 1 + (packC F (G0.length + 1) ((xs.take i).filter p)).2.length := by
        rw [List.length_append, List.length_cons]
        omega
      rw [hb] at h4
      generalize (packC F (G0.length + 1) ((xs.take i).filter p)).1 = A at hl h4 ⊢
      generalize (packC F (G0.length + 1) ((xs.take i).filter p)).2 = S at h4 ⊢
      generalize F (G0.length + 1 + S.length) xs[i] = vo at h4 ⊢
      obtain ⟨v, os⟩ := vo
      have fin : ((some (v, G0 ++ O.lst A :: S ++ os) : Option (V × Hz)).bind fun s => match s.2[G0.length]? with
          | some (.lst acc) => if acc.length < sizeLine then some (s.2.set G0.length (.lst (acc ++ [s.1]))) else none
          | _ => none) = some (G0 ++ O.lst (A ++ [v]) :: (S ++ os)) := by
        simp only [Option.bind_some]
        have e1 : (G0 ++ O.lst A :: S ++ os)[G0.length]? = some (.lst A) := by
          rw [List.append_assoc, List.getElem?_append_right (Nat.le_refl _), Nat.sub_self]
          rfl
        rw [e1]
        simp only [if_pos hl]
        rw [List.append_assoc, List.set_append_right _ _ (Nat.le_refl _), Nat.sub_self]
        rfl
      cases cm with
      | false =>
        simp only [if_true, Bool.false_eq_true, if_false] at h4 ⊢
        rw [h4]
        exact fin
      | true =>
        simp only [if_true] at h4 ⊢
        cases he : e σx (G0 ++ O.lst A :: S) with
        | none => rw [he] at h4; cases h4
        | some r =>
          rw [he] at h4
          simp only [Option.bind_some] at h4 ⊢
          rw [h4]
          exact fin) (fun G hI => by
    subst hI
    rw [hy xs.length, List.getElem?_eq_none (Nat.le_refl _)]
    rfl) n 0 (G0 ++ [.lst []]) (Nat.zero_le _) rfl (by omega)
  obtain ⟨G', e1, e2⟩ := key
  rw [e1, e2, List.take_length]
  rfl
/-! ### in, of ints -/
theorem inV_ints (x : Int) (ns : List Int) : inV (.int x) (ns.map V.int) = decide (x ∈ ns) := by
  unfold inV
  rw [List.any_map]
  induction ns with
  | nil => rfl
  | cons n ns ih =>
    rw [List.any_cons, ih]
    show ((n == x) || decide (x ∈ ns)) = _
    by_cases h : n = x
    · subst h
      simp [-Option.bind_some, -List.map_take, -List.map_drop, -List.map_append, -List.map_reverse, -List.map_set, -List.map_dropLast, -getElem?_pos]
    · have h2 : ¬ x = n := fun z => h z.symm
      simp [-Option.bind_some, -List.map_take, -List.map_drop, -List.map_append, -List.map_reverse, -List.map_set, -List.map_dropLast, -getElem?_pos, h, h2]
theorem flat_ints (ns : List Int) : (ns.map V.int).all flatV = true := List.all_eq_true.mpr fun v hv => by
  obtain ⟨i, _, rfl⟩ := List.mem_map.mp hv
  rfl
theorem cIn_ints {G : Hz} {a : Nat} {ns : List Int} (x : Int) (h : G[a]? = some (.lst (ns.map V.int))) : cInG false (.int x) (.ref a) G = some (.bl (decide (x ∈ ns)), G) := by
  simp only [cInG, h, flat_ints, inV_ints]
  simp [-Option.bind_some, -List.map_take, -List.map_drop, -List.map_append, -List.map_reverse, -List.map_set, -List.map_dropLast, -getElem?_pos, flatV]
theorem cNotIn_ints {G : Hz} {a : Nat} {ns : List Int} (x : Int) (h : G[a]? = some (.lst (ns.map V.int))) : cInG true (.int x) (.ref a) G = some (.bl (!decide (x ∈ ns)), G) := by
  simp only [cInG, h, flat_ints, inV_ints]
  simp [-Option.bind_some, -List.map_take, -List.map_drop, -List.map_append, -List.map_reverse, -List.map_set, -List.map_dropLast, -getElem?_pos, flatV]
/-! ### dicts of packed pairs -/
theorem mapO_split {α β γ : Type} {A : α → Option β} {B : β → Option γ} : ∀ {xs : List α} {zs : List γ}, mapO (fun x => (A x).bind B) xs = some zs → ∃ ys, mapO A xs = some ys ∧ mapO B ys = some zs
  | [], _, h => by
    cases h
    exact ⟨[], rfl, rfl⟩
  | x :: xs, zs, h => by
    obtain ⟨z, h1, h⟩ := bnd h
    obtain ⟨zs', h2, h⟩ := bnd h
    cases h
    obtain ⟨y, h3, h4⟩ := bnd h1
    obtain ⟨ys, h5, h6⟩ := mapO_split h2
    refine ⟨y :: ys, ?_, ?_⟩
    · rw [mapO_cons, h3, h5]
      rfl
    · rw [mapO_cons, h4, h6]
      rfl
/-- a dict's entries, as data -/
def entD (k : Nat) (H : Hz) (kv : Key × V) : Option (Key × PyData) := (rdD k H kv.2).bind fun e => some (kv.1, e)
theorem entD_keys {k : Nat} {H : Hz} : ∀ {kvs : List (Key × V)} {L : List (Key × PyData)}, mapO (entD k H) kvs = some L → kvs.map (·.1) = L.map (·.1)
  | [], _, h => by
    cases h
    rfl
  | p :: kvs, L, h => by
    obtain ⟨z, h1, h⟩ := bnd h
    obtain ⟨zs', h2, h⟩ := bnd h
    cases h
    obtain ⟨e, h3, h4⟩ := bnd h1
    cases h4
    rw [List.map_cons, List.map_cons, entD_keys h2]
theorem entD_get {k : Nat} {H : Hz} {ns : List Int} {f : Int → PyData} {row : Int} (hr : row ∈ ns) : ∀ {kvs : List (Key × V)}, mapO (entD k H) kvs = some (ns.map fun n => (Sum.inl n, f n)) → ∃ v, valV kvs (Sum.inl row : Key) = some v ∧ rdD k H v = some (f row) := by
  induction ns with
  | nil => cases hr
  | cons n ns ih =>
    intro kvs h
    cases kvs with
    | nil => cases h
    | cons p kvs =>
      obtain ⟨z, h1, h⟩ := bnd h
      obtain ⟨zs', h2, h⟩ := bnd h
      rw [List.map_cons] at h
      obtain ⟨rfl, rfl⟩ := List.cons.inj (Option.some.inj h)
      obtain ⟨e, h3, h4⟩ := bnd h1
      obtain ⟨h5, h6⟩ := Prod.mk.inj (Option.some.inj h4)
      by_cases q : row = n
      · subst q
        exact ⟨p.2, valV_pos h5, by rw [h3, h6]⟩
      · rw [valV_neg (fun z => q (Sum.inl.inj (h5.symm.trans z)).symm)]
        exact ih (by rcases List.mem_cons.mp hr with z | z; exact absurd z q; exact z) h2
theorem mergeK_keys {kvs : List (Key × V)} (h : (kvs.map (·.1)).Nodup) : mergeK [] kvs = kvs := mergeK_nodup kvs [] h
theorem entD_app {k : Nat} {H S : Hz} {kv : Key × V} {y : Key × PyData} (h : entD k H kv = some y) : entD k (H ++ S) kv = some y := by
  obtain ⟨e, h1, h2⟩ := bnd h
  unfold entD
  rw [rd_app h1]
  exact h2
theorem mapO_mono {α β : Type} {f g : α → Option β} (h : ∀ x y, f x = some y → g x = some y) : ∀ {xs : List α} {ys : List β}, mapO f xs = some ys → mapO g xs = some ys
  | [], _, e => e
  | x :: xs, ys, e => by
    obtain ⟨y, e1, e⟩ := bnd e
    obtain ⟨zs, e2, e⟩ := bnd e
    cases e
    rw [mapO_cons, h _ _ e1, mapO_mono h e2]
    rfl
theorem rd_succ {G : Hz} : ∀ {k : Nat} {v : V} {d : PyData}, rdD k G v = some d → rdD (k + 1) G v = some d
  | 0, v, d, h => by cases v <;> first | exact h | cases h
  | k + 1, v, d, h => by
    have ih : ∀ {v d}, rdD k G v = some d → rdD (k + 1) G v = some d := fun h => rd_succ h
    cases v with
    | ref a =>
      unfold rdD at h ⊢
      split at h
      · obtain ⟨ds, e1, h⟩ := bnd h
        cases h
        try dsimp only
        rw [mapO_mono (fun x y => ih) e1]
        rfl
      · obtain ⟨ds, e1, h⟩ := bnd h
        cases h
        try dsimp only
        rw [mapO_mono (fun x y => ih) e1]
        rfl
      · obtain ⟨ds, e1, h⟩ := bnd h
        cases h
        refine Eq.trans (congrArg (fun o => Option.bind o fun ds => some (PyData.dict ds)) (mapO_mono (fun x y hxy => ?_) e1)) rfl
        obtain ⟨z, e3, e4⟩ := bnd hxy
        cases e4
        show (rdD (k + 1) G x.2).bind _ = _
        rw [ih e3]
        rfl
      · cases h
    | _ => first | exact h | cases h
theorem rd_mono {G : Hz} {k : Nat} {v : V} {d : PyData} (h : rdD k G v = some d) : rdD (k + 1) G v = some d := rd_succ h
end Zl

/-! Zl, part 20: reckoning with enumerate(.., n), ranges down, comprehensions over iterators that make objects. -/
namespace Zl
open PySem L2
section
variable {σ : St} {G : Hz}
def enSB (a : Nat) (k0 : Int) (H : Hz) : List V → Option (MIt × Hz) := fun _ => some (itES a k0, H)
@[simp] theorem enSB_ev (a : Nat) (k0 : Int) (H : Hz) (xs : List V) : enSB a k0 H xs = some (itES a k0, H) := nr rfl
def enSA (k0 : Int) : V × Hz → Option (MIt × Hz)
  | (.ref a, H) => (lstO H[a]?).bind (enSB a k0 H)
  | _ => none
@[simp] theorem enSA_ev (k0 : Int) (a : Nat) (H : Hz) : enSA k0 (.ref a, H) = (lstO H[a]?).bind (enSB a k0 H) := nr rfl
@[simp] theorem iEnumS_ev (k0 : Int) (m : ME) : iEnumS k0 m σ G = (m σ G).bind (enSA k0) := by
  unfold iEnumS
  congr 1
  funext p
  rcases p with ⟨v, H⟩
  cases v <;> try rfl
  rename_i a
  show (match H[a]? with | some (.lst _) => some (itES a k0, H) | _ => none) = (lstO H[a]?).bind (enSB a k0 H)
  cases H[a]? with
  | none => rfl
  | some o => cases o <;> rfl
def g2D (k : Key) (z : V) (H : Hz) : List (Key × V) → Option (V × Hz) := fun kvs => some ((valV kvs k).getD z, H)
@[simp] theorem g2D_ev (k : Key) (z : V) (H : Hz) (kvs : List (Key × V)) : g2D k z H kvs = some ((valV kvs k).getD z, H) := nr rfl
def g2C (a : Nat) (y : V) : V × Hz → Option (V × Hz) := fun r => match keyOf y with
  | some k => (dkO r.2[a]?).bind (g2D k r.1 r.2)
  | none => none
@[simp] theorem g2C_i (a : Nat) (i : Int) (z : V) (H : Hz) : g2C a (.int i) (z, H) = (dkO H[a]?).bind (g2D (.inl i) z H) := nr rfl
@[simp] theorem g2C_s (a : Nat) (i : Str) (z : V) (H : Hz) : g2C a (.str i) (z, H) = (dkO H[a]?).bind (g2D (.inr i) z H) := nr rfl
def g2B (a : Nat) (mx : ME) (σ : St) : V × Hz → Option (V × Hz) := fun q => (mx σ q.2).bind (g2C a q.1)
@[simp] theorem g2B_ev (a : Nat) (mx : ME) (σ : St) (y : V) (H : Hz) : g2B a mx σ (y, H) = (mx σ H).bind (g2C a y) := nr rfl
def g2K (a : Nat) (mk mx : ME) (σ : St) (H : Hz) : List (Key × V) → Option (V × Hz) := fun _ => (mk σ H).bind (g2B a mx σ)
@[simp] theorem g2K_ev (a : Nat) (mk mx : ME) (σ : St) (H : Hz) (kvs : List (Key × V)) : g2K a mk mx σ H kvs = (mk σ H).bind (g2B a mx σ) := nr rfl
def g2A (mk mx : ME) (σ : St) : V × Hz → Option (V × Hz)
  | (.ref a, H) => (dkO H[a]?).bind (g2K a mk mx σ H)
  | _ => none
@[simp] theorem g2A_ev (mk mx : ME) (σ : St) (a : Nat) (H : Hz) : g2A mk mx σ (.ref a, H) = (dkO H[a]?).bind (g2K a mk mx σ H) := nr rfl
@[simp] theorem eGet2_ev (mo mk mx : ME) : eGet2 mo mk mx σ G = (mo σ G).bind (g2A mk mx σ) := by
  unfold eGet2
  congr 1
  funext p
  rcases p with ⟨v, H⟩
  cases v <;> try rfl
  rename_i a
  show (match H[a]? with | some (.dK _) => (mk σ H).bind fun q => (mx σ q.2).bind fun r => (match r.2[a]? with | some (.dK kvs) => (keyOf q.1).bind fun k => some ((valV kvs k).getD r.1, r.2) | _ => none) | _ => none) = (dkO H[a]?).bind (g2K a mk mx σ H)
  cases H[a]? with
  | none => rfl
  | some o =>
    cases o <;> try rfl
    show ((mk σ H).bind fun q => (mx σ q.2).bind fun r => (match r.2[a]? with | some (.dK kvs) => (keyOf q.1).bind fun k => some ((valV kvs k).getD r.1, r.2) | _ => none)) = (mk σ H).bind (g2B a mx σ)
    congr 1
    funext q
    show ((mx σ q.2).bind fun r => (match r.2[a]? with | some (.dK kvs) => (keyOf q.1).bind fun k => some ((valV kvs k).getD r.1, r.2) | _ => none)) = (mx σ q.2).bind (g2C a q.1)
    congr 1
    funext r
    unfold g2C
    cases r.2[a]? with
    | none => cases keyOf q.1 <;> rfl
    | some u => cases u <;> cases keyOf q.1 <;> rfl
def ldB (x : V) : V × Hz → Option (V × Hz)
  | (.int j, H) => match x with
    | .int i => ldg i j H
    | _ => none
  | _ => none
@[simp] theorem ldB_ev (i j : Int) (H : Hz) : ldB (.int i) (.int j, H) = ldg i j H := nr rfl
def ldA (b : ME) (σ : St) : V × Hz → Option (V × Hz) := fun p => (b σ p.2).bind (ldB p.1)
@[simp] theorem ldA_ev (b : ME) (σ : St) (x : V) (H : Hz) : ldA b σ (x, H) = (b σ H).bind (ldB x) := nr rfl
@[simp] theorem eListD_ev (a b : ME) : eListD a b σ G = (a σ G).bind (ldA b σ) := by
  unfold eListD
  congr 1
  funext p
  rcases p with ⟨v, H⟩
  show _ = (b σ H).bind (ldB v)
  congr 1
  funext q
  rcases q with ⟨u, H2⟩
  cases v <;> cases u <;> rfl
def drange (i : Int) (n : Nat) : List Int := (List.range n).map fun (k : Nat) => i - (k : Int)
theorem ldg_ok {i j : Int} (n : Nat) (e : i - j = n ∨ (i - j ≤ 0 ∧ n = 0)) (h1 : -1000000 ≤ i) (h2 : i ≤ 1000000) (h3 : -1000000 ≤ j) (h4 : j ≤ 1000000) : ldg i j G = some (.ref G.length, G ++ [.lst ((drange i n).map V.int)]) := by
  have en : (i - j).toNat = n := by omega
  have h24 : (2:Nat)^24 = 16777216 := by decide
  unfold ldg
  rw [if_pos ⟨small62_of' h1 h2, small62_of' h3 h4, by omega⟩, alloc_ev, en]
  unfold dgV drange
  rw [List.map_map]
  rfl
end
theorem itE_ev {G : Hz} {a : Nat} {xs : List V} (h : G[a]? = some (.lst xs)) (i : Nat) : itE a i G = some (xs[i]?.map fun x => (.ref G.length, G ++ [.tup [.int (i : Int), x]])) := by
  unfold itE
  rw [h]
theorem itES_ev {G : Hz} {a : Nat} {k0 : Int} {xs : List V} (h : G[a]? = some (.lst xs)) (i : Nat) : itES a k0 i G = some (xs[i]?.map fun x => (.ref G.length, G ++ [.tup [.int (k0 + (i : Int)), x]])) := by
  unfold itES
  rw [h]
/-- a comprehension with cuts: what a turn makes is thrown away, the item is an atom or old -/
theorem comp_cut {n : Nat} {w : MI} {vs : List Nat} {g : MG} {t : MT} {e : ME} {σ : St} {G G0 : Hz} {it : MIt} (k : Nat) (p : Nat → Bool) (F : Nat → V) (hw : w σ G = some (it, G0)) (hn : k < n) (hs : k ≤ sizeLine)
    (hend : ∀ acc : List V, it k (G0 ++ [.lst acc]) = some none)
    (ht : ∀ i, i < k → ∀ acc : List V, ∃ x G1 σx H1 H2, it i (G0 ++ [.lst acc]) = some (some (x, G1)) ∧ g x (wipe σ vs) G1 = some (σx, H1) ∧ t σx H1 = some (p i, H2) ∧
      (p i = true → ∃ H3, e σx H2 = some (F i, H3) ∧ cut (G0 ++ [.lst acc]) (F i) H3 = some (F i, G0 ++ [.lst acc])) ∧ (p i = false → keptB (G0.length + 1) (G0 ++ [.lst acc]) H2 = true ∧ H2.take (G0.length + 1) = G0 ++ [.lst acc])) :
    eComp n true w vs g t e σ G = some (.ref G0.length, G0 ++ [.lst (((List.range k).filter p).map F)]) := by
  unfold eComp
  rw [hw]
  simp only [Option.bind_some]
  have key := loopC_gen (it := it) (turn := turnC true g t e G0.length (wipe σ vs)) (k := k) (fun i G => G = G0 ++ [.lst (((List.range i).filter p).map F)]) (fun i G hi hI => by
    subst hI
    obtain ⟨x, G1, σx, H1, H2, h1, h2, h3, h4, h5⟩ := ht i hi (((List.range i).filter p).map F)
    have hlen : (G0 ++ [O.lst (((List.range i).filter p).map F)]).length = G0.length + 1 := by simp [-Option.bind_some, -List.map_take, -List.map_drop, -List.map_append, -List.map_reverse, -List.map_set, -List.map_dropLast, -getElem?_pos]
    refine ⟨x, G1, _, h1, ?_, rfl⟩
    unfold turnC
    rw [h2]
    simp only [Option.bind_some, h3]
    cases q : p i with
    | false =>
      have ef : (List.range (i + 1)).filter p = (List.range i).filter p := by
        rw [List.range_succ, List.filter_append, List.filter_cons, q]
        simp [-Option.bind_some, -List.map_take, -List.map_drop, -List.map_append, -List.map_reverse, -List.map_set, -List.map_dropLast, -getElem?_pos]
      obtain ⟨k1, k2⟩ := h5 q
      rw [ef]
      simp only [Bool.false_eq_true, if_false, if_true, hlen, k1, k2]
    | true =>
      have ef : (List.range (i + 1)).filter p = (List.range i).filter p ++ [i] := by
        rw [List.range_succ, List.filter_append, List.filter_cons, q]
        simp [-Option.bind_some, -List.map_take, -List.map_drop, -List.map_append, -List.map_reverse, -List.map_set, -List.map_dropLast, -getElem?_pos]
      obtain ⟨H3, k1, k2⟩ := h4 q
      have hl : (((List.range i).filter p).map F).length < sizeLine := by
        rw [List.length_map]
        have := List.length_filter_le p (List.range i)
        rw [List.length_range] at this
        omega
      rw [ef, List.map_append]
      simp only [if_true, k1, Option.bind_some, k2]
      have e1 : (G0 ++ [O.lst (((List.range i).filter p).map F)])[G0.length]? = some (.lst (((List.range i).filter p).map F)) := by
        rw [List.getElem?_append_right (Nat.le_refl _), Nat.sub_self]
        rfl
      rw [e1]
      simp only [if_pos hl]
      rw [List.set_append_right _ _ (Nat.le_refl _), Nat.sub_self]
      rfl) (fun G hI => by
    subst hI
    exact hend _) n 0 (G0 ++ [.lst []]) (Nat.zero_le _) rfl (by omega)
  obtain ⟨G', e1, e2⟩ := key
  rw [e1, e2]
  rfl
/-- a dict comprehension with cuts, keys ints -/
theorem dcomp_cut {n : Nat} {w : MI} {vs : List Nat} {g : MG} {ek ev : ME} {σ : St} {G G0 : Hz} {it : MIt} (k : Nat) (K : Nat → Int) (F : Nat → V) (hw : w σ G = some (it, G0)) (hn : k < n) (hs : k < sizeLine)
    (hend : ∀ kvs, it k (G0 ++ [.dK kvs]) = some none)
    (ht : ∀ i, i < k → ∀ kvs, ∃ x G1 σx H1 H2 H3, it i (G0 ++ [.dK kvs]) = some (some (x, G1)) ∧ g x (wipe σ vs) G1 = some (σx, H1) ∧ ek σx H1 = some (.int (K i), H2) ∧ ev σx H2 = some (F i, H3) ∧ cut (G0 ++ [.dK kvs]) (F i) H3 = some (F i, G0 ++ [.dK kvs])) :
    eDComp n true w vs g tYesZ ek ev σ G = some (.ref G0.length, G0 ++ [.dK (mergeK [] ((List.range k).map fun i => (Sum.inl (K i), F i)))]) := by
  unfold eDComp
  rw [hw]
  simp only [Option.bind_some]
  have ml : ∀ (more kvs : List (Key × V)), (mergeK kvs more).length ≤ kvs.length + more.length := by
    intro more
    induction more with
    | nil => intro kvs; exact Nat.le_refl _
    | cons p more ih =>
      intro kvs
      have h1 := ih (putK kvs p.1 p.2)
      have h2 := length_putK kvs p.1 p.2
      show (mergeK (putK kvs p.1 p.2) more).length ≤ _
      rw [List.length_cons]
      omega
  have key := loopC_gen (it := it) (turn := turnD true g tYesZ ek ev G0.length (wipe σ vs)) (k := k) (fun i G => G = G0 ++ [.dK (mergeK [] ((List.range i).map fun i => (Sum.inl (K i), F i)))]) (fun i G hi hI => by
    subst hI
    obtain ⟨x, G1, σx, H1, H2, H3, h1, h2, h3, h4, h5⟩ := ht i hi (mergeK [] ((List.range i).map fun i => (Sum.inl (K i), F i)))
    refine ⟨x, G1, _, h1, ?_, rfl⟩
    have hl := ml ((List.range i).map fun i => (Sum.inl (K i), F i)) []
    rw [List.length_map, List.length_range] at hl
    have hm : mergeK [] ((List.range (i + 1)).map fun i => ((Sum.inl (K i) : Key), F i)) = putK (mergeK [] ((List.range i).map fun i => (Sum.inl (K i), F i))) (Sum.inl (K i)) (F i) := by
      rw [List.range_succ, List.map_append]
      unfold mergeK
      rw [List.foldl_append]
      rfl
    rw [hm]
    generalize mergeK [] ((List.range i).map fun i => ((Sum.inl (K i) : Key), F i)) = M at hl h5 ⊢
    unfold turnD
    rw [h2]
    simp only [Option.bind_some, tYesZ, if_true, h3, h4, h5]
    have e1 : (G0 ++ [O.dK M])[G0.length]? = some (.dK M) := by
      rw [List.getElem?_append_right (Nat.le_refl _), Nat.sub_self]
      rfl
    rw [e1]
    simp only [keyOf, Option.bind_some]
    rw [if_pos (by simp only [List.length_nil] at hl; omega)]
    rw [List.set_append_right _ _ (Nat.le_refl _), Nat.sub_self]
    rfl) (fun G hI => by
    subst hI
    exact hend _) n 0 (G0 ++ [.dK []]) (Nat.zero_le _) rfl (by omega)
  obtain ⟨G', e1, e2⟩ := key
  rw [e1, e2]
  rfl
theorem cut_atom {G S : Hz} {v : V} (h : atomV v = true) : cut G v (G ++ S) = some (v, G) := by
  have k := kept_app G.length G G S (kept_refl _ _)
  have t : (G ++ S).take G.length = G := take_len G S G.length rfl
  unfold cut
  rw [if_pos k]
  cases v <;> first | (cases h; done) | (dsimp only; rw [t])
theorem comp_cut1 {n : Nat} {w : MI} {vs : List Nat} {g : MG} {t : MT} {e : ME} {σ : St} {G G0 : Hz} {it : MIt} (k : Nat) (p : Nat → Bool) (F : Nat → V) (hw : w σ G = some (it, G0)) (hn : k < n) (hs : k ≤ sizeLine)
    (hend : ∀ acc : List V, it k (G0 ++ [.lst acc]) = some none)
    (ht : ∀ i, i < k → ∀ acc : List V, ∃ x S σx, it i (G0 ++ [.lst acc]) = some (some (x, G0 ++ .lst acc :: S)) ∧ g x (wipe σ vs) (G0 ++ .lst acc :: S) = some (σx, G0 ++ .lst acc :: S) ∧ t σx (G0 ++ .lst acc :: S) = some (p i, G0 ++ .lst acc :: S) ∧
      (p i = true → e σx (G0 ++ .lst acc :: S) = some (F i, G0 ++ .lst acc :: S) ∧ atomV (F i) = true)) :
    eComp n true w vs g t e σ G = some (.ref G0.length, G0 ++ [.lst (((List.range k).filter p).map F)]) := by
  refine comp_cut k p F hw hn hs hend fun i hi acc => ?_
  obtain ⟨x, S, σx, h1, h2, h3, h4⟩ := ht i hi acc
  have e1 : G0 ++ O.lst acc :: S = (G0 ++ [.lst acc]) ++ S := by simp [-Option.bind_some, -List.map_take, -List.map_drop, -List.map_append, -List.map_reverse, -List.map_set, -List.map_dropLast, -getElem?_pos]
  refine ⟨x, _, σx, _, _, h1, h2, h3, fun q => ⟨_, (h4 q).1, ?_⟩, fun q => ⟨?_, ?_⟩⟩
  · rw [e1]
    exact cut_atom (h4 q).2
  · rw [e1]
    exact kept_app _ _ _ _ (kept_refl _ _)
  · rw [e1]
    exact take_len _ _ _ (by simp [-Option.bind_some, -List.map_take, -List.map_drop, -List.map_append, -List.map_reverse, -List.map_set, -List.map_dropLast, -getElem?_pos])
theorem dcomp_cut1 {n : Nat} {w : MI} {vs : List Nat} {g : MG} {ek ev : ME} {σ : St} {G G0 : Hz} {it : MIt} (k : Nat) (K : Nat → Int) (F : Nat → V) (hw : w σ G = some (it, G0)) (hn : k < n) (hs : k < sizeLine)
    (hend : ∀ kvs, it k (G0 ++ [.dK kvs]) = some none)
    (ht : ∀ i, i < k → ∀ kvs, ∃ x S σx, it i (G0 ++ [.dK kvs]) = some (some (x, G0 ++ .dK kvs :: S)) ∧ g x (wipe σ vs) (G0 ++ .dK kvs :: S) = some (σx, G0 ++ .dK kvs :: S) ∧ ek σx (G0 ++ .dK kvs :: S) = some (.int (K i), G0 ++ .dK kvs :: S) ∧ ev σx (G0 ++ .dK kvs :: S) = some (F i, G0 ++ .dK kvs :: S) ∧ atomV (F i) = true) :
    eDComp n true w vs g tYesZ ek ev σ G = some (.ref G0.length, G0 ++ [.dK (mergeK [] ((List.range k).map fun i => (Sum.inl (K i), F i)))]) := by
  refine dcomp_cut k K F hw hn hs hend fun i hi acc => ?_
  obtain ⟨x, S, σx, h1, h2, h3, h4, h5⟩ := ht i hi acc
  have e1 : G0 ++ O.dK acc :: S = (G0 ++ [.dK acc]) ++ S := by simp [-Option.bind_some, -List.map_take, -List.map_drop, -List.map_append, -List.map_reverse, -List.map_set, -List.map_dropLast, -getElem?_pos]
  refine ⟨x, _, σx, _, _, _, h1, h2, h3, h4, ?_⟩
  rw [e1]
  exact cut_atom h5
end Zl

namespace Zl
open PySem L2
theorem is_integer_int (i lo hi : Int) (G : Hz) : f_is_integer [.int i, .int lo, .int hi] G = some (.bl (decide (lo ≤ i ∧ i ≤ hi)), G) := by
  simp [-Option.bind_some, -List.map_take, -List.map_drop, -List.map_append, -List.map_reverse, -List.map_set, -List.map_dropLast, -getElem?_pos, f_is_integer, m_is_integer, isiT]
  by_cases h : i < lo
  · simp [-Option.bind_some, -List.map_take, -List.map_drop, -List.map_append, -List.map_reverse, -List.map_set, -List.map_dropLast, -getElem?_pos, h]
    omega
  · simp [-Option.bind_some, -List.map_take, -List.map_drop, -List.map_append, -List.map_reverse, -List.map_set, -List.map_dropLast, -getElem?_pos, h]
    omega
theorem is_id_int (i : Int) (G : Hz) : f_is_id [.int i] G = some (.bl (decide (1 ≤ i ∧ i ≤ 1000000000000000000000000000000)), G) := by
  simp [-Option.bind_some, -List.map_take, -List.map_drop, -List.map_append, -List.map_reverse, -List.map_set, -List.map_dropLast, -getElem?_pos, f_is_id, m_is_id, is_integer_int]
/-- an order of ids -/
structure Ord (ns : List Int) : Prop where
  len : ns.length ≤ 30
  rng : ∀ i ∈ ns, 1 ≤ i ∧ i ≤ 1000000000000000000000000000000
  nd : ns.Nodup
theorem Ord.small {ns : List Int} (h : Ord ns) : Small ns := ⟨by have := h.len; omega, fun n hn => by
  have := h.rng n hn
  omega⟩
theorem Ord.perm {ns ms : List Int} (h : Ord ns) (p : ns.Perm ms) : Ord ms := ⟨by rw [← p.length_eq]; exact h.len, fun i hi => h.rng i (p.mem_iff.mpr hi), p.nodup_iff.mp h.nd⟩
theorem Ord.sub {ns ms : List Int} (h : Ord ns) (s : ms.Sublist ns) : Ord ms := ⟨Nat.le_trans s.length_le h.len, fun i hi => h.rng i (s.subset hi), h.nd.sublist s⟩
theorem nDist_nodup {ns : List Int} (h : ns.Nodup) : nDist ns = ns.length := by
  unfold nDist
  rw [RZ.firstMet_nodup h _ (Nat.le_refl _), List.take_length]
theorem is_order_C1 {G : Hz} {a : Nat} {ns : List Int} (h : G[a]? = some (.lst (ns.map V.int))) (hn : ns.length ≤ 1000) :
  m_is_order_C1 [some (.ref a), none] G = some (.ref G.length, G ++ [.lst (ns.map fun i => .bl (decide (1 ≤ i ∧ i ≤ 1000000000000000000000000000000)))]) := by
  unfold m_is_order_C1
  rw [comp_ints (it := itL a) (G0 := G) ns (fun i => .bl (decide (1 ≤ i ∧ i ≤ 1000000000000000000000000000000))) (by simp [-Option.bind_some, -List.map_take, -List.map_drop, -List.map_append, -List.map_reverse, -List.map_set, -List.map_dropLast, -getElem?_pos, h]) (yl_list h) (lt_fuel (by omega)) (by simp [-Option.bind_some, -List.map_take, -List.map_drop, -List.map_append, -List.map_reverse, -List.map_set, -List.map_dropLast, -getElem?_pos, sizeLine_eq]; omega) (by simp [-Option.bind_some, -List.map_take, -List.map_drop, -List.map_append, -List.map_reverse, -List.map_set, -List.map_dropLast, -getElem?_pos, is_id_int])]
theorem is_order_ok {G : Hz} {a : Nat} {ns : List Int} (h : G[a]? = some (.lst (ns.map V.int))) (o : Ord ns) : f_is_order [.ref a] G = some (.bl true, G) := by
  have hn := o.len
  simp [-Option.bind_some, -List.map_take, -List.map_drop, -List.map_append, -List.map_reverse, -List.map_set, -List.map_dropLast, -getElem?_pos, f_is_order, m_is_order, isiT, h, is_order_C1 h (by omega), nDist_nodup o.nd]
  rw [if_neg, if_pos (by omega)]
  rintro (h1 | ⟨x, hx, h1⟩)
  · omega
  · have := o.rng x hx
    omega
@[simp] theorem require_order_ok {G : Hz} {a : Nat} {ns : List Int} (h : G[a]? = some (.lst (ns.map V.int))) (o : Ord ns) : f_require_order [.ref a] G = some (.non, G) := by
  simp [-Option.bind_some, -List.map_take, -List.map_drop, -List.map_append, -List.map_reverse, -List.map_set, -List.map_dropLast, -getElem?_pos, f_require_order, m_require_order, is_order_ok h o]
theorem require_moment_ok {G : Hz} {a : Nat} {ns : List Int} {k : Int} (h : G[a]? = some (.lst (ns.map V.int))) (h0 : 0 ≤ k) (h1 : k ≤ ns.length) : f_require_moment [.ref a, .int k] G = some (.non, G) := by
  simp [-Option.bind_some, -List.map_take, -List.map_drop, -List.map_append, -List.map_reverse, -List.map_set, -List.map_dropLast, -getElem?_pos, f_require_moment, m_require_moment, h, is_integer_int, h0, h1]
/-- the tops behind each id -/
def topsF : Int → List Int → List Int
  | _, [] => []
  | t, i :: ns => max t i :: topsF (max t i) ns
def tops (ns : List Int) : List Int := 0 :: topsF 0 ns
theorem topsF_length (t : Int) (ns : List Int) : (topsF t ns).length = ns.length := by
  induction ns generalizing t with
  | nil => rfl
  | cons j ns ih => simp [-Option.bind_some, -List.map_take, -List.map_drop, -List.map_append, -List.map_reverse, -List.map_set, -List.map_dropLast, -getElem?_pos, topsF, ih]
theorem tops_snoc (t : Int) (ns : List Int) (i : Int) : ∃ m, (t :: topsF t ns).getLast? = some m ∧ topsF t (ns ++ [i]) = topsF t ns ++ [max m i] := by
  induction ns generalizing t with
  | nil => exact ⟨t, rfl, rfl⟩
  | cons j ns ih =>
    obtain ⟨m, h1, h2⟩ := ih (max t j)
    exact ⟨m, by rw [topsF, List.getLast?_cons_cons]; exact h1, by rw [List.cons_append, topsF, h2]; rfl⟩
theorem tops_in_ok {G : Hz} {a : Nat} {ns : List Int} (h : G[a]? = some (.lst (ns.map V.int))) (hn : ns.length ≤ 1000) : f_tops_in [.ref a] G = some (.ref G.length, G ++ [.lst ((tops ns).map V.int)]) := by
  have la := lt_get h
  have lp : m_tops_in_F1 [some (.ref a), some (.ref G.length), none] (G ++ [.lst [.int 0]]) = some (.nx [some (.ref a), some (.ref G.length), none] (G ++ [.lst ((tops ns).map V.int)])) := by
    obtain ⟨σ', G', e, h1, h2⟩ := forL (n := fuelN) (w := iListZ (eVar 0)) (g := gSet 2) (b := m_tops_in_B1) (σ := [some (.ref a), some (.ref G.length), none]) (G := G ++ [.lst [.int 0]]) (G0 := G ++ [.lst [.int 0]]) (a := a) (ns.map V.int)
      (fun i σ H => σ = [some (.ref a), some (.ref G.length), none] ∧ H = G ++ [.lst ((tops (ns.take i)).map V.int)]) (by simp [-Option.bind_some, -List.map_take, -List.map_drop, -List.map_append, -List.map_reverse, -List.map_set, -List.map_dropLast, -getElem?_pos, la, h]) ⟨rfl, rfl⟩ (lt_fuel (by simp [-Option.bind_some, -List.map_take, -List.map_drop, -List.map_append, -List.map_reverse, -List.map_set, -List.map_dropLast, -getElem?_pos]; omega))
      (fun i σ H hI => by
        obtain ⟨rfl, rfl⟩ := hI
        left
        rw [List.getElem?_append_left la, h])
      (fun i σ H x hx hI => by
        obtain ⟨rfl, rfl⟩ := hI
        obtain ⟨m, hm, rfl⟩ : ∃ m, ns[i]? = some m ∧ V.int m = x := by simpa [-Option.bind_some, -List.map_take, -List.map_drop, -List.map_append, -List.map_reverse, -List.map_set, -List.map_dropLast, -getElem?_pos] using hx
        have et : ns.take (i + 1) = ns.take i ++ [m] := by rw [List.take_succ, hm]; rfl
        obtain ⟨t, h1, h2⟩ := tops_snoc 0 (ns.take i) m
        have e2 : (tops (ns.take i)).getLast? = some t := h1
        have e3 : tops (ns.take i ++ [m]) = tops (ns.take i) ++ [max t m] := by unfold tops; rw [h2]; rfl
        have e4 : (tops (ns.take i)).length < 16777216 := by simp [-Option.bind_some, -List.map_take, -List.map_drop, -List.map_append, -List.map_reverse, -List.map_set, -List.map_dropLast, -getElem?_pos, tops, topsF_length]; omega
        simp [-Option.bind_some, -List.map_take, -List.map_drop, -List.map_append, -List.map_reverse, -List.map_set, -List.map_dropLast, -getElem?_pos, m_tops_in_B1, et, e2, e3, e4, la])
    unfold m_tops_in_F1
    rw [e, h1, h2]
    simp [-Option.bind_some, -List.map_take, -List.map_drop, -List.map_append, -List.map_reverse, -List.map_set, -List.map_dropLast, -getElem?_pos]
  simp [-Option.bind_some, -List.map_take, -List.map_drop, -List.map_append, -List.map_reverse, -List.map_set, -List.map_dropLast, -getElem?_pos, f_tops_in, m_tops_in, lp]
/-- the top behind so many ids -/
def topAt (ns : List Int) (k : Nat) : Int := (tops ns).getD k 0
theorem top_at_ok {G : Hz} {a : Nat} {ns : List Int} {k : Nat} (h : G[a]? = some (.lst (ns.map V.int))) (o : Ord ns) (hk : k ≤ ns.length) : f_top_at [.ref a, .int k] G = some (.int (topAt ns k), G) := by
  have la := lt_get h
  have ho := o.len
  have hl : k < (tops ns).length := by simp [-Option.bind_some, -List.map_take, -List.map_drop, -List.map_append, -List.map_reverse, -List.map_set, -List.map_dropLast, -getElem?_pos, tops, topsF_length]; omega
  simp [-Option.bind_some, -List.map_take, -List.map_drop, -List.map_append, -List.map_reverse, -List.map_set, -List.map_dropLast, -getElem?_pos, f_top_at, m_top_at, require_order_ok h o, require_moment_ok h (Int.natCast_nonneg k) (Int.ofNat_le.mpr hk), tops_in_ok h (by omega), List.getElem?_eq_getElem hl, List.getD_eq_getElem?_getD, topAt]
theorem sorted_ints {G : Hz} {a : Nat} {ns : List Int} (h : G[a]? = some (.lst (ns.map V.int))) : fSorted [.ref a] G = some (.ref G.length, G ++ [.lst ((isort ns).map V.int)]) := by
  simp [-Option.bind_some, -List.map_take, -List.map_drop, -List.map_append, -List.map_reverse, -List.map_set, -List.map_dropLast, -getElem?_pos, h]
theorem visible_at_ok {G : Hz} {a : Nat} {ns : List Int} {k : Nat} (h : G[a]? = some (.lst (ns.map V.int))) (o : Ord ns) (hk : k ≤ ns.length) : f_visible_at [.ref a, .int k] G = some (.ref G.length, G ++ [.lst ((isort (ns.take k)).map V.int)]) := by
  have la := lt_get h
  simp [-Option.bind_some, -List.map_take, -List.map_drop, -List.map_append, -List.map_reverse, -List.map_set, -List.map_dropLast, -getElem?_pos, f_visible_at, m_visible_at, require_order_ok h o, require_moment_ok h (Int.natCast_nonneg k) (Int.ofNat_le.mpr hk), h]
/-! ### draws -/
/-- the state of a source of draws -/
structure Pool (P : List V) (k : Nat) : Prop where
  ex : ∃ p q c : Int, P = [.int p, .int q, .int c] ∧ 0 ≤ p ∧ 0 ≤ q ∧ q ≤ 10 ^ 60 ∧ 0 ≤ c ∧ c ≤ k
theorem Pool.mono {P : List V} {k j : Nat} (h : Pool P k) (l : k ≤ j) : Pool P j := by
  obtain ⟨p, q, c, e, h1, h2, h3, h4, h5⟩ := h.ex
  exact ⟨p, q, c, e, h1, h2, h3, h4, by omega⟩
theorem Pool.ok {P : List V} {k : Nat} (h : Pool P k) (n : Nat) : okO n (.lst P) = true := by
  obtain ⟨p, q, c, rfl, _⟩ := h.ex
  simp [-Option.bind_some, -List.map_take, -List.map_drop, -List.map_append, -List.map_reverse, -List.map_set, -List.map_dropLast, -getElem?_pos]
theorem Pool.all {P : List V} {k : Nat} (h : Pool P k) (n : Nat) : P.all (okV n) = true := h.ok n
theorem draw_ok {G : Hz} {a : Nat} {P : List V} {k : Nat} {l : Int} (h : G[a]? = some (.lst P)) (hP : Pool P k) (hk : k ≤ 10 ^ 9) (h1 : 0 < l) (h2 : l ≤ 10 ^ 60) :
    ∃ r P', g_draw_k01 [.ref a, .int l] G = some (.int r, G.set a (.lst P')) ∧ Pool P' (k + 1) ∧ 0 ≤ r ∧ r < l := by
  have la := lt_get h
  obtain ⟨p, q, c, rfl, p0, q0, q1, c0, c1⟩ := hP.ex
  have sl : smallN l = true := smallN_of (by omega) (by omega)
  by_cases hp : 0 < p
  · refine ⟨p.fmod l, [.int (p.fdiv l), .int q, .int c], ?_, ⟨_, _, _, rfl, ?_, q0, q1, c0, by omega⟩, ?_, ?_⟩
    · simp [-Option.bind_some, -List.map_take, -List.map_drop, -List.map_append, -List.map_reverse, -List.map_set, -List.map_dropLast, -getElem?_pos, g_draw_k01, n_draw_k01, h, hp, sl, la, Int.ne_of_gt h1]
    · exact Int.fdiv_nonneg p0 (by omega)
    · exact Int.fmod_nonneg_of_pos _ h1
    · exact Int.fmod_lt_of_pos _ h1
  · have hp2 : p = 0 := by omega
    subst hp2
    have e1 : smallN (c + 1) = true := smallN_of (by omega) (by omega)
    have e2 : smallN (q + 67867979 * (c + 1)) = true := smallN_of (by omega) (by omega)
    have b1 := Int.emod_nonneg ((q + 67867979 * (c + 1)) ^ 3) (show (1000000000000000000000000000000000000003 : Int) ≠ 0 by decide)
    have b2 := Int.emod_lt_of_pos ((q + 67867979 * (c + 1)) ^ 3) (show (0 : Int) < 1000000000000000000000000000000000000003 by decide)
    have f1 : ((q + 67867979 * (c + 1)) ^ 3).fmod 1000000000000000000000000000000000000003 = ((q + 67867979 * (c + 1)) ^ 3) % 1000000000000000000000000000000000000003 := Int.fmod_eq_emod_of_nonneg _ (by decide)
    generalize hx : ((q + 67867979 * (c + 1)) ^ 3) % 1000000000000000000000000000000000000003 = x at *
    have e3 : smallN (x + 982451707 * (c + 1)) = true := smallN_of (by omega) (by omega)
    have s1 : smallN 67867979 = true := smallN_of (by omega) (by omega)
    have s2 : smallN 982451707 = true := smallN_of (by omega) (by omega)
    have s3 : smallN 10000000 = true := smallN_of (by omega) (by omega)
    generalize hy : ((x + 982451707 * (c + 1)) ^ 2).fmod 10000000000000000000000000000000000043 = y
    refine ⟨(y.fdiv 10000000).fmod l, [.int 0, .int q, .int (c + 1)], ?_, ⟨_, _, _, rfl, by omega, q0, q1, by omega, by omega⟩, ?_, ?_⟩
    · simp [-Option.bind_some, -List.map_take, -List.map_drop, -List.map_append, -List.map_reverse, -List.map_set, -List.map_dropLast, -getElem?_pos, g_draw_k01, n_draw_k01, h, sl, la, Int.ne_of_gt h1, e1, e2, e3, s1, s2, s3, f1, hx, hy]
    · exact Int.fmod_nonneg_of_pos _ h1
    · exact Int.fmod_lt_of_pos _ h1
end Zl

namespace Zl
open PySem L2
/-- ids made in ascending order -/
structure Asc (l : List Int) (last : Int) : Prop where
  rng : ∀ x ∈ l, 1 ≤ x ∧ x ≤ last
  nd : l.Nodup
theorem Asc.nil : Asc [] 0 := ⟨by simp [-Option.bind_some, -List.map_take, -List.map_drop, -List.map_append, -List.map_reverse, -List.map_set, -List.map_dropLast, -getElem?_pos], by simp [-Option.bind_some, -List.map_take, -List.map_drop, -List.map_append, -List.map_reverse, -List.map_set, -List.map_dropLast, -getElem?_pos]⟩
theorem Asc.snoc {l : List Int} {last x : Int} (h : Asc l last) (h0 : 0 ≤ last) (q : last < x) : Asc (l ++ [x]) x := by
  refine ⟨fun y hy => ?_, ?_⟩
  · rcases List.mem_append.mp hy with hy | hy
    · have := h.rng y hy; omega
    · simp [-Option.bind_some, -List.map_take, -List.map_drop, -List.map_append, -List.map_reverse, -List.map_set, -List.map_dropLast, -getElem?_pos] at hy; omega
  · refine List.nodup_append.mpr ⟨h.nd, by simp [-Option.bind_some, -List.map_take, -List.map_drop, -List.map_append, -List.map_reverse, -List.map_set, -List.map_dropLast, -getElem?_pos], fun y hy z hz => ?_⟩
    have := h.rng y hy
    simp [-Option.bind_some, -List.map_take, -List.map_drop, -List.map_append, -List.map_reverse, -List.map_set, -List.map_dropLast, -getElem?_pos] at hz
    omega
theorem order_F1 {G : Hz} {a k : Nat} {m size style step : Int} {P : List V} {n : Nat} (la : a < G.length) (hP : Pool P k) (hk : k ≤ 10 ^ 8) (hn : size = n) (hn2 : n ≤ 30) (h1 : 1 ≤ step) (h2 : step ≤ 33000000000000000000000000000) (T : O) (t8 : Option V) :
    ∃ P' l last, n_order_k06_F1 [some (.ref a), some (.int m), some (.int size), some (.int style), some (.ref G.length), some (.int 0), some (.int step), none, none] (G.set a (.lst P) ++ [.lst [], T]) =
      some (.nx [some (.ref a), some (.int m), some (.int size), some (.int style), some (.ref G.length), some (.int last), some (.int step), none, none] (G.set a (.lst P') ++ [.lst (l.map V.int), T])) ∧
      Pool P' (k + n) ∧ Asc l last ∧ l.length = n ∧ 0 ≤ last ∧ last ≤ n * 33000000000000000000000000000 := by
  obtain ⟨σ', G', e, P', l, last, rfl, rfl, h3, h4, h5, h6, h7⟩ := forR (n := fuelN) (w := iRange1 (aCons (eVar 2) aNil)) (g := gSet 7) (b := n_order_k06_B1) (lo := 0) (k := n)
    (σ := [some (.ref a), some (.int m), some (.int size), some (.int style), some (.ref G.length), some (.int 0), some (.int step), none, none]) (G := G.set a (.lst P) ++ [.lst [], T]) (G0 := G.set a (.lst P) ++ [.lst [], T])
    (fun i σ H => ∃ P' l last, σ = [some (.ref a), some (.int m), some (.int size), some (.int style), some (.ref G.length), some (.int last), some (.int step), none, none] ∧ H = G.set a (.lst P') ++ [.lst (l.map V.int), T] ∧
      Pool P' (k + i) ∧ Asc l last ∧ l.length = i ∧ 0 ≤ last ∧ last ≤ i * 33000000000000000000000000000)
    (by simp [-Option.bind_some, -List.map_take, -List.map_drop, -List.map_append, -List.map_reverse, -List.map_set, -List.map_dropLast, -getElem?_pos, rng1_int n hn (by omega)]) ⟨P, [], 0, rfl, rfl, hP, Asc.nil, rfl, by omega, by omega⟩ (lt_fuel (by omega))
    (fun i σ H hi hI => by
      obtain ⟨P', l, last, rfl, rfl, h3, h4, h5, h6, h7⟩ := hI
      obtain ⟨r, P2, e, hp, r0, r1⟩ := draw_ok (G := G.set a (.lst P') ++ [.lst (l.map V.int), T]) (a := a) (l := step) (by simp [-Option.bind_some, -List.map_take, -List.map_drop, -List.map_append, -List.map_reverse, -List.map_set, -List.map_dropLast, -getElem?_pos, la]) h3 (by omega) (by omega) (by omega)
      have hl : l.length < 16777216 := by omega
      apply step_nx
      · simp [-Option.bind_some, -List.map_take, -List.map_drop, -List.map_append, -List.map_reverse, -List.map_set, -List.map_dropLast, -getElem?_pos, n_order_k06_B1, e, la, hp.all, hl]
        exact ⟨rfl, rfl⟩
      · exact ⟨P2, l ++ [last + 1 + r], last + 1 + r, rfl, rfl, hp, h4.snoc h6 (by omega), by simp [-Option.bind_some, -List.map_take, -List.map_drop, -List.map_append, -List.map_reverse, -List.map_set, -List.map_dropLast, -getElem?_pos, h5], by omega, by omega⟩)
  unfold n_order_k06_F1
  exact ⟨P', l, last, e, h3, h4, h5, h6, h7⟩
theorem order_W2 {G : Hz} {a k : Nat} {m size style last step : Int} {s : Nat} {P : List V} {l : List Int} (la : a < G.length) (hP : Pool P k) (hk : k ≤ 10 ^ 8) (hs : style = s) (hs4 : s < 4) (T : O) (hl : l.length ≤ 30) :
    ∃ (P' : List V) (f : List Int), n_order_k06_W2 [some (.ref a), some (.int m), some (.int size), some (.int style), some (.ref G.length), some (.int last), some (.int step), none, some (.ref (G.length + 2))] (G.set a (.lst P) ++ [.lst (l.map V.int), T, .lst []]) =
      some (.nx [some (.ref a), some (.int m), some (.int size), some (.int style), some (.ref G.length), some (.int last), some (.int step), none, some (.ref (G.length + 2))] (G.set a (.lst P') ++ [.lst [], T, .lst (f.map V.int)])) ∧
      Pool P' (k + 30) ∧ f.Perm l := by
  subst hs
  obtain ⟨σ', G', e, P', f, rfl, rfl, h3, h4⟩ := whileI (n := fuelN) (f := l.length) (t := tCut (tE (eBin cNe (eVar 4) (eLst aNil)))) (b := n_order_k06_B2)
    (σ := [some (.ref a), some (.int m), some (.int size), some (.int (s : Int)), some (.ref G.length), some (.int last), some (.int step), none, some (.ref (G.length + 2))]) (G := G.set a (.lst P) ++ [.lst (l.map V.int), T, .lst []])
    (fun n σ H => ∃ (P' : List V) (l' f : List Int), σ = [some (.ref a), some (.int m), some (.int size), some (.int (s : Int)), some (.ref G.length), some (.int last), some (.int step), none, some (.ref (G.length + 2))] ∧ H = G.set a (.lst P') ++ [.lst (l'.map V.int), T, .lst (f.map V.int)] ∧
      Pool P' (k + 30 - n) ∧ (l' ++ f).Perm l ∧ l'.length = n ∧ n ≤ 30)
    (fun σ H => ∃ (P' : List V) (f : List Int), σ = [some (.ref a), some (.int m), some (.int size), some (.int (s : Int)), some (.ref G.length), some (.int last), some (.int step), none, some (.ref (G.length + 2))] ∧ H = G.set a (.lst P') ++ [.lst [], T, .lst (f.map V.int)] ∧ Pool P' (k + 30) ∧ f.Perm l)
    ⟨P, l, [], rfl, rfl, hP.mono (by omega), by simp [-Option.bind_some, -List.map_take, -List.map_drop, -List.map_append, -List.map_reverse, -List.map_set, -List.map_dropLast, -getElem?_pos], rfl, hl⟩ (lt_fuel (by omega))
    (fun n σ H hI => by
      obtain ⟨P', l', f, rfl, rfl, h3, h4, h5, h6⟩ := hI
      have hne := cNe_nil (G := G.set a (.lst P') ++ [.lst (l'.map V.int), T, .lst (f.map V.int), .lst []]) (a := G.length) (b := G.length + 3) (xs := l') (by simp [-Option.bind_some, -List.map_take, -List.map_drop, -List.map_append, -List.map_reverse, -List.map_set, -List.map_dropLast, -getElem?_pos]) (by simp [-Option.bind_some, -List.map_take, -List.map_drop, -List.map_append, -List.map_reverse, -List.map_set, -List.map_dropLast, -getElem?_pos])
      refine ⟨!decide (l' = []), G.set a (.lst P') ++ [.lst (l'.map V.int), T, .lst (f.map V.int)], by simp [-Option.bind_some, -List.map_take, -List.map_drop, -List.map_append, -List.map_reverse, -List.map_set, -List.map_dropLast, -getElem?_pos, hne], fun hc => ?_, fun hc => ?_⟩
      · have : l' = [] := by simpa [-Option.bind_some, -List.map_take, -List.map_drop, -List.map_append, -List.map_reverse, -List.map_set, -List.map_dropLast, -getElem?_pos] using hc
        subst this
        exact ⟨P', f, rfl, rfl, h3.mono (by omega), by simpa [-Option.bind_some, -List.map_take, -List.map_drop, -List.map_append, -List.map_reverse, -List.map_set, -List.map_dropLast, -getElem?_pos] using h4⟩
      · have hl' : l' ≠ [] := by simpa [-Option.bind_some, -List.map_take, -List.map_drop, -List.map_append, -List.map_reverse, -List.map_set, -List.map_dropLast, -getElem?_pos] using hc
        have hpos : 0 < l'.length := List.length_pos_iff.mpr hl'
        have hst : ∃ u : Int, ([V.int 1, V.int 2, V.int 4, V.int 30] : List V)[s]? = some (.int u) ∧ 1 ≤ u := by
          match s, hs4 with
          | 0, _ => exact ⟨1, rfl, by omega⟩
          | 1, _ => exact ⟨2, rfl, by omega⟩
          | 2, _ => exact ⟨4, rfl, by omega⟩
          | 3, _ => exact ⟨30, rfl, by omega⟩
        obtain ⟨u, hu, hu1⟩ := hst
        obtain ⟨r, P2, e, hp, r0, r1⟩ := draw_ok (G := G.set a (.lst P') ++ [.lst (l'.map V.int), T, .lst (f.map V.int), .lst [.int 1, .int 2, .int 4, .int 30]]) (a := a) (l := min u l'.length) (by simp [-Option.bind_some, -List.map_take, -List.map_drop, -List.map_append, -List.map_reverse, -List.map_set, -List.map_dropLast, -getElem?_pos, la]) h3 (by omega) (by omega) (by omega)
        have hfl : f.length < 16777216 := by
          have := h4.length_eq
          rw [List.length_append] at this
          omega
        obtain ⟨q, rfl⟩ := Int.eq_ofNat_of_zero_le r0
        have hq : q < l'.length := by omega
        have hpop : popI (l'.map V.int) (q : Int) = some q := popI_nat (by simpa [-Option.bind_some, -List.map_take, -List.map_drop, -List.map_append, -List.map_reverse, -List.map_set, -List.map_dropLast, -getElem?_pos] using hq) (by simp [-Option.bind_some, -List.map_take, -List.map_drop, -List.map_append, -List.map_reverse, -List.map_set, -List.map_dropLast, -getElem?_pos]; omega)
        apply step_nx
        · simp [-Option.bind_some, -List.map_take, -List.map_drop, -List.map_append, -List.map_reverse, -List.map_set, -List.map_dropLast, -getElem?_pos, n_order_k06_B2, hu, e, la, hp.all, hfl, hpop, List.getElem?_eq_getElem hq]
          exact ⟨rfl, rfl⟩
        · refine ⟨n - 1, by omega, P2, l'.eraseIdx q, f ++ [l'[q]], rfl, rfl, hp.mono (by omega), ?_, by rw [List.length_eraseIdx_of_lt hq]; omega, by omega⟩
          exact (perm_move hq).trans h4)
  unfold n_order_k06_W2
  exact ⟨P', f, e, h3, h4⟩
theorem set_last {l : List Int} (h : l ≠ []) (y : Int) : l.set (l.length - 1) y = l.dropLast ++ [y] := by
  obtain ⟨x, hx⟩ : ∃ x, l = l.dropLast ++ [x] := ⟨_, (List.dropLast_concat_getLast h).symm⟩
  rw [hx]
  simp [-Option.bind_some, -List.map_take, -List.map_drop, -List.map_append, -List.map_reverse, -List.map_set, -List.map_dropLast, -getElem?_pos]
theorem Asc.ord_last {l : List Int} {last y : Int} (h : Asc l last) (hl : l.length ≤ 30) (hne : l ≠ []) (hy : last < y) (hy2 : y ≤ 1000000000000000000000000000000) (h0 : 0 ≤ last) : Ord (l.set (l.length - 1) y) := by
  have hs : l.dropLast.Sublist l := List.dropLast_sublist l
  refine ⟨by rw [List.length_set]; exact hl, fun i hi => ?_, ?_⟩
  · rw [set_last hne] at hi
    rcases List.mem_append.mp hi with hi | hi
    · have := h.rng i (hs.subset hi); omega
    · simp [-Option.bind_some, -List.map_take, -List.map_drop, -List.map_append, -List.map_reverse, -List.map_set, -List.map_dropLast, -getElem?_pos] at hi; omega
  · rw [set_last hne]
    refine List.nodup_append.mpr ⟨h.nd.sublist hs, by simp [-Option.bind_some, -List.map_take, -List.map_drop, -List.map_append, -List.map_reverse, -List.map_set, -List.map_dropLast, -getElem?_pos], fun a ha b hb => ?_⟩
    have := h.rng a (hs.subset ha)
    simp [-Option.bind_some, -List.map_take, -List.map_drop, -List.map_append, -List.map_reverse, -List.map_set, -List.map_dropLast, -getElem?_pos] at hb
    omega
theorem order_ok {G : Hz} {a k : Nat} {m : Int} {P : List V} (h : G[a]? = some (.lst P)) (hP : Pool P k) (hk : k ≤ 10 ^ 7) (hm0 : 0 ≤ m) (hm : m ≤ 30) :
    ∃ (P' : List V) (ids : List Int), g_order_k06 [.ref a, .int m] G = some (.ref G.length, G.set a (.lst P') ++ [.lst (ids.map V.int)]) ∧ Pool P' (k + 100) ∧ Ord ids ∧ ids.length ≤ m := by
  have la := lt_get h
  obtain ⟨r1, P1, e1, p1, a1, b1⟩ := draw_ok (l := m + 1) h hP (by omega) (by omega) (by omega)
  obtain ⟨r2, P2, e2, p2, a2, b2⟩ := draw_ok (G := G.set a (.lst P1)) (a := a) (l := 4) (by simp [-Option.bind_some, -List.map_take, -List.map_drop, -List.map_append, -List.map_reverse, -List.map_set, -List.map_dropLast, -getElem?_pos, la]) p1 (by omega) (by omega) (by omega)
  obtain ⟨n, rfl⟩ := Int.eq_ofNat_of_zero_le a1
  obtain ⟨s, rfl⟩ := Int.eq_ofNat_of_zero_le a2
  obtain ⟨r3, P3, e3, p3, a3, b3⟩ := draw_ok (G := G.set a (.lst P2) ++ [.lst [], (O.tup [.int n, .int s, .ref G.length, .int 0]), .lst [.int 1, .int 3, .int 33000000000000000000000000000]]) (a := a) (l := 3) (by simp [-Option.bind_some, -List.map_take, -List.map_drop, -List.map_append, -List.map_reverse, -List.map_set, -List.map_dropLast, -getElem?_pos, la]) p2 (by omega) (by omega) (by omega)
  obtain ⟨q, rfl⟩ := Int.eq_ofNat_of_zero_le a3
  have hst : ∃ u : Int, ([V.int 1, V.int 3, V.int 33000000000000000000000000000] : List V)[q]? = some (.int u) ∧ 1 ≤ u ∧ u ≤ 33000000000000000000000000000 := by
    match q, (show q < 3 by omega) with
    | 0, _ => exact ⟨1, rfl, by omega, by omega⟩
    | 1, _ => exact ⟨3, rfl, by omega, by omega⟩
    | 2, _ => exact ⟨_, rfl, by omega, by omega⟩
  obtain ⟨u, hu, hu1, hu2⟩ := hst
  obtain ⟨P4, l, last, e4, p4, as4, hl4, c4, d4⟩ := order_F1 (m := m) (style := (s : Int)) (P := P3) (n := n) la p3 (by omega) rfl (by omega) hu1 hu2 (O.tup [.int n, .int s, .ref G.length, .int 0]) none
  -- the last id made the greatest
  have step5 : ∃ (P5 : List V) (l5 : List Int), (sIf (tAndZ (tCut (tE (eBin cNe (eVar 4) (eLst aNil)))) (tE (eBin cEq (eFn g_draw_k01 [] (aCons (eVar 0) (aCons (eC (.int 4)) aNil))) (eC (.int 0))))) (sAsg (eC (.int 1000000000000000000000000000000)) (gPut pLst (eVar 4) (eC (.int (-1))))) sPass)
      [some (.ref a), some (.int m), some (.int n), some (.int s), some (.ref G.length), some (.int last), some (.int u), none, none] (G.set a (.lst P4) ++ [.lst (l.map V.int), (O.tup [.int n, .int s, .ref G.length, .int 0])]) =
      some (.nx [some (.ref a), some (.int m), some (.int n), some (.int s), some (.ref G.length), some (.int last), some (.int u), none, none] (G.set a (.lst P5) ++ [.lst (l5.map V.int), (O.tup [.int n, .int s, .ref G.length, .int 0])])) ∧ Pool P5 (k + 50) ∧ Ord l5 ∧ l5.length = n := by
    have ho : Ord l := ⟨by omega, fun i hi => by have := as4.rng i hi; omega, as4.nd⟩
    have hne := cNe_nil (G := G.set a (.lst P4) ++ [.lst (l.map V.int), (O.tup [.int n, .int s, .ref G.length, .int 0]), .lst []]) (a := G.length) (b := G.length + 2) (xs := l) (by simp [-Option.bind_some, -List.map_take, -List.map_drop, -List.map_append, -List.map_reverse, -List.map_set, -List.map_dropLast, -getElem?_pos]) (by simp [-Option.bind_some, -List.map_take, -List.map_drop, -List.map_append, -List.map_reverse, -List.map_set, -List.map_dropLast, -getElem?_pos])
    by_cases hl : l = []
    · refine ⟨P4, l, ?_, p4.mono (by omega), ho, hl4⟩
      rw [decide_eq_true hl] at hne
      simp [-Option.bind_some, -List.map_take, -List.map_drop, -List.map_append, -List.map_reverse, -List.map_set, -List.map_dropLast, -getElem?_pos, hne]
    · obtain ⟨r5, P5, e5, p5, a5, b5⟩ := draw_ok (G := G.set a (.lst P4) ++ [.lst (l.map V.int), (O.tup [.int n, .int s, .ref G.length, .int 0])]) (a := a) (l := 4) (by simp [-Option.bind_some, -List.map_take, -List.map_drop, -List.map_append, -List.map_reverse, -List.map_set, -List.map_dropLast, -getElem?_pos, la]) p4 (by omega) (by omega) (by omega)
      by_cases h5 : r5 = 0
      · have hpos : 0 < l.length := List.length_pos_iff.mpr hl
        refine ⟨P5, l.set (l.length - 1) 1000000000000000000000000000000, ?_, p5.mono (by omega), ?_, by rw [List.length_set]; exact hl4⟩
        · simp [-Option.bind_some, -List.map_take, -List.map_drop, -List.map_append, -List.map_reverse, -List.map_set, -List.map_dropLast, -getElem?_pos, hne, hl, e5, h5, la, hpos]
        · exact as4.ord_last (by omega) hl (by omega) (by omega) c4
      · refine ⟨P5, l, ?_, p5.mono (by omega), ho, hl4⟩
        simp [-Option.bind_some, -List.map_take, -List.map_drop, -List.map_append, -List.map_reverse, -List.map_set, -List.map_dropLast, -getElem?_pos, hne, hl, e5, h5, la]
  obtain ⟨P5, l5, e5, p5, o5, hl5⟩ := step5
  obtain ⟨P6, f, e6, p6, hf⟩ := order_W2 (m := m) (size := (n : Int)) (style := (s : Int)) (last := last) (step := u) (s := s) (l := l5) la p5 (by omega) rfl (by omega) (O.tup [.int n, .int s, .ref G.length, .int 0]) o5.len
  refine ⟨P6, f, ?_, p6.mono (by omega), o5.perm hf.symm, by have := hf.length_eq; omega⟩
  simp [-Option.bind_some, -List.map_take, -List.map_drop, -List.map_append, -List.map_reverse, -List.map_set, -List.map_dropLast, -getElem?_pos, g_order_k06, n_order_k06, e1, e2, e3, hu, e4, e5, e6, la, p6.all, p3.all, -sIf_ev]
end Zl

namespace Zl
open PySem L2
theorem source_ok {G : Hz} {ns : List Int} {k : Nat} (h : G[0]? = some (.fz (ns.map V.int))) (hk : k < 100) : ∃ P, g_source [.ref 0, .int k] G = some (.ref G.length, G ++ [.lst P]) ∧ Pool P 0 := by
  have main : ∀ c : Int, (if (k : Int) < ns.length then ns[k]? else some 0) = some c → ∃ P, g_source [.ref 0, .int k] G = some (.ref G.length, G ++ [.lst P]) ∧ Pool P 0 := by
    intro c hc
    have f1 : c.fmod 100000000000000000000000000000000000133 = c % 100000000000000000000000000000000000133 := Int.fmod_eq_emod_of_nonneg _ (by decide)
    have b1 := Int.emod_nonneg c (show (100000000000000000000000000000000000133 : Int) ≠ 0 by decide)
    have b2 := Int.emod_lt_of_pos c (show (0 : Int) < 100000000000000000000000000000000000133 by decide)
    generalize hx : c % 100000000000000000000000000000000000133 = x at *
    have s1 : smallN (x + 1) = true := smallN_of (by omega) (by omega)
    have s2 : smallN 64 = true := smallN_of (by omega) (by omega)
    refine ⟨[.int (max 0 (c - 1000000000000000000)), .int ((x + 1) * 64 + k), .int 0], ?_, ⟨_, _, _, rfl, by omega, by omega, by omega, by omega, by omega⟩⟩
    by_cases q : (k : Int) < ns.length
    · rw [if_pos q] at hc
      have q2 : k < ns.length := by omega
      simp [-Option.bind_some, -List.map_take, -List.map_drop, -List.map_append, -List.map_reverse, -List.map_set, -List.map_dropLast, -getElem?_pos, g_source, n_source, h, q2, hc, f1, s1, s2]
    · rw [if_neg q] at hc
      cases hc
      have q2 : ¬ k < ns.length := by omega
      have : x = 0 := by rw [← hx]; rfl
      subst this
      have s3 : smallN 1 = true := smallN_of (by omega) (by omega)
      simp [-Option.bind_some, -List.map_take, -List.map_drop, -List.map_append, -List.map_reverse, -List.map_set, -List.map_dropLast, -getElem?_pos, g_source, n_source, h, q2, s2, s3]
  by_cases q : (k : Int) < ns.length
  · exact main ns[k] (by rw [if_pos q, List.getElem?_eq_getElem (by omega)])
  · exact main 0 (by rw [if_neg q])
theorem tops_get (ns : List Int) (k : Nat) (hk : k < ns.length) (h : ∀ i ∈ ns, 1 ≤ i) : topAt ns (k + 1) = max (topAt ns k) (ns.getD k 0) := by
  unfold topAt
  have gen : ∀ (ns : List Int) (t : Int) (k : Nat), k < ns.length → (t :: topsF t ns).getD (k + 1) 0 = max ((t :: topsF t ns).getD k 0) (ns.getD k 0) := by
    intro ns
    induction ns with
    | nil => intro t k hk; simp [-Option.bind_some, -List.map_take, -List.map_drop, -List.map_append, -List.map_reverse, -List.map_set, -List.map_dropLast, -getElem?_pos] at hk
    | cons j ns ih =>
      intro t k hk
      cases k with
      | zero => simp [-Option.bind_some, -List.map_take, -List.map_drop, -List.map_append, -List.map_reverse, -List.map_set, -List.map_dropLast, -getElem?_pos, topsF]
      | succ k => simpa [-Option.bind_some, -List.map_take, -List.map_drop, -List.map_append, -List.map_reverse, -List.map_set, -List.map_dropLast, -getElem?_pos, topsF] using ih (max t j) k (by simpa [-Option.bind_some, -List.map_take, -List.map_drop, -List.map_append, -List.map_reverse, -List.map_set, -List.map_dropLast, -getElem?_pos] using hk)
  exact gen ns 0 k hk
theorem Ord.isort {ns : List Int} (o : Ord ns) (k : Nat) : Small (isort (ns.take k)) := ((o.sub (List.take_sublist k ns)).perm (isort_perm _).symm).small
theorem tops_small {ns : List Int} (o : Ord ns) (k : Nat) : (topAt ns k).natAbs < 10 ^ 150 := by
  have gen : ∀ (ns : List Int) (t : Int) (k : Nat), (∀ i ∈ ns, 1 ≤ i ∧ i ≤ 1000000000000000000000000000000) → 0 ≤ t → t ≤ 1000000000000000000000000000000 → 0 ≤ (t :: topsF t ns).getD k 0 ∧ (t :: topsF t ns).getD k 0 ≤ 1000000000000000000000000000000 := by
    intro ns
    induction ns with
    | nil =>
      intro t k _ h1 h2
      cases k with
      | zero => exact ⟨h1, h2⟩
      | succ k => simp [-Option.bind_some, -List.map_take, -List.map_drop, -List.map_append, -List.map_reverse, -List.map_set, -List.map_dropLast, -getElem?_pos, topsF]
    | cons j ns ih =>
      intro t k h h1 h2
      have hj := h j (List.mem_cons_self ..)
      cases k with
      | zero => exact ⟨h1, h2⟩
      | succ k => simpa [-Option.bind_some, -List.map_take, -List.map_drop, -List.map_append, -List.map_reverse, -List.map_set, -List.map_dropLast, -getElem?_pos, topsF] using ih (max t j) k (fun i hi => h i (List.mem_cons_of_mem _ hi)) (by omega) (by omega)
  have := gen ns 0 k o.rng (by omega) (by omega)
  unfold topAt tops
  omega
theorem right_F2 {G : Hz} {a k : Nat} {ns : List Int} {kept : Str} (h : G[a]? = some (.lst (ns.map V.int))) (o : Ord ns) (hk : k ≤ ns.length) :
    n_right_k06_F2 [some (.ref a), some (.str kept), some (.int (topAt ns k)), some (.int k), none, none] G = some (.nx [some (.ref a), some (.str kept), some (.int (topAt ns k)), some (.int k), none, none] G) := by
  have la := lt_get h
  obtain ⟨σ', G', e, rfl, rfl⟩ := forR (n := fuelN) (w := iRange1 (aCons (eC (.int 2)) aNil)) (g := gSet 4) (b := n_right_k06_B2) (lo := 0) (k := 2)
    (σ := [some (.ref a), some (.str kept), some (.int (topAt ns k)), some (.int k), none, none]) (G := G) (G0 := G)
    (fun i σ H => σ = [some (.ref a), some (.str kept), some (.int (topAt ns k)), some (.int k), none, none] ∧ H = G) (by simp [-Option.bind_some, -List.map_take, -List.map_drop, -List.map_append, -List.map_reverse, -List.map_set, -List.map_dropLast, -getElem?_pos, rng1_int (i := 2) 2 rfl (by omega)]) ⟨rfl, rfl⟩ (lt_fuel (by omega))
    (fun i σ H hi hI => by
      obtain ⟨rfl, rfl⟩ := hI
      have e1 := visible_at_ok h o hk
      have hs := o.isort k
      have hl : (isort (ns.take k)).length < 16777216 := by have := hs.1; omega
      have r1 := repr_ints (G := H ++ [.lst ((isort (ns.take k)).map V.int)]) (a := H.length) (ns := isort (ns.take k)) (by simp [-Option.bind_some, -List.map_take, -List.map_drop, -List.map_append, -List.map_reverse, -List.map_set, -List.map_dropLast, -getElem?_pos]) hs
      have r2 := repr_ints (G := H ++ [.lst ((isort (ns.take k)).map V.int), .lst ((ns.take k).map V.int), .lst ((isort (ns.take k)).map V.int)]) (a := H.length + 2) (ns := isort (ns.take k)) (by simp [-Option.bind_some, -List.map_take, -List.map_drop, -List.map_append, -List.map_reverse, -List.map_set, -List.map_dropLast, -getElem?_pos]) hs
      have e2 := top_at_ok (G := H ++ [.lst ((isort (ns.take k)).map V.int)]) (a := a) (k := k) (by simp [-Option.bind_some, -List.map_take, -List.map_drop, -List.map_append, -List.map_reverse, -List.map_set, -List.map_dropLast, -getElem?_pos, la, h]) o hk
      have r3 := repr_int (G := H ++ [.lst ((isort (ns.take k)).map V.int)]) (tops_small o k)
      apply step_nx
      · simp [-Option.bind_some, -List.map_take, -List.map_drop, -List.map_append, -List.map_reverse, -List.map_set, -List.map_dropLast, -getElem?_pos, n_right_k06_B2, e1, r1, r2, r3, e2, la, h, hl]
        first | exact ⟨rfl, rfl⟩ | rfl
      · exact ⟨rfl, rfl⟩)
  exact e
theorem tops_zero (ns : List Int) : topAt ns 0 = 0 := rfl
theorem right_B1 {G : Hz} {a k : Nat} {ns : List Int} {kept : Str} (h : G[a]? = some (.lst (ns.map V.int))) (o : Ord ns) (hk : k ≤ ns.length) :
    n_right_k06_B1 [some (.ref a), some (.str kept), some (.int (topAt ns (k - 1))), some (.int k), none, none] G = some (.nx [some (.ref a), some (.str kept), some (.int (topAt ns k)), none, none, none] G) := by
  have la := lt_get h
  have e := right_F2 (kept := kept) h o hk
  cases k with
  | zero =>
    simp only [Nat.zero_sub, Int.natCast_zero, tops_zero] at e ⊢
    simp [-Option.bind_some, -List.map_take, -List.map_drop, -List.map_append, -List.map_reverse, -List.map_set, -List.map_dropLast, -getElem?_pos, n_right_k06_B1, e, la]
  | succ k =>
    have hk' : k < ns.length := by omega
    have ht := tops_get ns k hk' fun i hi => (o.rng i hi).1
    have hc : ((k + 1 : Nat) : Int) - 1 = (k : Int) := by omega
    have hp : (0 : Int) < ((k + 1 : Nat) : Int) := by omega
    rw [Nat.add_sub_cancel]
    have hg : ns.getD k 0 = ns[k] := by simp [-Option.bind_some, -List.map_take, -List.map_drop, -List.map_append, -List.map_reverse, -List.map_set, -List.map_dropLast, -getElem?_pos, List.getD_eq_getElem?_getD, List.getElem?_eq_getElem hk']
    by_cases q : topAt ns k < ns[k]
    · have e2 : topAt ns (k + 1) = ns[k] := by rw [ht, hg]; omega
      rw [e2] at e ⊢
      generalize ((k + 1 : Nat) : Int) = kk at *
      simp [-Option.bind_some, -List.map_take, -List.map_drop, -List.map_append, -List.map_reverse, -List.map_set, -List.map_dropLast, -getElem?_pos, n_right_k06_B1, hp, hc, h, List.getElem?_eq_getElem hk', q, e, la]
    · have e2 : topAt ns (k + 1) = topAt ns k := by rw [ht, hg]; omega
      rw [e2] at e ⊢
      generalize topAt ns k = t at *
      generalize ((k + 1 : Nat) : Int) = kk at *
      simp [-Option.bind_some, -List.map_take, -List.map_drop, -List.map_append, -List.map_reverse, -List.map_set, -List.map_dropLast, -getElem?_pos, n_right_k06_B1, hp, hc, h, List.getElem?_eq_getElem hk', q, e, la]
theorem right_ok {G : Hz} {a : Nat} {ns : List Int} (h : G[a]? = some (.lst (ns.map V.int))) (o : Ord ns) : g_right_k06 [.ref a] G = some (.bl true, G) := by
  have la := lt_get h
  have r1 := repr_ints h o.small
  have lp : n_right_k06_F1 [some (.ref a), some (.str (PyData.list (ns.map PyData.int)).shown), some (.int 0), none, none, none] G = some (.nx [some (.ref a), some (.str (PyData.list (ns.map PyData.int)).shown), some (.int (topAt ns ns.length)), none, none, none] G) := by
    obtain ⟨σ', G', e, rfl, rfl⟩ := forR (n := fuelN) (w := iRange1 (aCons (eBin bAdd (eCall fLen (aCons (eVar 0) aNil)) (eC (.int 1))) aNil)) (g := gSet 3) (b := n_right_k06_B1) (lo := 0) (k := ns.length + 1)
      (σ := [some (.ref a), some (.str (PyData.list (ns.map PyData.int)).shown), some (.int 0), none, none, none]) (G := G) (G0 := G)
      (fun i σ H => σ = [some (.ref a), some (.str (PyData.list (ns.map PyData.int)).shown), some (.int (topAt ns (i - 1))), none, none, none] ∧ H = G)
      (by simp [-Option.bind_some, -List.map_take, -List.map_drop, -List.map_append, -List.map_reverse, -List.map_set, -List.map_dropLast, -getElem?_pos, h, rng1_int (i := (ns.length : Int) + 1) (ns.length + 1) (by omega) (by have := o.len; omega)]) ⟨rfl, rfl⟩ (lt_fuel (by have := o.len; omega))
      (fun i σ H hi hI => by
        obtain ⟨rfl, rfl⟩ := hI
        have e := right_B1 (k := i) (kept := (PyData.list (ns.map PyData.int)).shown) h o (by omega)
        apply step_nx
        · simp [-Option.bind_some, -List.map_take, -List.map_drop, -List.map_append, -List.map_reverse, -List.map_set, -List.map_dropLast, -getElem?_pos, e]
          first | exact ⟨rfl, rfl⟩ | rfl
        · exact ⟨rfl, rfl⟩)
    exact e
  simp [-Option.bind_some, -List.map_take, -List.map_drop, -List.map_append, -List.map_reverse, -List.map_set, -List.map_dropLast, -getElem?_pos, g_right_k06, n_right_k06, r1, lp]
end Zl

namespace Zl
open PySem L2
theorem draw29_ok {G : Hz} {a : Nat} {P : List V} {k : Nat} {l : Int} (h : G[a]? = some (.lst P)) (hP : Pool P k) (hk : k ≤ 10 ^ 9) (h1 : 0 < l) (h2 : l ≤ 10 ^ 60) :
    ∃ r P', g_draw_k00 [.ref a, .int l] G = some (.int r, G.set a (.lst P')) ∧ Pool P' (k + 1) ∧ 0 ≤ r ∧ r < l := by
  have la := lt_get h
  obtain ⟨p, q, c, rfl, p0, q0, q1, c0, c1⟩ := hP.ex
  have sl : smallN l = true := smallN_of (by omega) (by omega)
  by_cases hp : 0 < p
  · refine ⟨p.fmod l, [.int (p.fdiv l), .int q, .int c], ?_, ⟨_, _, _, rfl, ?_, q0, q1, c0, by omega⟩, ?_, ?_⟩
    · simp [-Option.bind_some, -List.map_take, -List.map_drop, -List.map_append, -List.map_reverse, -List.map_set, -List.map_dropLast, -getElem?_pos, g_draw_k00, n_draw_k00, h, hp, sl, la, Int.ne_of_gt h1]
    · exact Int.fdiv_nonneg p0 (by omega)
    · exact Int.fmod_nonneg_of_pos _ h1
    · exact Int.fmod_lt_of_pos _ h1
  · have hp2 : p = 0 := by omega
    subst hp2
    have e1 : smallN (c + 1) = true := smallN_of (by omega) (by omega)
    have e2 : smallN (q + 104729 * (c + 1)) = true := smallN_of (by omega) (by omega)
    have b1 := Int.emod_nonneg ((q + 104729 * (c + 1)) ^ 3) (show (618970019642690137449562111 : Int) ≠ 0 by decide)
    have b2 := Int.emod_lt_of_pos ((q + 104729 * (c + 1)) ^ 3) (show (0 : Int) < 618970019642690137449562111 by decide)
    have f1 : ((q + 104729 * (c + 1)) ^ 3).fmod 618970019642690137449562111 = ((q + 104729 * (c + 1)) ^ 3) % 618970019642690137449562111 := Int.fmod_eq_emod_of_nonneg _ (by decide)
    generalize hx : ((q + 104729 * (c + 1)) ^ 3) % 618970019642690137449562111 = x at *
    have e3 : smallN (x + 1299709 * (c + 1)) = true := smallN_of (by omega) (by omega)
    have s1 : smallN 104729 = true := smallN_of (by omega) (by omega)
    have s2 : smallN 1299709 = true := smallN_of (by omega) (by omega)
    have s3 : smallN 4096 = true := smallN_of (by omega) (by omega)
    generalize hy : ((x + 1299709 * (c + 1)) ^ 3).fmod 162259276829213363391578010288127 = y
    refine ⟨(y.fdiv 4096).fmod l, [.int 0, .int q, .int (c + 1)], ?_, ⟨_, _, _, rfl, by omega, q0, q1, by omega, by omega⟩, ?_, ?_⟩
    · simp [-Option.bind_some, -List.map_take, -List.map_drop, -List.map_append, -List.map_reverse, -List.map_set, -List.map_dropLast, -getElem?_pos, g_draw_k00, n_draw_k00, h, sl, la, Int.ne_of_gt h1, e1, e2, e3, s1, s2, s3, f1, hx, hy]
    · exact Int.fmod_nonneg_of_pos _ h1
    · exact Int.fmod_lt_of_pos _ h1
theorem pool29_ok {G : Hz} {ns : List Int} {k : Nat} (h : G[0]? = some (.fz (ns.map V.int))) (hk : k < 100) : ∃ P, g_pool [.ref 0, .int k] G = some (.ref G.length, G ++ [.lst P]) ∧ Pool P 0 := by
  have main : ∀ c : Int, (if (k : Int) < ns.length then ns[k]? else some 0) = some c → ∃ P, g_pool [.ref 0, .int k] G = some (.ref G.length, G ++ [.lst P]) ∧ Pool P 0 := by
    intro c hc
    have f1 : c.fmod 2305843009213693951 = c % 2305843009213693951 := Int.fmod_eq_emod_of_nonneg _ (by decide)
    have b1 := Int.emod_nonneg c (show (2305843009213693951 : Int) ≠ 0 by decide)
    have b2 := Int.emod_lt_of_pos c (show (0 : Int) < 2305843009213693951 by decide)
    generalize hx : c % 2305843009213693951 = x at *
    have s1 : smallN 7919 = true := smallN_of (by omega) (by omega)
    have s2 : smallN ((k : Int) + 1) = true := smallN_of (by omega) (by omega)
    refine ⟨[.int (max 0 ((c.natAbs : Nat) - 1000000000000000000)), .int (x + 7919 * (k + 1)), .int 0], ?_, ⟨_, _, _, rfl, by omega, by omega, by omega, by omega, by omega⟩⟩
    by_cases q : (k : Int) < ns.length
    · rw [if_pos q] at hc
      have q2 : k < ns.length := by omega
      simp [-Option.bind_some, -List.map_take, -List.map_drop, -List.map_append, -List.map_reverse, -List.map_set, -List.map_dropLast, -getElem?_pos, g_pool, n_pool, h, q2, hc, f1, s1, s2]
      split <;> omega
    · rw [if_neg q] at hc
      cases hc
      have q2 : ¬ k < ns.length := by omega
      have : x = 0 := by rw [← hx]; rfl
      subst this
      simp [-Option.bind_some, -List.map_take, -List.map_drop, -List.map_append, -List.map_reverse, -List.map_set, -List.map_dropLast, -getElem?_pos, g_pool, n_pool, h, q2, s1, s2]
  by_cases q : (k : Int) < ns.length
  · exact main ns[k] (by rw [if_pos q, List.getElem?_eq_getElem (by omega)])
  · exact main 0 (by rw [if_neg q])
end Zl

namespace Zl
open PySem L2
theorem order29_F1 {G : Hz} {a k : Nat} {m u gap : Int} {P : List V} (la : a < G.length) (hP : Pool P k) (hk : k ≤ 10 ^ 8) (hm0 : 0 ≤ m) (hm : m ≤ 30) (h1 : 1 ≤ gap) (h2 : gap ≤ 33000000000000000000000000000) (A B T : O) :
    ∃ P' l last, n_order_k11_F1 ([some (.ref a), some (.int m), some (.int gap), some (.int u), some (.int 0), some (.ref (G.length + 2 : Nat)), none, none] : St) (G.set a (.lst P) ++ [A, B, .lst [], T]) =
      some (.nx ([some (.ref a), some (.int m), some (.int gap), some (.int u), some (.int last), some (.ref (G.length + 2 : Nat)), none, none] : St) (G.set a (.lst P') ++ [A, B, .lst (l.map V.int), T])) ∧
      Pool P' (k + 40) ∧ Asc l last ∧ l.length ≤ m ∧ 0 ≤ last ∧ last ≤ 30 * 33000000000000000000000000000 := by
  obtain ⟨d, P1, e1, p1, a1, b1⟩ := draw29_ok (G := G.set a (.lst P) ++ [A, B, .lst [], T]) (a := a) (l := m + 1) (P := P) (by simp [-Option.bind_some, -List.map_take, -List.map_drop, -List.map_append, -List.map_reverse, -List.map_set, -List.map_dropLast, -getElem?_pos, la]) hP (by omega) (by omega) (by omega)
  obtain ⟨n, rfl⟩ := Int.eq_ofNat_of_zero_le a1
  have s1 : (G.set a (.lst P) ++ [A, B, .lst [], T]).set a (.lst P1) = G.set a (.lst P1) ++ [A, B, .lst [], T] := by simp [-Option.bind_some, -List.map_take, -List.map_drop, -List.map_append, -List.map_reverse, -List.map_set, -List.map_dropLast, -getElem?_pos, la]
  rw [s1] at e1
  obtain ⟨σ', G', e, P', l, last, rfl, rfl, h3, h4, h5, h6, h7⟩ := forR (n := fuelN) (w := iRange1 (aCons (eFn g_draw_k00 [] (aCons (eVar 0) (aCons (eBin bAdd (eVar 1) (eC (.int 1))) aNil))) aNil)) (g := gSet 6) (b := n_order_k11_B1) (lo := 0) (k := n)
    (σ := ([some (.ref a), some (.int m), some (.int gap), some (.int u), some (.int 0), some (.ref (G.length + 2 : Nat)), none, none] : St)) (G := G.set a (.lst P) ++ [A, B, .lst [], T]) (G0 := G.set a (.lst P1) ++ [A, B, .lst [], T])
    (fun i σ H => ∃ P' l last, σ = ([some (.ref a), some (.int m), some (.int gap), some (.int u), some (.int last), some (.ref (G.length + 2 : Nat)), none, none] : St) ∧ H = G.set a (.lst P') ++ [A, B, .lst (l.map V.int), T] ∧
      Pool P' (k + 1 + i) ∧ Asc l last ∧ l.length = i ∧ 0 ≤ last ∧ last ≤ i * 33000000000000000000000000000)
    (by simp [-Option.bind_some, -List.map_take, -List.map_drop, -List.map_append, -List.map_reverse, -List.map_set, -List.map_dropLast, -getElem?_pos, e1, rng1_int n rfl (by omega)]) ⟨P1, [], 0, rfl, rfl, p1, Asc.nil, rfl, by omega, by omega⟩ (lt_fuel (by omega))
    (fun i σ H hi hI => by
      obtain ⟨P', l, last, rfl, rfl, h3, h4, h5, h6, h7⟩ := hI
      obtain ⟨r, P2, e, hp, r0, r1⟩ := draw29_ok (G := G.set a (.lst P') ++ [A, B, .lst (l.map V.int), T]) (a := a) (l := gap) (by simp [-Option.bind_some, -List.map_take, -List.map_drop, -List.map_append, -List.map_reverse, -List.map_set, -List.map_dropLast, -getElem?_pos, la]) h3 (by omega) (by omega) (by omega)
      have hl : l.length < 16777216 := by omega
      apply step_nx
      · simp [-Option.bind_some, -List.map_take, -List.map_drop, -List.map_append, -List.map_reverse, -List.map_set, -List.map_dropLast, -getElem?_pos, n_order_k11_B1, e, la, hp.all, hl]
        exact ⟨rfl, rfl⟩
      · exact ⟨P2, l ++ [last + 1 + r], last + 1 + r, rfl, rfl, hp, h4.snoc h6 (by omega), by simp [-Option.bind_some, -List.map_take, -List.map_drop, -List.map_append, -List.map_reverse, -List.map_set, -List.map_dropLast, -getElem?_pos, h5], by omega, by omega⟩)
  unfold n_order_k11_F1
  exact ⟨P', l, last, e, h3.mono (by omega), h4, by omega, h6, by omega⟩
theorem order29_W2 {G : Hz} {a k : Nat} {m u gap last : Int} {P : List V} {l : List Int} (la : a < G.length) (hP : Pool P k) (hk : k ≤ 10 ^ 8) (hu1 : 1 ≤ u) (A B T : O) (hl : l.length ≤ 30) :
    ∃ (P' : List V) (f : List Int), n_order_k11_W2 ([some (.ref a), some (.int m), some (.int gap), some (.int u), some (.int last), some (.ref (G.length + 2 : Nat)), none, some (.ref (G.length + 4 : Nat))] : St) (G.set a (.lst P) ++ [A, B, .lst (l.map V.int), T, .lst []]) =
      some (.nx ([some (.ref a), some (.int m), some (.int gap), some (.int u), some (.int last), some (.ref (G.length + 2 : Nat)), none, some (.ref (G.length + 4 : Nat))] : St) (G.set a (.lst P') ++ [A, B, .lst [], T, .lst (f.map V.int)])) ∧
      Pool P' (k + 30) ∧ f.Perm l := by
  obtain ⟨σ', G', e, P', f, rfl, rfl, h3, h4⟩ := whileI (n := fuelN) (f := l.length) (t := tCut (tE (eBin cNe (eVar 5) (eLst aNil)))) (b := n_order_k11_B2)
    (σ := ([some (.ref a), some (.int m), some (.int gap), some (.int u), some (.int last), some (.ref (G.length + 2 : Nat)), none, some (.ref (G.length + 4 : Nat))] : St)) (G := G.set a (.lst P) ++ [A, B, .lst (l.map V.int), T, .lst []])
    (fun n σ H => ∃ (P' : List V) (l' f : List Int), σ = ([some (.ref a), some (.int m), some (.int gap), some (.int u), some (.int last), some (.ref (G.length + 2 : Nat)), none, some (.ref (G.length + 4 : Nat))] : St) ∧ H = G.set a (.lst P') ++ [A, B, .lst (l'.map V.int), T, .lst (f.map V.int)] ∧
      Pool P' (k + 30 - n) ∧ (l' ++ f).Perm l ∧ l'.length = n ∧ n ≤ 30)
    (fun σ H => ∃ (P' : List V) (f : List Int), σ = ([some (.ref a), some (.int m), some (.int gap), some (.int u), some (.int last), some (.ref (G.length + 2 : Nat)), none, some (.ref (G.length + 4 : Nat))] : St) ∧ H = G.set a (.lst P') ++ [A, B, .lst [], T, .lst (f.map V.int)] ∧ Pool P' (k + 30) ∧ f.Perm l)
    ⟨P, l, [], rfl, rfl, hP.mono (by omega), by simp [-Option.bind_some, -List.map_take, -List.map_drop, -List.map_append, -List.map_reverse, -List.map_set, -List.map_dropLast, -getElem?_pos], rfl, hl⟩ (lt_fuel (by omega))
    (fun n σ H hI => by
      obtain ⟨P', l', f, rfl, rfl, h3, h4, h5, h6⟩ := hI
      have hne := cNe_nil (G := G.set a (.lst P') ++ [A, B, .lst (l'.map V.int), T, .lst (f.map V.int), .lst []]) (a := G.length + 2) (b := G.length + 5) (xs := l') (by simp [-Option.bind_some, -List.map_take, -List.map_drop, -List.map_append, -List.map_reverse, -List.map_set, -List.map_dropLast, -getElem?_pos]) (by simp [-Option.bind_some, -List.map_take, -List.map_drop, -List.map_append, -List.map_reverse, -List.map_set, -List.map_dropLast, -getElem?_pos])
      refine ⟨!decide (l' = []), G.set a (.lst P') ++ [A, B, .lst (l'.map V.int), T, .lst (f.map V.int)], by simp [-Option.bind_some, -List.map_take, -List.map_drop, -List.map_append, -List.map_reverse, -List.map_set, -List.map_dropLast, -getElem?_pos, hne], fun hc => ?_, fun hc => ?_⟩
      · have : l' = [] := by simpa [-Option.bind_some, -List.map_take, -List.map_drop, -List.map_append, -List.map_reverse, -List.map_set, -List.map_dropLast, -getElem?_pos] using hc
        subst this
        exact ⟨P', f, rfl, rfl, h3.mono (by omega), by simpa [-Option.bind_some, -List.map_take, -List.map_drop, -List.map_append, -List.map_reverse, -List.map_set, -List.map_dropLast, -getElem?_pos] using h4⟩
      · have hl' : l' ≠ [] := by simpa [-Option.bind_some, -List.map_take, -List.map_drop, -List.map_append, -List.map_reverse, -List.map_set, -List.map_dropLast, -getElem?_pos] using hc
        have hpos : 0 < l'.length := List.length_pos_iff.mpr hl'
        obtain ⟨r, P2, e, hp, r0, r1⟩ := draw29_ok (G := G.set a (.lst P') ++ [A, B, .lst (l'.map V.int), T, .lst (f.map V.int)]) (a := a) (l := min u l'.length) (by simp [-Option.bind_some, -List.map_take, -List.map_drop, -List.map_append, -List.map_reverse, -List.map_set, -List.map_dropLast, -getElem?_pos, la]) h3 (by omega) (by omega) (by omega)
        have hfl : f.length < 16777216 := by
          have := h4.length_eq
          rw [List.length_append] at this
          omega
        obtain ⟨q, rfl⟩ := Int.eq_ofNat_of_zero_le r0
        have hq : q < l'.length := by omega
        have hpop : popI (l'.map V.int) (q : Int) = some q := popI_nat (by simpa [-Option.bind_some, -List.map_take, -List.map_drop, -List.map_append, -List.map_reverse, -List.map_set, -List.map_dropLast, -getElem?_pos] using hq) (by simp [-Option.bind_some, -List.map_take, -List.map_drop, -List.map_append, -List.map_reverse, -List.map_set, -List.map_dropLast, -getElem?_pos]; omega)
        have hl2 : l'.length < 16777216 := by omega
        apply step_nx
        · simp [-Option.bind_some, -List.map_take, -List.map_drop, -List.map_append, -List.map_reverse, -List.map_set, -List.map_dropLast, -getElem?_pos, n_order_k11_B2, e, la, hp.all, hfl, hl2, hpop, List.getElem?_eq_getElem hq]
          exact ⟨rfl, rfl⟩
        · refine ⟨n - 1, by omega, P2, l'.eraseIdx q, f ++ [l'[q]], rfl, rfl, hp.mono (by omega), ?_, by rw [List.length_eraseIdx_of_lt hq]; omega, by omega⟩
          exact (perm_move hq).trans h4)
  unfold n_order_k11_W2
  exact ⟨P', f, e, h3, h4⟩
end Zl

namespace Zl
open PySem L2
theorem order29_ok {G : Hz} {a k : Nat} {m : Int} {P : List V} (h : G[a]? = some (.lst P)) (hP : Pool P k) (hk : k ≤ 10 ^ 7) (hm0 : 0 ≤ m) (hm : m ≤ 30) :
    ∃ (P' : List V) (ids : List Int), g_order_k11 [.ref a, .int m] G = some (.ref G.length, G.set a (.lst P') ++ [.lst (ids.map V.int)]) ∧ Pool P' (k + 100) ∧ Ord ids ∧ ids.length ≤ m := by
  have la := lt_get h
  obtain ⟨r1, P1, e1, p1, a1, b1⟩ := draw29_ok (G := G ++ [.lst [.int 1, .int 3, .int 33000000000000000000000000000]]) (l := 3) (get_app h) hP (by omega) (by omega) (by omega)
  obtain ⟨n, rfl⟩ := Int.eq_ofNat_of_zero_le a1
  have hst : ∃ u : Int, ([V.int 1, V.int 3, V.int 33000000000000000000000000000] : List V)[n]? = some (.int u) ∧ 1 ≤ u ∧ u ≤ 33000000000000000000000000000 := by
    match n, (show n < 3 by omega) with
    | 0, _ => exact ⟨1, rfl, by omega, by omega⟩
    | 1, _ => exact ⟨3, rfl, by omega, by omega⟩
    | 2, _ => exact ⟨_, rfl, by omega, by omega⟩
  obtain ⟨gap, hgap, hg1, hg2⟩ := hst
  obtain ⟨r2, P2, e2, p2, a2, b2⟩ := draw29_ok (G := G.set a (.lst P1) ++ [.lst [.int 1, .int 3, .int 33000000000000000000000000000], .lst [.int 1, .int 2, .int 4, .int 40]]) (a := a) (l := 4) (by simp [-Option.bind_some, -List.map_take, -List.map_drop, -List.map_append, -List.map_reverse, -List.map_set, -List.map_dropLast, -getElem?_pos, la]) p1 (by omega) (by omega) (by omega)
  obtain ⟨q, rfl⟩ := Int.eq_ofNat_of_zero_le a2
  have hsu : ∃ u : Int, ([V.int 1, V.int 2, V.int 4, V.int 40] : List V)[q]? = some (.int u) ∧ 1 ≤ u := by
    match q, (show q < 4 by omega) with
    | 0, _ => exact ⟨1, rfl, by omega⟩
    | 1, _ => exact ⟨2, rfl, by omega⟩
    | 2, _ => exact ⟨4, rfl, by omega⟩
    | 3, _ => exact ⟨40, rfl, by omega⟩
  obtain ⟨u, hu, hu1⟩ := hsu
  obtain ⟨P3, l, last, e3, p3, as3, hl3, c3, d3⟩ := order29_F1 (m := m) (u := u) (P := P2) la p2 (by omega) hm0 hm hg1 hg2 (.lst [.int 1, .int 3, .int 33000000000000000000000000000]) (.lst [.int 1, .int 2, .int 4, .int 40]) (.tup [.int gap, .int u, .int 0, .ref (G.length + 2 : Nat)])
  obtain ⟨P4, f, e4, p4, hf⟩ := order29_W2 (m := m) (u := u) (gap := gap) (last := last) (l := l) la p3 (by omega) hu1 (.lst [.int 1, .int 3, .int 33000000000000000000000000000]) (.lst [.int 1, .int 2, .int 4, .int 40]) (.tup [.int gap, .int u, .int 0, .ref (G.length + 2 : Nat)]) (by omega)
  have ol : Ord l := ⟨by omega, fun i hi => by have := as3.rng i hi; omega, as3.nd⟩
  have of : Ord f := ol.perm hf.symm
  have fl : f.length ≤ m := by have := hf.length_eq; omega
  obtain ⟨r5, P5, e5, p5, a5, b5⟩ := draw29_ok (G := G.set a (.lst P4) ++ [.lst [.int 1, .int 3, .int 33000000000000000000000000000], .lst [.int 1, .int 2, .int 4, .int 40], .lst [], .tup [.int gap, .int u, .int 0, .ref (G.length + 2 : Nat)], .lst (f.map V.int)]) (a := a) (l := 8) (by simp [-Option.bind_some, -List.map_take, -List.map_drop, -List.map_append, -List.map_reverse, -List.map_set, -List.map_dropLast, -getElem?_pos, la]) p4 (by omega) (by omega) (by omega)
  have e1' := e1
  simp [-Option.bind_some, -List.map_take, -List.map_drop, -List.map_append, -List.map_reverse, -List.map_set, -List.map_dropLast, -getElem?_pos, la] at e1 e2 e3 e4 e5
  by_cases z : r5 = 0
  · refine ⟨P5, f.reverse, ?_, p5.mono (by omega), of.perm f.reverse_perm.symm, by rw [List.length_reverse]; exact fl⟩
    simp [-Option.bind_some, -List.map_take, -List.map_drop, -List.map_append, -List.map_reverse, -List.map_set, -List.map_dropLast, -getElem?_pos, g_order_k11, n_order_k11, e1, e2, e3, e4, e5, hgap, hu, la, p5.all, z]
  · refine ⟨P5, f, ?_, p5.mono (by omega), of, fl⟩
    simp [-Option.bind_some, -List.map_take, -List.map_drop, -List.map_append, -List.map_reverse, -List.map_set, -List.map_dropLast, -getElem?_pos, g_order_k11, n_order_k11, e1, e2, e3, e4, e5, hgap, hu, la, p5.all, z]
end Zl

namespace Zl
open PySem L2
def reachL (ns : List Int) : List Int := (List.range ns.length).map fun i => topAt ns i - ns.getD i 0 + 1
def reach (ns : List Int) : Int := maxI 1 (reachL ns)
theorem reach_C1 {G : Hz} {a b : Nat} {ns : List Int} (h : G[a]? = some (.lst (ns.map V.int))) (hb : G[b]? = some (.lst ((tops ns).map V.int))) (o : Ord ns) :
    m_greatest_reach_C1 ([some (.ref a), some (.ref b), none, none] : St) G = some (.ref G.length, G ++ [.lst ((reachL ns).map V.int)]) := by
  have la := lt_get h
  have lb := lt_get hb
  have hn := o.len
  unfold m_greatest_reach_C1
  rw [comp_cut1 (it := itE a) (G0 := G) ns.length (fun _ => true) (fun i => .int (topAt ns i - ns.getD i 0 + 1)) (by simp [-Option.bind_some, -List.map_take, -List.map_drop, -List.map_append, -List.map_reverse, -List.map_set, -List.map_dropLast, -getElem?_pos, la, h]) (lt_fuel (by omega)) (by simp [-Option.bind_some, -List.map_take, -List.map_drop, -List.map_append, -List.map_reverse, -List.map_set, -List.map_dropLast, -getElem?_pos]; omega)
    (fun acc => by
      unfold itE
      rw [get_app h]
      have : (ns.map V.int)[ns.length]? = none := by rw [List.getElem?_eq_none]; rw [List.length_map]; omega
      dsimp only
      rw [this]
      rfl) (fun i hi acc => by
      have e1 : (ns.map V.int)[i]? = some (.int ns[i]) := by rw [List.getElem?_map, List.getElem?_eq_getElem hi]; rfl
      have e2 : (tops ns)[i]? = some (topAt ns i) := by
        have hl : i < (tops ns).length := by simp [-Option.bind_some, -List.map_take, -List.map_drop, -List.map_append, -List.map_reverse, -List.map_set, -List.map_dropLast, -getElem?_pos, tops, topsF_length]; omega
        unfold topAt
        rw [List.getD_eq_getElem?_getD, List.getElem?_eq_getElem hl]
        rfl
      have e3 : ns[i]?.getD 0 = ns[i] := by rw [List.getElem?_eq_getElem hi]; rfl
      refine ⟨.ref (G.length + 1 : Nat), [.tup [.int i, .int ns[i]]], ([some (.ref a), some (.ref b), some (.int i), some (.int ns[i])] : St), ?_, ?_, rfl, fun _ => ⟨?_, rfl⟩⟩
      · unfold itE
        rw [get_app h]
        dsimp only
        rw [e1]
        simp [-Option.bind_some, -List.map_take, -List.map_drop, -List.map_append, -List.map_reverse, -List.map_set, -List.map_dropLast, -getElem?_pos]
      · simp [-Option.bind_some, -List.map_take, -List.map_drop, -List.map_append, -List.map_reverse, -List.map_set, -List.map_dropLast, -getElem?_pos]
      · simp [-Option.bind_some, -List.map_take, -List.map_drop, -List.map_append, -List.map_reverse, -List.map_set, -List.map_dropLast, -getElem?_pos, lb, hb, e2, e3])]
  rw [List.filter_eq_self.mpr fun _ _ => rfl]
  unfold reachL
  rw [List.map_map]
  rfl
theorem reach_ok {G : Hz} {a : Nat} {ns : List Int} (h : G[a]? = some (.lst (ns.map V.int))) (o : Ord ns) : f_greatest_reach [.ref a] G = some (.int (reach ns), G) := by
  have la := lt_get h
  have hn := o.len
  have c1 := reach_C1 (G := G ++ [.lst ((tops ns).map V.int), .lst [.int 1]]) (b := G.length) (get_app h) (by simp [-Option.bind_some, -List.map_take, -List.map_drop, -List.map_append, -List.map_reverse, -List.map_set, -List.map_dropLast, -getElem?_pos]) o
  have t := tops_in_ok h (by omega)
  have hl : (reachL ns).length = ns.length := by simp [-Option.bind_some, -List.map_take, -List.map_drop, -List.map_append, -List.map_reverse, -List.map_set, -List.map_dropLast, -getElem?_pos, reachL]
  have hm : maxL (1 :: reachL ns) = some (reach ns) := rfl
  have hl2 : 1 + ns.length ≤ 16777216 := by omega
  simp [-Option.bind_some, -List.map_take, -List.map_drop, -List.map_append, -List.map_reverse, -List.map_set, -List.map_dropLast, -getElem?_pos] at c1
  simp [-Option.bind_some, -List.map_take, -List.map_drop, -List.map_append, -List.map_reverse, -List.map_set, -List.map_dropLast, -getElem?_pos, f_greatest_reach, m_greatest_reach, require_order_ok h o, t, c1, hl, hm, hl2]
end Zl

namespace Zl
open PySem L2
theorem comp_inv {n : Nat} {w : MI} {vs : List Nat} {g : MG} {t : MT} {e : ME} {σ : St} {G G0 : Hz} (k : Nat) (Inv : Nat → Hz → List Int → Prop) (hw : w σ G = some (itR 0 k, G0)) (h0 : Inv 0 G0 []) (hn : k < n) (hs : k ≤ sizeLine) (hlen : ∀ i B L, Inv i B L → B.length = G0.length ∧ L.length ≤ i)
    (step : ∀ i B L, i < k → Inv i B L → ∃ σx v B', g (.int (0 + (i : Nat))) (wipe σ vs) (B ++ [.lst (L.map V.int)]) = some (σx, B ++ [.lst (L.map V.int)]) ∧ t σx (B ++ [.lst (L.map V.int)]) = some (true, B ++ [.lst (L.map V.int)]) ∧
      ((e σx (B ++ [.lst (L.map V.int)])).bind fun r => cut (B ++ [.lst (L.map V.int)]) r.1 r.2) = some (.int v, B' ++ [.lst (L.map V.int)]) ∧ Inv (i + 1) B' (L ++ [v])) :
    ∃ B L, eComp n true w vs g t e σ G = some (.ref G0.length, B ++ [.lst (L.map V.int)]) ∧ Inv k B L := by
  unfold eComp
  rw [hw]
  simp only [Option.bind_some]
  obtain ⟨G', e1, B, L, rfl, hI⟩ := loopC_gen (it := itR 0 k) (turn := turnC true g t e G0.length (wipe σ vs)) (k := k) (fun i H => ∃ B L, H = B ++ [.lst (L.map V.int)] ∧ Inv i B L) (fun i H hi hI => by
    obtain ⟨B, L, rfl, hI⟩ := hI
    obtain ⟨σx, v, B', h1, h2, h3, h4⟩ := step i B L hi hI
    have l1 := hlen _ _ _ hI
    have l2 := hlen _ _ _ h4
    refine ⟨.int (0 + (i : Nat)), B ++ [.lst (L.map V.int)], B' ++ [.lst ((L ++ [v]).map V.int)], by unfold itR; rw [if_pos hi], ?_, B', L ++ [v], rfl, h4⟩
    unfold turnC
    rw [h1]
    obtain ⟨r, e2, e3⟩ := bnd h3
    simp only [Option.bind_some, h2, if_true, e2, e3]
    have e4 : (B' ++ [O.lst (L.map V.int)])[G0.length]? = some (.lst (L.map V.int)) := by
      rw [← l2.1, List.getElem?_append_right (Nat.le_refl _), Nat.sub_self]
      rfl
    rw [e4]
    have hl : (L.map V.int).length < sizeLine := by
      rw [List.length_map]
      omega
    simp only [if_pos hl]
    rw [← l2.1, List.set_append_right _ _ (Nat.le_refl _), Nat.sub_self, List.map_append]
    rfl) (fun H hI => by unfold itR; rw [if_neg (Nat.lt_irrefl _)]) n 0 (G0 ++ [.lst []]) (Nat.zero_le _) ⟨G0, [], rfl, h0⟩ (by omega)
  rw [e1]
  exact ⟨B, L, rfl, hI⟩
theorem looks_C1 {G : Hz} {a k : Nat} {n m : Int} {P : List V} (h : G[a]? = some (.lst P)) (hP : Pool P k) (hk : k ≤ 10 ^ 7) (hn0 : 0 ≤ n) (hn : n ≤ 30) (hm0 : 0 ≤ m) (hm : m ≤ 30) :
    ∃ (P' : List V) (L : List Int), n_looks_C1 ([some (.ref a), some (.int n), some (.int m), none, none] : St) G = some (.ref G.length, G.set a (.lst P') ++ [.lst (L.map V.int)]) ∧ Pool P' (k + 40) ∧ L.length ≤ m ∧ ∀ x ∈ L, 0 ≤ x ∧ x ≤ n := by
  have la := lt_get h
  obtain ⟨d, P1, e1, p1, a1, b1⟩ := draw29_ok (l := m + 1) h hP (by omega) (by omega) (by omega)
  obtain ⟨q, rfl⟩ := Int.eq_ofNat_of_zero_le a1
  unfold n_looks_C1
  obtain ⟨B, L, e, P', rfl, hp, hl, hr⟩ := comp_inv (n := fuelN) (w := iRange1 (aCons (eFn g_draw_k00 [] (aCons (eVar 0) (aCons (eBin bAdd (eVar 2) (eC (.int 1))) aNil))) aNil)) (vs := [4]) (g := gSet 4) (t := tYesZ) (e := eFn g_draw_k00 [] (aCons (eVar 0) (aCons (eBin bAdd (eVar 1) (eC (.int 1))) aNil)))
    (σ := ([some (.ref a), some (.int n), some (.int m), none, none] : St)) (G := G) (G0 := G.set a (.lst P1)) q (fun i B L => ∃ P', B = G.set a (.lst P') ∧ Pool P' (k + 1 + i) ∧ L.length = i ∧ ∀ x ∈ L, 0 ≤ x ∧ x ≤ n)
    (by simp [-Option.bind_some, -List.map_take, -List.map_drop, -List.map_append, -List.map_reverse, -List.map_set, -List.map_dropLast, -getElem?_pos, e1, rng1_int q rfl (by omega)]) ⟨P1, rfl, p1, rfl, by simp [-Option.bind_some, -List.map_take, -List.map_drop, -List.map_append, -List.map_reverse, -List.map_set, -List.map_dropLast, -getElem?_pos]⟩ (lt_fuel (by omega)) (by simp [-Option.bind_some, -List.map_take, -List.map_drop, -List.map_append, -List.map_reverse, -List.map_set, -List.map_dropLast, -getElem?_pos]; omega) (fun i B L hI => by
      obtain ⟨P', rfl, _, hl, _⟩ := hI
      exact ⟨by rw [List.length_set, List.length_set], by omega⟩) (fun i B L hi hI => by
      obtain ⟨P', rfl, hp, hl, hr⟩ := hI
      obtain ⟨r, P2, e2, p2, r0, r1⟩ := draw29_ok (G := G.set a (.lst P') ++ [.lst (L.map V.int)]) (a := a) (l := n + 1) (by simp [-Option.bind_some, -List.map_take, -List.map_drop, -List.map_append, -List.map_reverse, -List.map_set, -List.map_dropLast, -getElem?_pos, la]) hp (by omega) (by omega) (by omega)
      refine ⟨([some (.ref a), some (.int n), some (.int m), none, some (.int i)] : St), r, G.set a (.lst P2), by simp [-Option.bind_some, -List.map_take, -List.map_drop, -List.map_append, -List.map_reverse, -List.map_set, -List.map_dropLast, -getElem?_pos], rfl, ?_, P2, rfl, p2, by simp [-Option.bind_some, -List.map_take, -List.map_drop, -List.map_append, -List.map_reverse, -List.map_set, -List.map_dropLast, -getElem?_pos, hl], fun x hx => ?_⟩
      · simp [-Option.bind_some, -List.map_take, -List.map_drop, -List.map_append, -List.map_reverse, -List.map_set, -List.map_dropLast, -getElem?_pos, la] at e2
        simp [-Option.bind_some, -List.map_take, -List.map_drop, -List.map_append, -List.map_reverse, -List.map_set, -List.map_dropLast, -getElem?_pos, e2, la, cut, p2.all]
      · rcases List.mem_append.mp hx with hx | hx
        · exact hr x hx
        · rw [List.mem_singleton] at hx
          omega)
  rw [List.length_set] at e
  exact ⟨P', L, e, hp.mono (by omega), by omega, hr⟩
end Zl

namespace Zl
open PySem L2
structure Looks (L : List Int) (n : Int) : Prop where
  asc : L.Pairwise (· ≤ ·)
  rng : ∀ x ∈ L, 0 ≤ x ∧ x ≤ n
theorem Looks.irange {n : Nat} : Looks (irange 0 (n + 1)) n := by
  unfold Zl.irange
  refine ⟨?_, ?_⟩
  · rw [List.pairwise_map]
    exact List.pairwise_lt_range.imp fun h => by omega
  · intro x hx
    obtain ⟨i, hi, rfl⟩ := List.mem_map.mp hx
    have := List.mem_range.mp hi
    omega
theorem Looks.snoc {L : List Int} {n : Int} (h : Looks L n) (h0 : 0 ≤ n) : Looks (L ++ [n]) n := by
  refine ⟨List.pairwise_append.mpr ⟨h.asc, by simp, fun x hx y hy => ?_⟩, fun x hx => ?_⟩
  · rw [List.mem_singleton] at hy
    rw [hy]
    exact (h.rng x hx).2
  · rcases List.mem_append.mp hx with hx | hx
    · exact h.rng x hx
    · rw [List.mem_singleton] at hx
      omega
theorem Looks.sub {L M : List Int} {n : Int} (h : Looks L n) (s : M.Sublist L) : Looks M n := ⟨h.asc.sublist s, fun x hx => h.rng x (s.subset hx)⟩
theorem Looks.last {L : List Int} {n : Int} (h : Looks L n) (h0 : 0 ≤ n) (hne : L ≠ []) : Looks (L.set (L.length - 1) n) n := by
  rw [set_last hne]
  exact (h.sub (List.dropLast_sublist L)).snoc h0
theorem Looks.sorted {L : List Int} {n : Int} (h : ∀ x ∈ L, 0 ≤ x ∧ x ≤ n) : Looks (isort L) n := ⟨isort_sorted L, fun x hx => h x ((isort_perm L).mem_iff.mp hx)⟩
theorem looks_ok {G : Hz} {a k n : Nat} {P : List V} (h : G[a]? = some (.lst P)) (hP : Pool P k) (hk : k ≤ 10 ^ 6) (hn : n ≤ 30) :
    ∃ (P' : List V) (L : List Int), g_looks [.ref a, .int n, .int 29] G = some (.ref G.length, G.set a (.lst P') ++ [.lst (L.map V.int)]) ∧ Pool P' (k + 100) ∧ L.length ≤ 29 ∧ Looks L n := by
  have la := lt_get h
  obtain ⟨d, P1, e1, p1, a1, b1⟩ := draw29_ok (l := 6) h hP (by omega) (by omega) (by omega)
  by_cases z : d = 0 ∧ n < 29
  · obtain ⟨rfl, z⟩ := z
    have z' : (n : Int) < 29 := by omega
    have lr := lrg_ok (G := G.set a (.lst P1)) (i := 0) (j := (n : Int) + 1) (n + 1) (by omega) (by omega) (by omega) (by omega) (by omega)
    refine ⟨P1, irange 0 (n + 1), ?_, p1.mono (by omega), by unfold irange; rw [List.length_map, List.length_range]; omega, Looks.irange⟩
    simp [-Option.bind_some, -List.map_take, -List.map_drop, -List.map_append, -List.map_reverse, -List.map_set, -List.map_dropLast, -getElem?_pos] at lr
    simp [-Option.bind_some, -List.map_take, -List.map_drop, -List.map_append, -List.map_reverse, -List.map_set, -List.map_dropLast, -getElem?_pos, g_looks, n_looks, e1, z', lr, la, p1.all]
  · obtain ⟨P2, L, e2, p2, hl, hr⟩ := looks_C1 (G := G.set a (.lst P1)) (a := a) (n := n) (m := 29) (P := P1) (by simp [-Option.bind_some, -List.map_take, -List.map_drop, -List.map_append, -List.map_reverse, -List.map_set, -List.map_dropLast, -getElem?_pos, la]) p1 (by omega) (by omega) (by omega) (by omega) (by omega)
    have hsl : (isort L).length = L.length := (isort_perm L).length_eq
    have ne := cNe_nil (G := G.set a (.lst P2) ++ [.lst ((isort L).map V.int), .lst []]) (a := G.length) (b := G.length + 1) (xs := isort L) (by simp [-Option.bind_some, -List.map_take, -List.map_drop, -List.map_append, -List.map_reverse, -List.map_set, -List.map_dropLast, -getElem?_pos]) (by simp [-Option.bind_some, -List.map_take, -List.map_drop, -List.map_append, -List.map_reverse, -List.map_set, -List.map_dropLast, -getElem?_pos])
    have hs := Looks.sorted hr
    simp [-Option.bind_some, -List.map_take, -List.map_drop, -List.map_append, -List.map_reverse, -List.map_set, -List.map_dropLast, -getElem?_pos] at e2 ne
    have hz : (sIf (tAndZ (tE (eBin cEq (eFn g_draw_k00 [] (aCons (eVar 0) (aCons (eC (.int 6)) aNil))) (eC (.int 0)))) (tE (eBin cLt (eVar 1) (eVar 2)))) (sRet (eListR1 (eBin bAdd (eVar 1) (eC (.int 1))))) sPass) ([some (.ref a), some (.int n), some (.int 29), none, none] : St) G = some (.nx ([some (.ref a), some (.int n), some (.int 29), none, none] : St) (G.set a (.lst P1))) := by
      by_cases z1 : d = 0
      · have z2 : ¬ (n : Int) < 29 := by omega
        simp [-Option.bind_some, -List.map_take, -List.map_drop, -List.map_append, -List.map_reverse, -List.map_set, -List.map_dropLast, -getElem?_pos, e1, z1, z2]
      · simp [-Option.bind_some, -List.map_take, -List.map_drop, -List.map_append, -List.map_reverse, -List.map_set, -List.map_dropLast, -getElem?_pos, e1, z1]
    by_cases hne : isort L = []
    · refine ⟨P2, isort L, ?_, p2.mono (by omega), by omega, hs⟩
      simp [-Option.bind_some, -List.map_take, -List.map_drop, -List.map_append, -List.map_reverse, -List.map_set, -List.map_dropLast, -getElem?_pos, hne] at ne
      simp [-Option.bind_some, -List.map_take, -List.map_drop, -List.map_append, -List.map_reverse, -List.map_set, -List.map_dropLast, -getElem?_pos, -sIf_ev, g_looks, n_looks, hz, e2, ne, la, p2.all, hne]
      simp [-Option.bind_some, -List.map_take, -List.map_drop, -List.map_append, -List.map_reverse, -List.map_set, -List.map_dropLast, -getElem?_pos, ne, la, p2.all]
    · obtain ⟨d3, P3, e3, p3, a3, b3⟩ := draw29_ok (G := G.set a (.lst P2) ++ [.lst ((isort L).map V.int)]) (a := a) (l := 2) (P := P2) (by simp [-Option.bind_some, -List.map_take, -List.map_drop, -List.map_append, -List.map_reverse, -List.map_set, -List.map_dropLast, -getElem?_pos, la]) p2 (by omega) (by omega) (by omega)
      simp [-Option.bind_some, -List.map_take, -List.map_drop, -List.map_append, -List.map_reverse, -List.map_set, -List.map_dropLast, -getElem?_pos, la] at e3
      by_cases z3 : d3 = 0
      · have hpos : 0 < (isort L).length := List.length_pos_iff.mpr hne
        refine ⟨P3, (isort L).set ((isort L).length - 1) n, ?_, p3.mono (by omega), by rw [List.length_set]; omega, hs.last (by omega) hne⟩
        simp [-Option.bind_some, -List.map_take, -List.map_drop, -List.map_append, -List.map_reverse, -List.map_set, -List.map_dropLast, -getElem?_pos, -sIf_ev, g_looks, n_looks, hz, e2, ne, la, p2.all, hne, e3, z3]
        simp [-Option.bind_some, -List.map_take, -List.map_drop, -List.map_append, -List.map_reverse, -List.map_set, -List.map_dropLast, -getElem?_pos, ne, la, p2.all, p3.all, hne, e3, z3, hpos]
      · refine ⟨P3, isort L, ?_, p3.mono (by omega), by omega, hs⟩
        simp [-Option.bind_some, -List.map_take, -List.map_drop, -List.map_append, -List.map_reverse, -List.map_set, -List.map_dropLast, -getElem?_pos, -sIf_ev, g_looks, n_looks, hz, e2, ne, la, p2.all, hne, e3, z3]
        simp [-Option.bind_some, -List.map_take, -List.map_drop, -List.map_append, -List.map_reverse, -List.map_set, -List.map_dropLast, -getElem?_pos, ne, la, p2.all, p3.all, hne, e3, z3]
end Zl

namespace Zl
open PySem L2
def dueP (near c : Int) (g : List Int) (r : Int) : Bool := !decide (r ∈ g) && decide (c - near < r)
theorem play_C3 {H : Hz} {a l near fo cu go lk du r pa mo : V} : n_play_C3 ([some a, some l, some near, some pa, some mo, some fo, some cu, some go, some lk, some du, some r, some (.ref H.length), none, none] : St) (H ++ [.lst []]) = some (.ref (H.length + 1 : Nat), H ++ [.lst [], .lst []]) := by
  unfold n_play_C3
  rw [comp_pure (it := itL H.length) (G0 := H ++ [.lst []]) [] (fun _ => true) (fun x => x) (by simp [-Option.bind_some, -List.map_take, -List.map_drop, -List.map_append, -List.map_reverse, -List.map_set, -List.map_dropLast, -getElem?_pos]) (yl_list (by simp [-Option.bind_some, -List.map_take, -List.map_drop, -List.map_append, -List.map_reverse, -List.map_set, -List.map_dropLast, -getElem?_pos])) (lt_fuel (by simp [-Option.bind_some, -List.map_take, -List.map_drop, -List.map_append, -List.map_reverse, -List.map_set, -List.map_dropLast, -getElem?_pos])) (by simp [-Option.bind_some, -List.map_take, -List.map_drop, -List.map_append, -List.map_reverse, -List.map_set, -List.map_dropLast, -getElem?_pos]) (fun x hx acc => nomatch hx)]
  simp [-Option.bind_some, -List.map_take, -List.map_drop, -List.map_append, -List.map_reverse, -List.map_set, -List.map_dropLast, -getElem?_pos]
theorem play_B2 {H : Hz} {a l fo cu go du : Nat} {near lk r c : Int} {F : List V} {C g d : List Int} (hf : H[fo]? = some (.lst F)) (hF : F.length ≤ 40) (hc : H[cu]? = some (.lst (C.map V.int))) (hC : C.getLast? = some c) (hg : H[go]? = some (.lst (g.map V.int))) (hd : H[du]? = some (.lst (d.map V.int))) (hdl : d.length ≤ 1000) (la : a < H.length) (ll : l < H.length) :
    n_play_B2 ([some (.ref a), some (.ref l), some (.int near), some (.int 0), some (.int 0), some (.ref fo), some (.ref cu), some (.ref go), some (.int lk), some (.ref du), some (.int r), none, none, none] : St) H =
      some (.nx ([some (.ref a), some (.ref l), some (.int near), some (.int 0), some (.int 0), some (.ref fo), some (.ref cu), some (.ref go), some (.int lk), some (.ref du), none, none, none, none] : St) (if dueP near c g r = true then H.set du (.lst ((d ++ [r]).map V.int)) else H)) := by
  have lf := lt_get hf
  have lc := lt_get hc
  have lg := lt_get hg
  have ld := lt_get hd
  have lr := lrg_ok (G := H) (i := F.length) (j := F.length) 0 (by omega) (by omega) (by omega) (by omega) (by omega)
  have c3 := play_C3 (H := H) (a := .ref a) (l := .ref l) (near := .int near) (pa := .int 0) (mo := .int 0) (fo := .ref fo) (cu := .ref cu) (go := .ref go) (lk := .int lk) (du := .ref du) (r := .int r)
  have ni : cNotIn (.int r) (.ref go) (H ++ [.lst [], .lst []]) = some (.bl (!decide (r ∈ g)), H ++ [.lst [], .lst []]) := cNotIn_ints r (by simp [-Option.bind_some, -List.map_take, -List.map_drop, -List.map_append, -List.map_reverse, -List.map_set, -List.map_dropLast, -getElem?_pos, lg, hg])
  have ne := cNe_nil (G := H ++ [.lst [], .lst [], .lst []]) (a := H.length + 1) (b := H.length + 2) (xs := []) (by simp [-Option.bind_some, -List.map_take, -List.map_drop, -List.map_append, -List.map_reverse, -List.map_set, -List.map_dropLast, -getElem?_pos]) (by simp [-Option.bind_some, -List.map_take, -List.map_drop, -List.map_append, -List.map_reverse, -List.map_set, -List.map_dropLast, -getElem?_pos])
  have hm : max (0 : Int) (F.length : Int) = F.length := by omega
  have hFl : F.length < 16777216 := by omega
  have hdl2 : d.length < 16777216 := by omega
  have ei : irange (F.length : Int) 0 = [] := rfl
  simp [-Option.bind_some, -List.map_take, -List.map_drop, -List.map_append, -List.map_reverse, -List.map_set, -List.map_dropLast, -getElem?_pos, ei] at lr c3 ne
  unfold dueP
  by_cases q1 : r ∈ g
  · simp [-Option.bind_some, -List.map_take, -List.map_drop, -List.map_append, -List.map_reverse, -List.map_set, -List.map_dropLast, -getElem?_pos, n_play_B2, hf, hm, lr, c3, ni, q1, lf, lc, lg, ld, la, ll, hFl]
  · by_cases q2 : c - near < r
    · simp [-Option.bind_some, -List.map_take, -List.map_drop, -List.map_append, -List.map_reverse, -List.map_set, -List.map_dropLast, -getElem?_pos, n_play_B2, hf, hm, lr, c3, ni, q1, q2, hc, hC, hd, hdl2, lf, lc, lg, ld, la, ll, hFl]
    · simp [-Option.bind_some, -List.map_take, -List.map_drop, -List.map_append, -List.map_reverse, -List.map_set, -List.map_dropLast, -getElem?_pos, n_play_B2, hf, hm, lr, c3, ni, q1, q2, hc, hC, ne, lf, lc, lg, ld, la, ll, hFl]
end Zl

namespace Zl
open PySem L2
def dueL (near c : Int) (g ns : List Int) (k : Int) : List Int := (isort (ns.take k.toNat)).filter (dueP near c g)
theorem play_F2 {H : Hz} {a l fo cu go : Nat} {near lk c : Int} {F : List V} {C g ns : List Int} (ha : H[a]? = some (.lst (ns.map V.int))) (hn : ns.length ≤ 30) (hk : 0 ≤ lk) (hf : H[fo]? = some (.lst F)) (hF : F.length ≤ 40) (hc : H[cu]? = some (.lst (C.map V.int))) (hC : C.getLast? = some c) (hg : H[go]? = some (.lst (g.map V.int))) (ll : l < H.length) :
    n_play_F2 ([some (.ref a), some (.ref l), some (.int near), some (.int 0), some (.int 0), some (.ref fo), some (.ref cu), some (.ref go), some (.int lk), some (.ref H.length), none, none, none, none] : St) (H ++ [.lst []]) =
      some (.nx ([some (.ref a), some (.ref l), some (.int near), some (.int 0), some (.int 0), some (.ref fo), some (.ref cu), some (.ref go), some (.int lk), some (.ref H.length), none, none, none, none] : St) (H ++ [.lst ((dueL near c g ns lk).map V.int), .lst ((ns.take lk.toNat).map V.int), .lst ((isort (ns.take lk.toNat)).map V.int)])) := by
  have la := lt_get ha
  have hl : (isort (ns.take lk.toNat)).length ≤ 30 := by
    rw [(isort_perm _).length_eq, List.length_take]
    omega
  unfold n_play_F2
  have ct : cutV (ns.map V.int) none (some lk) = (ns.take lk.toNat).map V.int := by rw [cutV_to _ hk, List.map_take]
  obtain ⟨σ', G', e, rfl, rfl⟩ := forL (n := fuelN) (w := iListZ (eCall fSorted (aCons (eSlice xCut (eVar 0) oNone (oSome (eVar 8))) aNil))) (g := gSet 10) (b := n_play_B2) (σ := ([some (.ref a), some (.ref l), some (.int near), some (.int 0), some (.int 0), some (.ref fo), some (.ref cu), some (.ref go), some (.int lk), some (.ref H.length), none, none, none, none] : St)) (G := H ++ [.lst []]) (G0 := H ++ [.lst [], .lst ((ns.take lk.toNat).map V.int), .lst ((isort (ns.take lk.toNat)).map V.int)]) (a := H.length + 2) ((isort (ns.take lk.toNat)).map V.int)
    (fun i σ K => σ = ([some (.ref a), some (.ref l), some (.int near), some (.int 0), some (.int 0), some (.ref fo), some (.ref cu), some (.ref go), some (.int lk), some (.ref H.length), none, none, none, none] : St) ∧ K = H ++ [.lst ((((isort (ns.take lk.toNat)).take i).filter (dueP near c g)).map V.int), .lst ((ns.take lk.toNat).map V.int), .lst ((isort (ns.take lk.toNat)).map V.int)])
    (by simp [-Option.bind_some, -List.map_take, -List.map_drop, -List.map_append, -List.map_reverse, -List.map_set, -List.map_dropLast, -getElem?_pos, la, ha, ct]) ⟨rfl, rfl⟩ (lt_fuel (by simp [-Option.bind_some, -List.map_take, -List.map_drop, -List.map_append, -List.map_reverse, -List.map_set, -List.map_dropLast, -getElem?_pos]; omega))
    (fun i σ K hI => by
      obtain ⟨rfl, rfl⟩ := hI
      left
      simp [-Option.bind_some, -List.map_take, -List.map_drop, -List.map_append, -List.map_reverse, -List.map_set, -List.map_dropLast, -getElem?_pos])
    (fun i σ K x hx hI => by
      obtain ⟨rfl, rfl⟩ := hI
      have hi : i < (isort (ns.take lk.toNat)).length := by
        have := (List.getElem?_eq_some_iff.mp hx).1
        rwa [List.length_map] at this
      rw [List.getElem?_map, List.getElem?_eq_getElem hi] at hx
      cases hx
      have et : (isort (ns.take lk.toNat)).take (i + 1) = (isort (ns.take lk.toNat)).take i ++ [(isort (ns.take lk.toNat))[i]] := by rw [List.take_succ, List.getElem?_eq_getElem hi]; rfl
      have hdl : (((isort (ns.take lk.toNat)).take i).filter (dueP near c g)).length ≤ 1000 := by
        have := List.length_filter_le (dueP near c g) ((isort (ns.take lk.toNat)).take i)
        rw [List.length_take] at this
        omega
      rw [et, List.filter_append]
      generalize ((isort (ns.take lk.toNat)).take i).filter (dueP near c g) = d at hdl ⊢
      generalize (isort (ns.take lk.toNat))[i] = r
      have b := play_B2 (H := H ++ [.lst (d.map V.int), .lst ((ns.take lk.toNat).map V.int), .lst ((isort (ns.take lk.toNat)).map V.int)]) (a := a) (l := l) (fo := fo) (cu := cu) (go := go) (du := H.length) (near := near) (lk := lk) (r := r) (get_app hf) hF (get_app hc) hC (get_app hg) (by simp [-Option.bind_some, -List.map_take, -List.map_drop, -List.map_append, -List.map_reverse, -List.map_set, -List.map_dropLast, -getElem?_pos]) hdl (by rw [List.length_append]; omega) (by rw [List.length_append]; omega)
      refine step_nx ?_ ⟨rfl, rfl⟩
      by_cases q : dueP near c g r = true
      · have e2 : [r].filter (dueP near c g) = [r] := by rw [List.filter_cons, if_pos q]; rfl
        rw [e2]
        rw [if_pos q] at b
        simp [-Option.bind_some, -List.map_take, -List.map_drop, -List.map_append, -List.map_reverse, -List.map_set, -List.map_dropLast, -getElem?_pos] at b
        simp [-Option.bind_some, -List.map_take, -List.map_drop, -List.map_append, -List.map_reverse, -List.map_set, -List.map_dropLast, -getElem?_pos, b]
      · have e2 : [r].filter (dueP near c g) = [] := by rw [List.filter_cons, if_neg q]; rfl
        rw [e2]
        rw [if_neg q] at b
        simp [-Option.bind_some, -List.map_take, -List.map_drop, -List.map_append, -List.map_reverse, -List.map_set, -List.map_dropLast, -getElem?_pos, b])
  rw [List.length_map, List.take_length] at e
  exact e
end Zl

namespace Zl
open PySem L2
structure PS where
  c : Int
  g : List Int
  ds : List (List Int)
def playT (near : Int) (ns : List Int) (s : PS) (k : Int) : PS := ⟨maxI s.c (dueL near s.c s.g ns k), s.g ++ dueL near s.c s.g ns k, s.ds ++ [dueL near s.c s.g ns k]⟩
def playS (near : Int) (ns : List Int) (L : List Int) : PS := L.foldl (playT near ns) ⟨0, [], []⟩
theorem playS_snoc (near : Int) (ns L : List Int) (k : Int) : playS near ns (L ++ [k]) = playT near ns (playS near ns L) k := by
  unfold playS
  rw [List.foldl_append]
  rfl
theorem dueL_len (near c k : Int) (g ns : List Int) : (dueL near c g ns k).length ≤ ns.length := by
  unfold dueL
  refine Nat.le_trans (List.length_filter_le _ _) ?_
  rw [(isort_perm _).length_eq, List.length_take]
  omega
theorem play_B1 {H : Hz} {a l fo cu go : Nat} {near lk c : Int} {F : List V} {C g ns : List Int} (ha : H[a]? = some (.lst (ns.map V.int))) (hn : ns.length ≤ 30) (hk : 0 ≤ lk) (hf : H[fo]? = some (.lst F)) (hF : F.length ≤ 40) (hc : H[cu]? = some (.lst (C.map V.int))) (hC : C.getLast? = some c) (hCl : C.length ≤ 1000) (hg : H[go]? = some (.lst (g.map V.int))) (hgl : g.length ≤ 10000) (ll : l < H.length) (hfc : fo ≠ cu) :
    n_play_B1 ([some (.ref a), some (.ref l), some (.int near), some (.int 0), some (.int 0), some (.ref fo), some (.ref cu), some (.ref go), some (.int lk), none, none, none, none, none] : St) H =
      some (.nx ([some (.ref a), some (.ref l), some (.int near), some (.int 0), some (.int 0), some (.ref fo), some (.ref cu), some (.ref (H.length + 3 : Nat)), none, none, none, none, none, none] : St)
        ((H.set cu (.lst ((C ++ [maxI c (dueL near c g ns lk)]).map V.int))).set fo (.lst (F ++ [.ref H.length])) ++ [.lst ((dueL near c g ns lk).map V.int), .lst ((ns.take lk.toNat).map V.int), .lst ((isort (ns.take lk.toNat)).map V.int), .lst ((g ++ dueL near c g ns lk).map V.int), .lst [.int c], .lst ((c :: dueL near c g ns lk).map V.int)])) := by
  have la := lt_get ha
  have lf := lt_get hf
  have lc := lt_get hc
  have lg := lt_get hg
  have f2 := play_F2 (l := l) (near := near) ha hn hk hf hF hc hC hg ll
  have hdl := dueL_len near c lk g ns
  generalize dueL near c g ns lk = d at f2 hdl ⊢
  have h1 : g.length + d.length ≤ 16777216 := by omega
  have h2 : 1 + d.length ≤ 16777216 := by omega
  have h3 : C.length < 16777216 := by omega
  have h4 : F.length < 16777216 := by omega
  have hm : maxL (c :: d) = some (maxI c d) := rfl
  have hsf : ∀ o, (H.set cu o)[fo]? = some (.lst F) := fun o => by rw [List.getElem?_set_ne (Ne.symm hfc)]; exact hf
  have hsc : ∀ o, (H.set cu o).length = H.length := fun o => List.length_set
  simp [-Option.bind_some, -List.map_take, -List.map_drop, -List.map_append, -List.map_reverse, -List.map_set, -List.map_dropLast, -getElem?_pos, n_play_B1, f2, hg, hc, hC, h1, h2, h3, h4, hm, hsf, la, lf, lc, lg, ll]
end Zl

namespace Zl
open PySem L2
theorem tail_get {G T S : Hz} {x y x' y' : O} {p : Nat} {o : O} (hp : G.length + 2 ≤ p) (h : (G ++ x :: y :: T)[p]? = some o) : (G ++ x' :: y' :: (T ++ S))[p]? = some o := by
  obtain ⟨q, rfl⟩ : ∃ q, p = G.length + (q + 2) := ⟨p - G.length - 2, by omega⟩
  rw [List.getElem?_append_right (by omega), Nat.add_sub_cancel_left, List.getElem?_cons_succ, List.getElem?_cons_succ] at h ⊢
  exact get_app h
theorem mp_cat {F : Nat → Option O} {g : List Int → Option O} {rs rs' : List Nat} {ts ts' : List (List Int)} (h : rs.map F = ts.map g) (h' : rs'.map F = ts'.map g) : (rs ++ rs').map F = (ts ++ ts').map g := by rw [List.map_append, List.map_append, h, h']
def LG2 (H : Hz) (n : Nat) (rs : List Nat) (gs : List (List Int)) : Prop := rs.map (fun p => H[p]?) = (gs.map fun g => some (O.lst (g.map V.int))) ∧ ∀ p ∈ rs, n ≤ p
theorem play_F1 {G : Hz} {a l : Nat} {near : Int} {L ns : List Int} (ha : G[a]? = some (.lst (ns.map V.int))) (hn : ns.length ≤ 30) (hL : G[l]? = some (.lst (L.map V.int))) (hl : L.length ≤ 31) (hr : ∀ x ∈ L, 0 ≤ x) (T0 : O) :
    ∃ (σ' : St) (T : List O) (rs : List Nat) (C : List Int), n_play_F1 ([some (.ref a), some (.ref l), some (.int near), some (.int 0), some (.int 0), some (.ref G.length), some (.ref (G.length + 1 : Nat)), some (.ref (G.length + 2 : Nat)), none, none, none, none, none, none] : St) (G ++ [.lst [], .lst [.int 0], .lst [], T0]) =
      some (.nx σ' (G ++ .lst (rs.map V.ref) :: .lst (C.map V.int) :: T)) ∧ σ'[5]? = some (some (.ref G.length)) ∧ LG2 (G ++ .lst (rs.map V.ref) :: .lst (C.map V.int) :: T) (G.length + 2) rs (playS near ns L).ds := by
  have la := lt_get ha
  have ll := lt_get hL
  obtain ⟨σ', G', e, T, rs, C, go, rfl, rfl, h1, h2, h3, h4, h5, h6, h7⟩ := forL (n := fuelN) (w := iListZ (eVar 1)) (g := gSet 8) (b := n_play_B1) (σ := ([some (.ref a), some (.ref l), some (.int near), some (.int 0), some (.int 0), some (.ref G.length), some (.ref (G.length + 1 : Nat)), some (.ref (G.length + 2 : Nat)), none, none, none, none, none, none] : St)) (G := G ++ [.lst [], .lst [.int 0], .lst [], T0]) (G0 := G ++ [.lst [], .lst [.int 0], .lst [], T0]) (a := l) (L.map V.int)
    (fun i σ K => ∃ (T : List O) (rs : List Nat) (C : List Int) (go : Nat), σ = ([some (.ref a), some (.ref l), some (.int near), some (.int 0), some (.int 0), some (.ref G.length), some (.ref (G.length + 1 : Nat)), some (.ref go), none, none, none, none, none, none] : St) ∧ K = G ++ .lst (rs.map V.ref) :: .lst (C.map V.int) :: T ∧
      K[go]? = some (.lst ((playS near ns (L.take i)).g.map V.int)) ∧ G.length + 2 ≤ go ∧ LG2 K (G.length + 2) rs (playS near ns (L.take i)).ds ∧ C.getLast? = some (playS near ns (L.take i)).c ∧ C.length = i + 1 ∧ rs.length = i ∧ (playS near ns (L.take i)).g.length ≤ 30 * i)
    (by simp [-Option.bind_some, -List.map_take, -List.map_drop, -List.map_append, -List.map_reverse, -List.map_set, -List.map_dropLast, -getElem?_pos, ll, hL]) ⟨[.lst [], T0], [], [0], G.length + 2, rfl, rfl, by simp [-Option.bind_some, -List.map_take, -List.map_drop, -List.map_append, -List.map_reverse, -List.map_set, -List.map_dropLast, -getElem?_pos, playS], by omega, ⟨rfl, fun p hp => nomatch hp⟩, rfl, rfl, rfl, by simp [-Option.bind_some, -List.map_take, -List.map_drop, -List.map_append, -List.map_reverse, -List.map_set, -List.map_dropLast, -getElem?_pos, playS]⟩ (lt_fuel (by simp [-Option.bind_some, -List.map_take, -List.map_drop, -List.map_append, -List.map_reverse, -List.map_set, -List.map_dropLast, -getElem?_pos]; omega))
    (fun i σ K hI => by
      obtain ⟨T, rs, C, go, rfl, rfl, _⟩ := hI
      left
      exact get_app hL)
    (fun i σ K x hx hI => by
      obtain ⟨T, rs, C, go, rfl, rfl, h1, h2, h3, h4, h5, h6, h7⟩ := hI
      have hi : i < L.length := by
        have := (List.getElem?_eq_some_iff.mp hx).1
        rwa [List.length_map] at this
      rw [List.getElem?_map, List.getElem?_eq_getElem hi] at hx
      cases hx
      have et : L.take (i + 1) = L.take i ++ [L[i]] := by rw [List.take_succ, List.getElem?_eq_getElem hi]; rfl
      rw [et, playS_snoc]
      have hx0 := hr _ (List.getElem_mem hi)
      generalize L[i] = k at hx0 ⊢
      generalize playS near ns (L.take i) = s at h1 h3 h4 h7 ⊢
      have hlen : (G ++ .lst (rs.map V.ref) :: .lst (C.map V.int) :: T).length = G.length + 2 + T.length := by simp [-Option.bind_some, -List.map_take, -List.map_drop, -List.map_append, -List.map_reverse, -List.map_set, -List.map_dropLast, -getElem?_pos]; omega
      have b := play_B1 (H := G ++ .lst (rs.map V.ref) :: .lst (C.map V.int) :: T) (a := a) (l := l) (fo := G.length) (cu := G.length + 1) (go := go) (near := near) (lk := k) (c := s.c) (F := rs.map V.ref) (C := C) (g := s.g) (ns := ns) (get_app ha) hn hx0 (by simp [-Option.bind_some, -List.map_take, -List.map_drop, -List.map_append, -List.map_reverse, -List.map_set, -List.map_dropLast, -getElem?_pos]) (by simp [-Option.bind_some, -List.map_take, -List.map_drop, -List.map_append, -List.map_reverse, -List.map_set, -List.map_dropLast, -getElem?_pos]; omega) (by simp [-Option.bind_some, -List.map_take, -List.map_drop, -List.map_append, -List.map_reverse, -List.map_set, -List.map_dropLast, -getElem?_pos]) h4 (by omega) h1 (by omega) (by rw [hlen]; omega) (by omega)
      have hdl := dueL_len near s.c k s.g ns
      have hd : playT near ns s k = ⟨maxI s.c (dueL near s.c s.g ns k), s.g ++ dueL near s.c s.g ns k, s.ds ++ [dueL near s.c s.g ns k]⟩ := rfl
      rw [hd]
      generalize dueL near s.c s.g ns k = d at b hdl ⊢
      dsimp only
      have eK : (((G ++ .lst (rs.map V.ref) :: .lst (C.map V.int) :: T).set (G.length + 1) (.lst ((C ++ [maxI s.c d]).map V.int))).set G.length (.lst (rs.map V.ref ++ [.ref (G ++ .lst (rs.map V.ref) :: .lst (C.map V.int) :: T).length])) ++ [.lst (d.map V.int), .lst ((ns.take k.toNat).map V.int), .lst ((isort (ns.take k.toNat)).map V.int), .lst ((s.g ++ d).map V.int), .lst [.int s.c], .lst ((s.c :: d).map V.int)]) =
          G ++ .lst ((rs ++ [G.length + 2 + T.length]).map V.ref) :: .lst ((C ++ [maxI s.c d]).map V.int) :: (T ++ [.lst (d.map V.int), .lst ((ns.take k.toNat).map V.int), .lst ((isort (ns.take k.toNat)).map V.int), .lst ((s.g ++ d).map V.int), .lst [.int s.c], .lst ((s.c :: d).map V.int)]) := by
        rw [hlen]
        simp [-Option.bind_some, -List.map_take, -List.map_drop, -List.map_append, -List.map_reverse, -List.map_set, -List.map_dropLast, -getElem?_pos]
        rw [List.map_append]
        rfl
      rw [eK, hlen] at b
      have hnew : ∀ (j : Nat) (S : List O) (x' y' : O), (G ++ x' :: y' :: (T ++ S))[G.length + 2 + T.length + j]? = S[j]? := fun j S x' y' => by
        rw [List.getElem?_append_right (by omega), show G.length + 2 + T.length + j - G.length = (T.length + j) + 2 by omega, List.getElem?_cons_succ, List.getElem?_cons_succ, List.getElem?_append_right (by omega), Nat.add_sub_cancel_left]
      refine step_nx ?_ ⟨T ++ [.lst (d.map V.int), .lst ((ns.take k.toNat).map V.int), .lst ((isort (ns.take k.toNat)).map V.int), .lst ((s.g ++ d).map V.int), .lst [.int s.c], .lst ((s.c :: d).map V.int)], rs ++ [G.length + 2 + T.length], C ++ [maxI s.c d], G.length + 2 + T.length + 3, rfl, rfl, by rw [hnew]; rfl, by omega, ⟨?_, ?_⟩, by simp [-Option.bind_some, -List.map_take, -List.map_drop, -List.map_append, -List.map_reverse, -List.map_set, -List.map_dropLast, -getElem?_pos], by rw [List.length_append, h5]; rfl, by rw [List.length_append, h6]; rfl, by rw [List.length_append]; omega⟩
      · simp [-Option.bind_some, -List.map_take, -List.map_drop, -List.map_append, -List.map_reverse, -List.map_set, -List.map_dropLast, -getElem?_pos] at b ⊢
        exact b
      · refine mp_cat ?_ ?_
        · rw [← h3.1]
          refine List.map_congr_left fun p hp => ?_
          have hp2 := h3.2 p hp
          have : (G ++ .lst (rs.map V.ref) :: .lst (C.map V.int) :: T)[p]? ∈ rs.map fun p => (G ++ .lst (rs.map V.ref) :: .lst (C.map V.int) :: T)[p]? := List.mem_map_of_mem (f := fun p => (G ++ .lst (rs.map V.ref) :: .lst (C.map V.int) :: T)[p]?) hp
          rw [h3.1] at this
          obtain ⟨g, _, hg⟩ := List.mem_map.mp this
          rw [← hg]
          exact tail_get hp2 hg.symm
        · exact congrArg (fun x => [x]) ((hnew 0 [.lst (d.map V.int), .lst ((ns.take k.toNat).map V.int), .lst ((isort (ns.take k.toNat)).map V.int), .lst ((s.g ++ d).map V.int), .lst [.int s.c], .lst ((s.c :: d).map V.int)] _ _).trans rfl)
      · intro p hp
        rcases List.mem_append.mp hp with hp | hp
        · exact h3.2 p hp
        · rw [List.mem_singleton] at hp
          omega)
  rw [List.length_map, List.take_length] at h3
  exact ⟨_, T, rs, C, e, rfl, h3⟩
end Zl

namespace Zl
open PySem L2
theorem play_ok {G : Hz} {a l : Nat} {near : Int} {L ns : List Int} (ha : G[a]? = some (.lst (ns.map V.int))) (hn : ns.length ≤ 30) (hL : G[l]? = some (.lst (L.map V.int))) (hl : L.length ≤ 31) (hr : ∀ x ∈ L, 0 ≤ x) :
    ∃ (T : List O) (rs : List Nat), g_play [.ref a, .ref l, .int near, .int 0, .int 0] G = some (.ref G.length, G ++ .lst (rs.map V.ref) :: T) ∧ rs.map (fun p => (G ++ .lst (rs.map V.ref) :: T)[p]?) = ((playS near ns L).ds.map fun g => some (O.lst (g.map V.int))) := by
  obtain ⟨σ', T, rs, C, e, h5, h6⟩ := play_F1 (near := near) ha hn hL hl hr (.tup [.ref G.length, .ref (G.length + 1 : Nat), .ref (G.length + 2 : Nat)])
  refine ⟨.lst (C.map V.int) :: T, rs, ?_, h6.1⟩
  simp [-Option.bind_some, -List.map_take, -List.map_drop, -List.map_append, -List.map_reverse, -List.map_set, -List.map_dropLast, -getElem?_pos, g_play, n_play, e]
  simp [-Option.bind_some, -List.map_take, -List.map_drop, -List.map_append, -List.map_reverse, -List.map_set, -List.map_dropLast, -getElem?_pos, eVar, h5, sRet]
def lostP (ev : List Int) (r : Int) : Bool := !decide (r ∈ ev) && decide (r < maxI 0 ev)
def lostL (ev ns : List Int) : List Int := isort (ns.filter (lostP ev))
theorem missed29_C2 {H : Hz} {a f e : Nat} {ev ns : List Int} (ha : H[a]? = some (.lst (ns.map V.int))) (hn : ns.length ≤ 1000) (he : H[e]? = some (.lst (ev.map V.int))) (hel : ev.length ≤ 100000) (lf : f < H.length) :
    n_missed_C2 ([some (.ref a), some (.ref f), some (.ref e), none, none] : St) H = some (.ref H.length, H ++ [.lst ((ns.filter (lostP ev)).map V.int)]) := by
  have la := lt_get ha
  have le := lt_get he
  have h2 : 1 + ev.length ≤ 16777216 := by omega
  have hm : maxL (0 :: ev) = some (maxI 0 ev) := rfl
  unfold n_missed_C2
  rw [comp_intsP (it := itL a) (G0 := H) ns (lostP ev) V.int (by simp [-Option.bind_some, -List.map_take, -List.map_drop, -List.map_append, -List.map_reverse, -List.map_set, -List.map_dropLast, -getElem?_pos, ha]) (yl_list ha) (lt_fuel (by omega)) (by simp [-Option.bind_some, -List.map_take, -List.map_drop, -List.map_append, -List.map_reverse, -List.map_set, -List.map_dropLast, -getElem?_pos]; omega) (fun r hr acc => by
    have ni : cNotIn (.int r) (.ref e) (H ++ [.lst acc]) = some (.bl (!decide (r ∈ ev)), H ++ [.lst acc]) := cNotIn_ints r (by simp [-Option.bind_some, -List.map_take, -List.map_drop, -List.map_append, -List.map_reverse, -List.map_set, -List.map_dropLast, -getElem?_pos, le, he])
    refine ⟨([some (.ref a), some (.ref f), some (.ref e), none, some (.int r)] : St), by simp [-Option.bind_some, -List.map_take, -List.map_drop, -List.map_append, -List.map_reverse, -List.map_set, -List.map_dropLast, -getElem?_pos], ?_, fun _ => ⟨by simp [-Option.bind_some, -List.map_take, -List.map_drop, -List.map_append, -List.map_reverse, -List.map_set, -List.map_dropLast, -getElem?_pos], rfl⟩⟩
    unfold lostP
    by_cases q : r ∈ ev
    · simp [-Option.bind_some, -List.map_take, -List.map_drop, -List.map_append, -List.map_reverse, -List.map_set, -List.map_dropLast, -getElem?_pos, ni, q]
    · simp [-Option.bind_some, -List.map_take, -List.map_drop, -List.map_append, -List.map_reverse, -List.map_set, -List.map_dropLast, -getElem?_pos, ni, q, he, le, h2, hm])]
theorem missed29_ok {G : Hz} {a f : Nat} {rs : List Nat} {ds : List (List Int)} {ns : List Int} (ha : G[a]? = some (.lst (ns.map V.int))) (hn : ns.length ≤ 30) (hf : G[f]? = some (.lst (rs.map V.ref))) (hd : rs.map (fun p => G[p]?) = ds.map fun g => some (O.lst (g.map V.int))) (hl : ds.length ≤ 100) (hb : ds.flatten.length ≤ 100000) :
    g_missed [.ref a, .ref f] G = some (.ref G.length, G ++ [.lst ((lostL ds.flatten ns).map V.int)]) := by
  have la := lt_get ha
  have lf := lt_get hf
  have hrl : rs.length = ds.length := by
    have := congrArg List.length hd
    rwa [List.length_map, List.length_map] at this
  have lp : ∃ T e, n_missed_F1 ([some (.ref a), some (.ref f), some (.ref G.length), none, none] : St) (G ++ [.lst []]) = some (.nx ([some (.ref a), some (.ref f), some (.ref e), none, none] : St) (G ++ T)) ∧ (G ++ T)[e]? = some (.lst (ds.flatten.map V.int)) := by
    obtain ⟨σ', G', e, T, ev, rfl, rfl, h1⟩ := forL (n := fuelN) (w := iListZ (eVar 1)) (g := gSet 3) (b := n_missed_B1) (σ := ([some (.ref a), some (.ref f), some (.ref G.length), none, none] : St)) (G := G ++ [.lst []]) (G0 := G ++ [.lst []]) (a := f) (rs.map V.ref)
      (fun i σ K => ∃ (T : List O) (e : Nat), σ = ([some (.ref a), some (.ref f), some (.ref e), none, none] : St) ∧ K = G ++ T ∧ K[e]? = some (.lst ((ds.take i).flatten.map V.int)))
      (by simp [-Option.bind_some, -List.map_take, -List.map_drop, -List.map_append, -List.map_reverse, -List.map_set, -List.map_dropLast, -getElem?_pos, lf, hf]) ⟨[.lst []], G.length, rfl, rfl, by simp [-Option.bind_some, -List.map_take, -List.map_drop, -List.map_append, -List.map_reverse, -List.map_set, -List.map_dropLast, -getElem?_pos]⟩ (lt_fuel (by simp [-Option.bind_some, -List.map_take, -List.map_drop, -List.map_append, -List.map_reverse, -List.map_set, -List.map_dropLast, -getElem?_pos]; omega))
      (fun i σ K hI => by
        obtain ⟨T, e, rfl, rfl, _⟩ := hI
        left
        exact get_app hf)
      (fun i σ K x hx hI => by
        obtain ⟨T, e, rfl, rfl, h1⟩ := hI
        have hi : i < ds.length := by
          have := (List.getElem?_eq_some_iff.mp hx).1
          rw [List.length_map] at this
          omega
        have hir : i < rs.length := by omega
        rw [List.getElem?_map, List.getElem?_eq_getElem hir] at hx
        cases hx
        have hp : G[rs[i]]? = some (.lst (ds[i].map V.int)) := by
          have e : (rs.map (fun p => G[p]?))[i]? = (ds.map fun g => some (O.lst (g.map V.int)))[i]? := by rw [hd]
          rw [List.getElem?_map, List.getElem?_map, List.getElem?_eq_getElem hi, List.getElem?_eq_getElem hir] at e
          exact Option.some.inj e
        have et : ds.take (i + 1) = ds.take i ++ [ds[i]] := by rw [List.take_succ, List.getElem?_eq_getElem hi]; rfl
        have ef : (ds.take (i + 1)).flatten = (ds.take i).flatten ++ ds[i] := by rw [et, List.flatten_append]; simp
        have hlen : (ds.take i).flatten.length + ds[i].length ≤ 100000 := by
          rw [← List.length_append, ← ef]
          have h9 := congrArg (fun d => d.flatten.length) (List.take_append_drop (i + 1) ds)
          simp only [List.flatten_append, List.length_append] at h9
          omega
        rw [ef]
        generalize (ds.take i).flatten = ev at h1 hlen ⊢
        generalize ds[i] = d at hp hlen ⊢
        generalize rs[i] = p at hp ⊢
        have lp := lt_get hp
        have le := lt_get h1
        have h2 : ev.length + d.length ≤ 16777216 := by omega
        have hp2 : (G ++ T)[p]? = some (.lst (d.map V.int)) := get_app hp
        refine step_nx (G := (G ++ T) ++ [.lst ((ev ++ d).map V.int)]) ?_ ⟨T ++ [.lst ((ev ++ d).map V.int)], (G ++ T).length, rfl, List.append_assoc _ _ _, ?_⟩
        · generalize G ++ T = K at *
          simp [-Option.bind_some, -List.map_take, -List.map_drop, -List.map_append, -List.map_reverse, -List.map_set, -List.map_dropLast, -getElem?_pos, n_missed_B1, h1, hp2, h2]
        · rw [List.getElem?_append_right (Nat.le_refl _), Nat.sub_self]
          rfl)
    rw [List.length_map, hrl, List.take_length] at h1
    exact ⟨T, ev, e, h1⟩
  obtain ⟨T, e, e1, he⟩ := lp
  have c2 := missed29_C2 (f := f) (a := a) (H := G ++ T) (get_app ha) (by omega) he hb (by rw [List.length_append]; omega)
  simp [-Option.bind_some, -List.map_take, -List.map_drop, -List.map_append, -List.map_reverse, -List.map_set, -List.map_dropLast, -getElem?_pos] at c2
  simp [-Option.bind_some, -List.map_take, -List.map_drop, -List.map_append, -List.map_reverse, -List.map_set, -List.map_dropLast, -getElem?_pos, g_missed, n_missed, e1, c2, lostL]
end Zl

namespace Zl
open PySem L2
theorem forE_gen {n : Nat} {w : MI} {g : MG} {b : MS} {σ : St} {G G0 : Hz} {a : Nat} (xs : List V) (Inv : Nat → St → Hz → Prop) (B : St → Hz → Prop) (Rt : V → Hz → Prop) (hw : w σ G = some (itE a, G0)) (h0 : Inv 0 σ G0) (hk : xs.length < n)
    (keep : ∀ i σ G, Inv i σ G → G[a]? = some (.lst xs))
    (step : ∀ (i : Nat) σ G x, xs[i]? = some x → Inv i σ G → ∃ r, ((g (.ref G.length) σ (G ++ [.tup [.int (i : Int), x]])).bind fun p => b p.1 p.2) = some r ∧ After (Inv (i + 1)) B Rt r) (last : ∀ σ G, Inv xs.length σ G → B σ G) : ∃ r, sFor n w g b σ G = some r ∧ Done B Rt r := by
  unfold sFor
  rw [hw]
  have at_ : ∀ (i : Nat) σ G, Inv i σ G → itE a i G = some (xs[i]?.map fun x => (.ref G.length, G ++ [.tup [.int (i : Int), x]])) := fun i σ G h => by
    unfold itE
    rw [keep i σ G h]
  refine loopF_gen (it := itE a) (k := xs.length) Inv B Rt (fun i σ G hi hI => ⟨_, _, by rw [at_ i σ G hI, List.getElem?_eq_getElem hi]; rfl, step i σ G _ (List.getElem?_eq_getElem hi) hI⟩) (fun σ G hI => ⟨by rw [at_ _ σ G hI, List.getElem?_eq_none (Nat.le_refl _)]; rfl, last σ G hI⟩) n 0 σ G0 (Nat.zero_le _) h0 (by omega)
/-! ### dangers -/
def dangF (ns : List Int) (row : Int) : Option Nat := (List.range (ns.idxOf row + 1)).find? fun m => decide (row < topAt ns m)
def dangV (b : Nat) (ns : List Int) (row : Int) : V × List O := match dangF ns row with
  | none => (.non, [])
  | some m => (.ref b, [.tup [.int m, .int (ns.idxOf row : Nat)]])
def dangD (ns : List Int) (row : Int) : PyData := match dangF ns row with
  | none => .none
  | some m => .tuple [.int m, .int (ns.idxOf row : Nat)]
theorem find_range_some {n m : Nat} {p : Nat → Bool} (h : m < n) (hp : p m = true) (hq : ∀ j, j < m → p j = false) : (List.range n).find? p = some m := by
  rw [List.find?_eq_some_iff_getElem]
  exact ⟨hp, m, by simp [-Option.bind_some, -List.map_take, -List.map_drop, -List.map_append, -List.map_reverse, -List.map_set, -List.map_dropLast, -getElem?_pos]; exact h, by simp [-Option.bind_some, -List.map_take, -List.map_drop, -List.map_append, -List.map_reverse, -List.map_set, -List.map_dropLast, -getElem?_pos], fun j hj => by simp [-Option.bind_some, -List.map_take, -List.map_drop, -List.map_append, -List.map_reverse, -List.map_set, -List.map_dropLast, -getElem?_pos, hq j hj]⟩
theorem find_range_none {n : Nat} {p : Nat → Bool} (h : ∀ j, j < n → p j = false) : (List.range n).find? p = none := by
  rw [List.find?_eq_none]
  intro j hj
  rw [h j (List.mem_range.mp hj)]
  decide
theorem dangF_none {ns : List Int} {row : Int} (h : ∀ m, m ≤ ns.idxOf row → ¬ row < topAt ns m) : dangF ns row = none := find_range_none fun j hj => decide_eq_false (h j (by omega))
theorem dangF_some {ns : List Int} {row : Int} {m : Nat} (h : m ≤ ns.idxOf row) (h1 : row < topAt ns m) (h2 : ∀ j, j < m → ¬ row < topAt ns j) : dangF ns row = some m := find_range_some (by omega) (decide_eq_true h1) fun j hj => decide_eq_false (h2 j hj)
theorem tops_getElem {ns : List Int} {k : Nat} (h : k ≤ ns.length) : (tops ns)[k]? = some (topAt ns k) := by
  have hl : k < (tops ns).length := by simp [-Option.bind_some, -List.map_take, -List.map_drop, -List.map_append, -List.map_reverse, -List.map_set, -List.map_dropLast, -getElem?_pos, tops, topsF_length]; omega
  unfold topAt
  rw [List.getD_eq_getElem?_getD, List.getElem?_eq_getElem hl]
  rfl
theorem idx_lt {ns : List Int} {row : Int} (h : row ∈ ns) : ns.idxOf row < ns.length := List.idxOf_lt_length_of_mem h
theorem danger_F1 {G : Hz} {a p : Nat} {ns : List Int} {row : Int} (h : G[a]? = some (.lst (ns.map V.int))) (hn : ns.length ≤ 1000) (hp : p ≤ ns.length) :
    ∃ r, m_danger_in_F1 [some (.ref a), some (.int row), some (.int p), none, none] G = some r ∧
      Done (fun σ H => (∀ m, m ≤ p → ¬ row < topAt ns m) ∧ ∃ S, H = G ++ S) (fun v H => ∃ (m k : Nat) (S : List O), m ≤ p ∧ row < topAt ns m ∧ (∀ j, j < m → ¬ row < topAt ns j) ∧ H = G ++ S ∧ v = .ref k ∧ G.length ≤ k ∧ (G ++ S)[k]? = some (.tup [.int m, .int p])) r := by
  have la := lt_get h
  have ht := tops_in_ok h hn
  have htl : (tops ns).length = ns.length + 1 := by simp [-Option.bind_some, -List.map_take, -List.map_drop, -List.map_append, -List.map_reverse, -List.map_set, -List.map_dropLast, -getElem?_pos, tops, topsF_length]
  unfold m_danger_in_F1
  refine forE_gen (a := G.length + 1) (G0 := G ++ [.lst ((tops ns).map V.int), .lst (((tops ns).take (p + 1)).map V.int)]) (((tops ns).take (p + 1)).map V.int)
    (fun i σ H => σ = [some (.ref a), some (.int row), some (.int p), none, none] ∧ (∀ m, m < i → ¬ row < topAt ns m) ∧ ∃ S, H = G ++ .lst ((tops ns).map V.int) :: .lst (((tops ns).take (p + 1)).map V.int) :: S) _ _ ?_ ⟨rfl, by omega, [], by simp [-Option.bind_some, -List.map_take, -List.map_drop, -List.map_append, -List.map_reverse, -List.map_set, -List.map_dropLast, -getElem?_pos]⟩ (lt_fuel (by simp [-Option.bind_some, -List.map_take, -List.map_drop, -List.map_append, -List.map_reverse, -List.map_set, -List.map_dropLast, -getElem?_pos]; omega)) ?_ ?_ ?_
  · simp [-Option.bind_some, -List.map_take, -List.map_drop, -List.map_append, -List.map_reverse, -List.map_set, -List.map_dropLast, -getElem?_pos, ht]
  · rintro i σ H ⟨rfl, _, S, rfl⟩
    simp [-Option.bind_some, -List.map_take, -List.map_drop, -List.map_append, -List.map_reverse, -List.map_set, -List.map_dropLast, -getElem?_pos]
  · rintro i σ H x hx ⟨rfl, h2, S, rfl⟩
    obtain ⟨t, hti, hx2, hip⟩ : ∃ t, (tops ns)[i]? = some t ∧ V.int t = x ∧ i < p + 1 := by
      rw [List.getElem?_map, List.getElem?_take] at hx
      split at hx
      · obtain ⟨t, h1, h2⟩ := Option.map_eq_some_iff.mp hx
        exact ⟨t, h1, h2, by assumption⟩
      · cases hx
    subst hx2
    have hta : t = topAt ns i := by
      rw [tops_getElem (by omega)] at hti
      exact (Option.some.inj hti).symm
    subst hta
    by_cases q : row < topAt ns i
    · apply step_rt
      · simp [-Option.bind_some, -List.map_take, -List.map_drop, -List.map_append, -List.map_reverse, -List.map_set, -List.map_dropLast, -getElem?_pos, m_danger_in_B1, q, la]
        exact ⟨rfl, rfl⟩
      · refine ⟨i, _, _, by omega, q, h2, rfl, rfl, ?_, ?_⟩
        · simp [-Option.bind_some, -List.map_take, -List.map_drop, -List.map_append, -List.map_reverse, -List.map_set, -List.map_dropLast, -getElem?_pos]
        · simp [-Option.bind_some, -List.map_take, -List.map_drop, -List.map_append, -List.map_reverse, -List.map_set, -List.map_dropLast, -getElem?_pos]
    · apply step_nx
      · simp [-Option.bind_some, -List.map_take, -List.map_drop, -List.map_append, -List.map_reverse, -List.map_set, -List.map_dropLast, -getElem?_pos, m_danger_in_B1, q, la]
        exact ⟨rfl, rfl⟩
      · refine ⟨rfl, fun m hm => ?_, _, rfl⟩
        by_cases z : m = i
        · rw [z]; exact q
        · exact h2 m (by omega)
  · rintro σ H ⟨rfl, h2, S, rfl⟩
    refine ⟨fun m hm => h2 m ?_, _, rfl⟩
    rw [List.length_map, List.length_take]
    omega

theorem index_ok {G : Hz} {a : Nat} {ns : List Int} {row : Int} (h : G[a]? = some (.lst (ns.map V.int))) (hr : row ∈ ns) : mIndex (.ref a) [.int row] G = some (.int ((ns.idxOf row : Nat) : Int), G) := by
  simp [-Option.bind_some, -List.map_take, -List.map_drop, -List.map_append, -List.map_reverse, -List.map_set, -List.map_dropLast, -getElem?_pos, h, hr]
theorem danger_in_ok {G : Hz} {a : Nat} {ns : List Int} {row : Int} (h : G[a]? = some (.lst (ns.map V.int))) (hn : ns.length ≤ 1000) (hr : row ∈ ns) : f_danger_in [.ref a, .int row] G = some ((dangV G.length ns row).1, G ++ (dangV G.length ns row).2) := by
  have la := lt_get h
  have hp := idx_lt hr
  obtain ⟨r, e, z⟩ := danger_F1 (row := row) (p := ns.idxOf row) h hn (by omega)
  cases r with
  | nx σ H =>
    obtain ⟨h1, S, rfl⟩ := z
    simp [-Option.bind_some, -List.map_take, -List.map_drop, -List.map_append, -List.map_reverse, -List.map_set, -List.map_dropLast, -getElem?_pos, f_danger_in, m_danger_in, h, hr, e, dangV, dangF_none h1]
  | rt v H =>
    obtain ⟨m, k, S, h1, h2, h3, rfl, rfl, h4, h5⟩ := z
    have hk : ¬ k < G.length := by omega
    simp [-Option.bind_some, -List.map_take, -List.map_drop, -List.map_append, -List.map_reverse, -List.map_set, -List.map_dropLast, -getElem?_pos, f_danger_in, m_danger_in, h, hr, e, dangV, dangF_some h1 h2 h3, hk, h5]
  | bk _ _ => exact z.elim
  | ct _ _ => exact z.elim
theorem dangV_rd (ns : List Int) (row : Int) (k : Nat) (G T : Hz) : rdD (k + 1) (G ++ (dangV G.length ns row).2 ++ T) (dangV G.length ns row).1 = some (dangD ns row) := by
  unfold dangV dangD
  cases dangF ns row with
  | none => simp [-Option.bind_some, -List.map_take, -List.map_drop, -List.map_append, -List.map_reverse, -List.map_set, -List.map_dropLast, -getElem?_pos]
  | some m =>
    refine rd_tup (xs := [.int m, .int (ns.idxOf row : Nat)]) ?_ ?_
    · simp [-Option.bind_some, -List.map_take, -List.map_drop, -List.map_append, -List.map_reverse, -List.map_set, -List.map_dropLast, -getElem?_pos]
    · simp [-Option.bind_some, -List.map_take, -List.map_drop, -List.map_append, -List.map_reverse, -List.map_set, -List.map_dropLast, -getElem?_pos]
theorem dangV_non (b : Nat) (ns : List Int) (row : Int) : decide ((dangV b ns row).1 = .non) = decide (dangF ns row = none) := by
  unfold dangV
  cases dangF ns row <;> simp [-Option.bind_some, -List.map_take, -List.map_drop, -List.map_append, -List.map_reverse, -List.map_set, -List.map_dropLast, -getElem?_pos]
theorem dangV_cut {G : Hz} {ns : List Int} {row : Int} : cut G (dangV G.length ns row).1 (G ++ (dangV G.length ns row).2) = some ((dangV G.length ns row).1, G ++ (dangV G.length ns row).2) := by
  unfold dangV
  cases dangF ns row <;> simp [-Option.bind_some, -List.map_take, -List.map_drop, -List.map_append, -List.map_reverse, -List.map_set, -List.map_dropLast, -getElem?_pos]
theorem dangV_kept {G : Hz} {ns : List Int} {row : Int} (n b : Nat) : keptB n G (G ++ (dangV b ns row).2) = true := kept_app n G G _ (kept_refl n G)
theorem require_id_ok {G : Hz} {a : Nat} {ns : List Int} {row : Int} (h : G[a]? = some (.lst (ns.map V.int))) (o : Ord ns) (hr : row ∈ ns) : f_require_id_of [.ref a, .int row] G = some (.non, G) := by
  have hx := o.rng row hr
  simp [-Option.bind_some, -List.map_take, -List.map_drop, -List.map_append, -List.map_reverse, -List.map_set, -List.map_dropLast, -getElem?_pos, f_require_id_of, m_require_id_of, is_id_int, h, hx, cNotIn_ints row h, hr]
theorem danger_of_ok {G : Hz} {a : Nat} {ns : List Int} {row : Int} (h : G[a]? = some (.lst (ns.map V.int))) (o : Ord ns) (hr : row ∈ ns) : f_danger_of [.ref a, .int row] G = some ((dangV G.length ns row).1, G ++ (dangV G.length ns row).2) := by
  have := o.len
  simp [-Option.bind_some, -List.map_take, -List.map_drop, -List.map_append, -List.map_reverse, -List.map_set, -List.map_dropLast, -getElem?_pos, f_danger_of, m_danger_of, require_order_ok h o, require_id_ok h o hr, danger_in_ok h (by omega) hr, dangV_cut]
/-- the ids without danger -/
def safeL (ns : List Int) : List Int := ns.filter fun row => decide (dangF ns row = none)
theorem safe_ids_C1 {G : Hz} {a : Nat} {ns : List Int} (h : G[a]? = some (.lst (ns.map V.int))) (hn : ns.length ≤ 1000) : m_safe_ids_C1 [some (.ref a), none] G = some (.ref G.length, G ++ [.lst ((safeL ns).map V.int)]) := by
  have la := lt_get h
  unfold m_safe_ids_C1
  rw [comp_intsP (it := itL a) (G0 := G) ns (fun row => decide (dangF ns row = none)) V.int (by simp [-Option.bind_some, -List.map_take, -List.map_drop, -List.map_append, -List.map_reverse, -List.map_set, -List.map_dropLast, -getElem?_pos, h]) (yl_list h) (lt_fuel (by omega)) (by simp [-Option.bind_some, -List.map_take, -List.map_drop, -List.map_append, -List.map_reverse, -List.map_set, -List.map_dropLast, -getElem?_pos]; omega) (fun row hr acc => by
    have := danger_in_ok (G := G ++ [.lst acc]) (a := a) (by simp [-Option.bind_some, -List.map_take, -List.map_drop, -List.map_append, -List.map_reverse, -List.map_set, -List.map_dropLast, -getElem?_pos, la, h]) hn hr
    refine ⟨[some (.ref a), some (.int row)], by simp [-Option.bind_some, -List.map_take, -List.map_drop, -List.map_append, -List.map_reverse, -List.map_set, -List.map_dropLast, -getElem?_pos], ?_, fun _ => ⟨by simp [-Option.bind_some, -List.map_take, -List.map_drop, -List.map_append, -List.map_reverse, -List.map_set, -List.map_dropLast, -getElem?_pos], rfl⟩⟩
    simp [-Option.bind_some, -List.map_take, -List.map_drop, -List.map_append, -List.map_reverse, -List.map_set, -List.map_dropLast, -getElem?_pos, this, dangV_non])]
  rfl

theorem sorted_ok {G : Hz} {a : Nat} {ns : List Int} (h : G[a]? = some (.lst (ns.map V.int))) : fSorted [.ref a] G = some (.ref G.length, G ++ [.lst ((isort ns).map V.int)]) := by simp [-Option.bind_some, -List.map_take, -List.map_drop, -List.map_append, -List.map_reverse, -List.map_set, -List.map_dropLast, -getElem?_pos, h]
theorem safe_ids_ok {G : Hz} {a : Nat} {ns : List Int} (h : G[a]? = some (.lst (ns.map V.int))) (o : Ord ns) : f_safe_ids [.ref a] G = some (.ref G.length, G ++ [.lst ((isort (safeL ns)).map V.int)]) := by
  have la := lt_get h
  have := o.len
  simp [-Option.bind_some, -List.map_take, -List.map_drop, -List.map_append, -List.map_reverse, -List.map_set, -List.map_dropLast, -getElem?_pos, f_safe_ids, m_safe_ids, require_order_ok h o, safe_ids_C1 h (by omega)]
/-! ### the law's own dangers -/
theorem maxI_topsF (ns : List Int) : ∀ t : Int, (t :: topsF t ns).getLast? = some (maxI t ns) := by
  induction ns with
  | nil => intro t; rfl
  | cons j ns ih =>
    intro t
    rw [topsF, List.getLast?_cons_cons, ih]
    have e : max t j = if j > t then j else t := by split <;> omega
    rw [e]
    rfl
theorem topsF_take (ns : List Int) : ∀ (t : Int) (k : Nat), topsF t (ns.take k) = (topsF t ns).take k := by
  induction ns with
  | nil => intro t k; simp [-Option.bind_some, -List.map_take, -List.map_drop, -List.map_append, -List.map_reverse, -List.map_set, -List.map_dropLast, -getElem?_pos, topsF]
  | cons j ns ih =>
    intro t k
    cases k with
    | zero => rfl
    | succ k => simp [-Option.bind_some, -List.map_take, -List.map_drop, -List.map_append, -List.map_reverse, -List.map_set, -List.map_dropLast, -getElem?_pos, topsF, ih]
theorem maxI_take {ns : List Int} {k : Nat} (h : k ≤ ns.length) : maxI 0 (ns.take k) = topAt ns k := by
  have e := maxI_topsF (ns.take k) 0
  rw [topsF_take] at e
  have e2 : (0 :: (topsF 0 ns).take k) = (tops ns).take (k + 1) := rfl
  have hl : (tops ns).length = ns.length + 1 := by simp [-Option.bind_some, -List.map_take, -List.map_drop, -List.map_append, -List.map_reverse, -List.map_set, -List.map_dropLast, -getElem?_pos, tops, topsF_length]
  have el : ((tops ns).take (k + 1)).length - 1 = k := by rw [List.length_take]; omega
  rw [e2, List.getLast?_eq_getElem?, el, List.getElem?_take_of_lt (Nat.lt_succ_self k), tops_getElem h] at e
  exact (Option.some.inj e).symm
theorem dangers_C1 {G : Hz} {a : Nat} {ns : List Int} {row : Int} (h : G[a]? = some (.lst (ns.map V.int))) (hn : ns.length ≤ 1000) (hr : row ∈ ns) :
    n_danger_k08_C1 [some (.ref a), some (.int row), none, none] G = some (.ref G.length, G ++ [.lst (((List.range (ns.idxOf row + 1)).filter fun m => decide (row < topAt ns m)).map fun (m : Nat) => V.int m)]) := by
  have la := lt_get h
  have hp := idx_lt hr
  unfold n_danger_k08_C1
  rw [comp_rangeP (G0 := G) 0 (ns.idxOf row + 1) (fun m => decide (row < topAt ns m)) (fun (m : Nat) => V.int m) (by simp [-Option.bind_some, -List.map_take, -List.map_drop, -List.map_append, -List.map_reverse, -List.map_set, -List.map_dropLast, -getElem?_pos, index_ok h hr, h, rng1_int (i := (ns.idxOf row : Int) + 1) (ns.idxOf row + 1) (by omega) (by omega)]) (lt_fuel (by omega)) (by simp [-Option.bind_some, -List.map_take, -List.map_drop, -List.map_append, -List.map_reverse, -List.map_set, -List.map_dropLast, -getElem?_pos]; omega) (fun m hm acc => by
    refine ⟨[some (.ref a), some (.int row), none, some (.int m)], by simp [-Option.bind_some, -List.map_take, -List.map_drop, -List.map_append, -List.map_reverse, -List.map_set, -List.map_dropLast, -getElem?_pos], ?_, fun _ => ⟨by simp [-Option.bind_some, -List.map_take, -List.map_drop, -List.map_append, -List.map_reverse, -List.map_set, -List.map_dropLast, -getElem?_pos], rfl⟩⟩
    have e := maxI_take (ns := ns) (k := m) (by omega)
    have hm2 : 1 + min m ns.length ≤ 16777216 := by omega
    simp [-Option.bind_some, -List.map_take, -List.map_drop, -List.map_append, -List.map_reverse, -List.map_set, -List.map_dropLast, -getElem?_pos, la, h, maxL, e, hm2])]

theorem topAt_mono {ns : List Int} {j : Nat} : ∀ {k : Nat}, j ≤ k → k ≤ ns.length → (∀ i ∈ ns, 1 ≤ i) → topAt ns j ≤ topAt ns k
  | 0, h, _, _ => by
    have : j = 0 := by omega
    rw [this]
    exact Int.le_refl _
  | k + 1, h, h2, h3 => by
    by_cases q : j = k + 1
    · rw [q]; exact Int.le_refl _
    · have e := tops_get ns k (by omega) h3
      have := topAt_mono (j := j) (k := k) (by omega) (by omega) h3
      omega
theorem dangersL_eq {ns : List Int} {row : Int} (o : Ord ns) (hr : row ∈ ns) : match dangF ns row with
    | none => ((List.range (ns.idxOf row + 1)).filter fun m => decide (row < topAt ns m)) = []
    | some m => ∃ l l', ((List.range (ns.idxOf row + 1)).filter fun m => decide (row < topAt ns m)) = m :: l ∧ m :: l = l' ++ [ns.idxOf row] := by
  have hp := idx_lt hr
  cases q : dangF ns row with
  | none =>
    show _ = []
    rw [List.filter_eq_nil_iff]
    exact List.find?_eq_none.mp q
  | some m =>
    have h1 := List.find?_some q
    have h1' : row < topAt ns m := of_decide_eq_true h1
    have hm := List.mem_range.mp (List.mem_of_find?_eq_some q)
    have hh : ((List.range (ns.idxOf row + 1)).filter fun m => decide (row < topAt ns m)).head? = some m := by
      rw [List.head?_filter]
      exact q
    have hl : row < topAt ns (ns.idxOf row) := Int.lt_of_lt_of_le h1' (topAt_mono (by omega) (by omega) fun i hi => (o.rng i hi).1)
    have hs : ((List.range (ns.idxOf row + 1)).filter fun m => decide (row < topAt ns m)) = ((List.range (ns.idxOf row)).filter fun m => decide (row < topAt ns m)) ++ [ns.idxOf row] := by
      rw [List.range_succ, List.filter_append, List.filter_cons, decide_eq_true hl]
      rfl
    rw [hs] at hh ⊢
    cases hf : ((List.range (ns.idxOf row)).filter fun m => decide (row < topAt ns m)) with
    | nil =>
      rw [hf] at hh
      cases hh
      exact ⟨[], [], rfl, rfl⟩
    | cons x l =>
      rw [hf] at hh
      cases hh
      exact ⟨l ++ [ns.idxOf row], m :: l, rfl, rfl⟩
theorem law_danger_ok {G : Hz} {a : Nat} {ns : List Int} {row : Int} (h : G[a]? = some (.lst (ns.map V.int))) (o : Ord ns) (hr : row ∈ ns) : g_danger_k08 [.ref a, .int row] G = some ((dangV G.length ns row).1, G ++ (dangV G.length ns row).2) := by
  have la := lt_get h
  have hn := o.len
  have hd := dangersL_eq o hr
  have hc := dangers_C1 h (by omega) hr
  unfold dangV
  cases q : dangF ns row with
  | none =>
    rw [q] at hd
    dsimp only at hd ⊢
    rw [hd] at hc
    have hne := cNe_nil (G := G ++ [.lst [], .lst []]) (a := G.length) (b := G.length + 1) (xs := []) (by simp [-Option.bind_some, -List.map_take, -List.map_drop, -List.map_append, -List.map_reverse, -List.map_set, -List.map_dropLast, -getElem?_pos]) (by simp [-Option.bind_some, -List.map_take, -List.map_drop, -List.map_append, -List.map_reverse, -List.map_set, -List.map_dropLast, -getElem?_pos])
    simp [-Option.bind_some, -List.map_take, -List.map_drop, -List.map_append, -List.map_reverse, -List.map_set, -List.map_dropLast, -getElem?_pos] at hc hne
    simp [-Option.bind_some, -List.map_take, -List.map_drop, -List.map_append, -List.map_reverse, -List.map_set, -List.map_dropLast, -getElem?_pos, g_danger_k08, n_danger_k08, hc, hne]
  | some m =>
    rw [q] at hd
    obtain ⟨l, l', h1, h2⟩ := hd
    dsimp only
    rw [h1] at hc
    have hne := cNe_nil (G := G ++ [.lst ((m :: l).map fun (m : Nat) => V.int m), .lst []]) (a := G.length) (b := G.length + 1) (xs := (m :: l).map fun (m : Nat) => (m : Int)) (by simp [-Option.bind_some, -List.map_take, -List.map_drop, -List.map_append, -List.map_reverse, -List.map_set, -List.map_dropLast, -getElem?_pos]) (by simp [-Option.bind_some, -List.map_take, -List.map_drop, -List.map_append, -List.map_reverse, -List.map_set, -List.map_dropLast, -getElem?_pos])
    have hlast : (V.int m :: l.map fun (m : Nat) => V.int m).getLast? = some (.int (ns.idxOf row : Nat)) := by
      show ((m :: l).map fun (m : Nat) => V.int m).getLast? = _
      rw [h2, List.map_append, List.getLast?_append]
      rfl
    simp [-Option.bind_some, -List.map_take, -List.map_drop, -List.map_append, -List.map_reverse, -List.map_set, -List.map_dropLast, -getElem?_pos] at hc hne
    simp [-Option.bind_some, -List.map_take, -List.map_drop, -List.map_append, -List.map_reverse, -List.map_set, -List.map_dropLast, -getElem?_pos, g_danger_k08, n_danger_k08, hc, hne, hlast]

theorem dangD_tame {ns : List Int} {row : Int} (hn : ns.length ≤ 1000) : Tame (dangD ns row) 400 1 := by
  unfold dangD
  cases q : dangF ns row with
  | none => exact Tame.non.mono (by omega) (by omega)
  | some m =>
    have hm := List.mem_range.mp (List.mem_of_find?_eq_some q)
    have hp : ns.idxOf row ≤ ns.length := List.idxOf_le_length
    refine (Tame.tup (L := 152) (k := 0) fun x hx => ?_).mono (by simp [-Option.bind_some, -List.map_take, -List.map_drop, -List.map_append, -List.map_reverse, -List.map_set, -List.map_dropLast, -getElem?_pos]) (Nat.le_refl _)
    simp [-Option.bind_some, -List.map_take, -List.map_drop, -List.map_append, -List.map_reverse, -List.map_set, -List.map_dropLast, -getElem?_pos] at hx
    rcases hx with rfl | rfl
    · exact .int (by omega)
    · exact .int (by omega)
def itemF (ns : List Int) (b : Nat) : V → V × List O
  | .int row => (.ref (b + (dangV b ns row).2.length), (dangV b ns row).2 ++ [.tup [.int row, (dangV b ns row).1]])
  | _ => (.non, [])
theorem right_C1 {G : Hz} {a : Nat} {ns : List Int} (h : G[a]? = some (.lst (ns.map V.int))) (o : Ord ns) :
    n_right_k08_C1 [some (.ref a), none, none, none, none, none] G = some (.ref G.length, G ++ .lst (packC (itemF ns) (G.length + 1) (ns.map V.int)).1 :: (packC (itemF ns) (G.length + 1) (ns.map V.int)).2) := by
  have la := lt_get h
  have hn := o.len
  unfold n_right_k08_C1
  rw [comp_pack (it := itL a) (G0 := G) (ns.map V.int) (fun _ => true) (itemF ns) (by simp [-Option.bind_some, -List.map_take, -List.map_drop, -List.map_append, -List.map_reverse, -List.map_set, -List.map_dropLast, -getElem?_pos, h]) (yl_list h) (lt_fuel (by simp [-Option.bind_some, -List.map_take, -List.map_drop, -List.map_append, -List.map_reverse, -List.map_set, -List.map_dropLast, -getElem?_pos]; omega)) (by simp [-Option.bind_some, -List.map_take, -List.map_drop, -List.map_append, -List.map_reverse, -List.map_set, -List.map_dropLast, -getElem?_pos]; omega) (fun x hx acc S => by
    obtain ⟨row, hr, rfl⟩ := List.mem_map.mp hx
    refine ⟨[some (.ref a), none, none, none, none, some (.int row)], by simp [-Option.bind_some, -List.map_take, -List.map_drop, -List.map_append, -List.map_reverse, -List.map_set, -List.map_dropLast, -getElem?_pos], rfl, fun _ => ?_⟩
    have e := law_danger_ok (G := G ++ .lst acc :: S) (a := a) (by simp [-Option.bind_some, -List.map_take, -List.map_drop, -List.map_append, -List.map_reverse, -List.map_set, -List.map_dropLast, -getElem?_pos, la, h]) o hr
    simp [-Option.bind_some, -List.map_take, -List.map_drop, -List.map_append, -List.map_reverse, -List.map_set, -List.map_dropLast, -getElem?_pos] at e
    simp [-Option.bind_some, -List.map_take, -List.map_drop, -List.map_append, -List.map_reverse, -List.map_set, -List.map_dropLast, -getElem?_pos, e, itemF]
    show @Eq Nat _ _
    omega)]
  rw [List.filter_eq_self.mpr fun _ _ => rfl]
/-- the dict of the dangers stands at d -/
structure Dues (H : Hz) (d : Nat) (ns : List Int) : Prop where
  ex : ∃ kvs, H[d]? = some (.dK kvs) ∧ mapO (entD 19 H) kvs = some (ns.map fun n => (Sum.inl n, dangD ns n))
theorem pairs_ok {G : Hz} {ns : List Int} (T : List O) (S0 : List O) : mapO (fun v => (pairO (G ++ S0 ++ (packC (itemF ns) (G ++ S0).length (ns.map V.int)).2 ++ T) v).bind (entD 19 (G ++ S0 ++ (packC (itemF ns) (G ++ S0).length (ns.map V.int)).2 ++ T))) (packC (itemF ns) (G ++ S0).length (ns.map V.int)).1 = some (ns.map fun n => (Sum.inl n, dangD ns n)) := by
  have := pack_read (f := fun H v => (pairO H v).bind (entD 19 H)) (F := itemF ns) (d := fun v => match v with | .int row => (Sum.inl row, dangD ns row) | _ => (Sum.inl 0, .none)) G (ns.map V.int) (fun x hx S T => by
    obtain ⟨row, hr, rfl⟩ := List.mem_map.mp hx
    have hd := dangV_rd ns row 18 (G ++ S) ([.tup [.int row, (dangV (G ++ S).length ns row).1]] ++ T)
    have el : G ++ S ++ (itemF ns (G ++ S).length (.int row)).2 ++ T = G ++ S ++ (dangV (G ++ S).length ns row).2 ++ ([.tup [.int row, (dangV (G ++ S).length ns row).1]] ++ T) := by
      unfold itemF
      simp only [List.append_assoc]
    rw [el]
    have eg : (G ++ S ++ (dangV (G ++ S).length ns row).2 ++ ([O.tup [.int row, (dangV (G ++ S).length ns row).1]] ++ T))[(G ++ S).length + (dangV (G ++ S).length ns row).2.length]? = some (.tup [.int row, (dangV (G ++ S).length ns row).1]) := by
      rw [← List.length_append, gn0]
      rfl
    show (pairO _ (.ref ((G ++ S).length + (dangV (G ++ S).length ns row).2.length))).bind _ = _
    unfold pairO
    simp only [eg]
    show entD 19 _ (Sum.inl row, (dangV (G ++ S).length ns row).1) = _
    unfold entD
    rw [hd]
    rfl) S0 T
  rw [this, List.map_map]
  rfl
theorem right_start {G : Hz} {a : Nat} {ns : List Int} (h : G[a]? = some (.lst (ns.map V.int))) (o : Ord ns) : ∃ (d : Nat) (S : List O), (sAsg (eTup (aCons (eCall fReprZ (aCons (eVar 0) aNil)) (aCons (eCall fDictP (aCons n_right_k08_C1 aNil)) aNil))) (gUn 2 (gsCons (gSet 1) (gsCons (gSet 2) gsNil)))) [some (.ref a), none, none, none, none, none] G =
    some (.nx [some (.ref a), some (.str (PyData.list (ns.map PyData.int)).shown), some (.ref d), none, none, none] (G ++ S)) ∧ Dues (G ++ S) d ns := by
  have la := lt_get h
  have hn := o.len
  have r1 := repr_ints h o.small
  have hc := right_C1 h o
  have hp := pairs_ok (G := G) (ns := ns) [] [.lst (packC (itemF ns) (G.length + 1) (ns.map V.int)).1]
  obtain ⟨kvs, h1, h2⟩ := mapO_split hp
  have hk := entD_keys h2
  rw [List.map_map] at hk
  have hnd : (kvs.map (·.1)).Nodup := by
    rw [hk]
    exact o.nd.map _ fun a b hab e => hab (Sum.inl.inj e)
  have hm := mergeK_keys hnd
  simp [-Option.bind_some, -List.map_take, -List.map_drop, -List.map_append, -List.map_reverse, -List.map_set, -List.map_dropLast, -getElem?_pos] at h1 hc h2
  generalize (packC (itemF ns) (G.length + 1) (ns.map V.int)).1 = X1 at h1 hc h2
  generalize (packC (itemF ns) (G.length + 1) (ns.map V.int)).2 = X2 at h1 hc h2
  refine ⟨G.length + (X2.length + 1), .lst X1 :: (X2 ++ [.dK kvs, .tup [.str (PyData.list (ns.map PyData.int)).shown, .ref (G.length + (X2.length + 1))]]), ?_, ⟨kvs, ?_, ?_⟩⟩
  · simp [-Option.bind_some, -List.map_take, -List.map_drop, -List.map_append, -List.map_reverse, -List.map_set, -List.map_dropLast, -getElem?_pos, r1, hc, h1, hm]
  · simp [-Option.bind_some, -List.map_take, -List.map_drop, -List.map_append, -List.map_reverse, -List.map_set, -List.map_dropLast, -getElem?_pos]
  · have e : G ++ .lst X1 :: (X2 ++ [.dK kvs, .tup [.str (PyData.list (ns.map PyData.int)).shown, .ref (G.length + (X2.length + 1))]]) = (G ++ .lst X1 :: X2) ++ [.dK kvs, .tup [.str (PyData.list (ns.map PyData.int)).shown, .ref (G.length + (X2.length + 1))]] := by simp [-Option.bind_some, -List.map_take, -List.map_drop, -List.map_append, -List.map_reverse, -List.map_set, -List.map_dropLast, -getElem?_pos]
    rw [e]
    exact mapO_mono (fun x y hxy => entD_app hxy) h2

theorem Dues.app {H S : Hz} {d : Nat} {ns : List Int} (h : Dues H d ns) : Dues (H ++ S) d ns := by
  obtain ⟨kvs, h1, h2⟩ := h.ex
  exact ⟨kvs, get_app h1, mapO_mono (fun x y hxy => entD_app hxy) h2⟩
theorem Dues.get {H : Hz} {d : Nat} {ns : List Int} {row : Int} (h : Dues H d ns) (hr : row ∈ ns) : ∃ v, xDK (.ref d) (.int row) H = some (v, H) ∧ rdD 20 H v = some (dangD ns row) ∧ decide (v = .non) = decide (dangF ns row = none) := by
  obtain ⟨kvs, h1, h2⟩ := h.ex
  obtain ⟨v, h3, h4⟩ := entD_get hr h2
  refine ⟨v, by simp [-Option.bind_some, -List.map_take, -List.map_drop, -List.map_append, -List.map_reverse, -List.map_set, -List.map_dropLast, -getElem?_pos, h1, h3], rd_mono h4, ?_⟩
  unfold dangD at h4
  cases q : dangF ns row with
  | none =>
    rw [q] at h4
    dsimp only at h4
    cases v with
    | non => simp [-Option.bind_some, -List.map_take, -List.map_drop, -List.map_append, -List.map_reverse, -List.map_set, -List.map_dropLast, -getElem?_pos]
    | ref b =>
      unfold rdD at h4
      split at h4 <;> first | (cases h4; done) | (obtain ⟨z, _, h4⟩ := bnd h4; cases h4)
    | _ => cases h4
  | some m =>
    rw [q] at h4
    dsimp only at h4
    cases v with
    | non => cases h4
    | _ => simp [-Option.bind_some, -List.map_take, -List.map_drop, -List.map_append, -List.map_reverse, -List.map_set, -List.map_dropLast, -getElem?_pos]
theorem right_C3 {G : Hz} {a d : Nat} {ns : List Int} {s : Str} {t : Option V} (h : G[a]? = some (.lst (ns.map V.int))) (o : Ord ns) (hd : Dues G d ns) :
    n_right_k08_C3 [some (.ref a), some (.str s), some (.ref d), t, none, none] G = some (.ref G.length, G ++ [.lst []]) := by
  have la := lt_get h
  have hn := o.len
  unfold n_right_k08_C3
  rw [comp_intsP (it := itL a) (G0 := G) ns (fun _ => false) V.int (by simp [-Option.bind_some, -List.map_take, -List.map_drop, -List.map_append, -List.map_reverse, -List.map_set, -List.map_dropLast, -getElem?_pos, h]) (yl_list h) (lt_fuel (by omega)) (by simp [-Option.bind_some, -List.map_take, -List.map_drop, -List.map_append, -List.map_reverse, -List.map_set, -List.map_dropLast, -getElem?_pos]; omega) (fun row hr acc => by
    refine ⟨[some (.ref a), some (.str s), some (.ref d), t, none, some (.int row)], by simp [-Option.bind_some, -List.map_take, -List.map_drop, -List.map_append, -List.map_reverse, -List.map_set, -List.map_dropLast, -getElem?_pos], ?_, fun z => nomatch z⟩
    have e1 := danger_of_ok (G := G ++ [.lst acc]) (a := a) (by simp [-Option.bind_some, -List.map_take, -List.map_drop, -List.map_append, -List.map_reverse, -List.map_set, -List.map_dropLast, -getElem?_pos, la, h]) o hr
    have r1 := repr_ok (G := G ++ [.lst acc] ++ (dangV (G ++ [O.lst acc]).length ns row).2) (v := (dangV (G ++ [O.lst acc]).length ns row).1) (by have := dangV_rd ns row 19 (G ++ [.lst acc]) []; rwa [List.append_nil] at this) (dangD_tame (ns := ns) (row := row) (by omega)) (by decide) (by decide)
    obtain ⟨v, e2, e3, _⟩ := (hd.app (S := [.lst acc] ++ (dangV (G ++ [O.lst acc]).length ns row).2)).get hr
    have r2 := repr_ok e3 (dangD_tame (ns := ns) (row := row) (by omega)) (by decide) (by decide)
    simp [-Option.bind_some, -List.map_take, -List.map_drop, -List.map_append, -List.map_reverse, -List.map_set, -List.map_dropLast, -getElem?_pos] at e1 r1 e2 r2
    simp [-Option.bind_some, -List.map_take, -List.map_drop, -List.map_append, -List.map_reverse, -List.map_set, -List.map_dropLast, -getElem?_pos, e1, r1, e2, r2])]
  rw [List.filter_eq_nil_iff.mpr (by simp [-Option.bind_some, -List.map_take, -List.map_drop, -List.map_append, -List.map_reverse, -List.map_set, -List.map_dropLast, -getElem?_pos])]
  rfl
theorem right_C4 {G : Hz} {a d : Nat} {ns : List Int} {s : Str} {t u : Option V} (h : G[a]? = some (.lst (ns.map V.int))) (o : Ord ns) (hd : Dues G d ns) :
    n_right_k08_C4 [some (.ref a), some (.str s), some (.ref d), t, u, none] G = some (.ref G.length, G ++ [.lst ((safeL ns).map V.int)]) := by
  have la := lt_get h
  have hn := o.len
  unfold n_right_k08_C4
  rw [comp_intsP (it := itL a) (G0 := G) ns (fun row => decide (dangF ns row = none)) V.int (by simp [-Option.bind_some, -List.map_take, -List.map_drop, -List.map_append, -List.map_reverse, -List.map_set, -List.map_dropLast, -getElem?_pos, h]) (yl_list h) (lt_fuel (by omega)) (by simp [-Option.bind_some, -List.map_take, -List.map_drop, -List.map_append, -List.map_reverse, -List.map_set, -List.map_dropLast, -getElem?_pos]; omega) (fun row hr acc => by
    refine ⟨[some (.ref a), some (.str s), some (.ref d), t, u, some (.int row)], by simp [-Option.bind_some, -List.map_take, -List.map_drop, -List.map_append, -List.map_reverse, -List.map_set, -List.map_dropLast, -getElem?_pos], ?_, fun _ => ⟨by simp [-Option.bind_some, -List.map_take, -List.map_drop, -List.map_append, -List.map_reverse, -List.map_set, -List.map_dropLast, -getElem?_pos], rfl⟩⟩
    obtain ⟨v, e2, _, e3⟩ := (hd.app (S := [.lst acc])).get hr
    simp [-Option.bind_some, -List.map_take, -List.map_drop, -List.map_append, -List.map_reverse, -List.map_set, -List.map_dropLast, -getElem?_pos, e2, e3])]
  rfl
end Zl

namespace Zl
open PySem L2
theorem safeL_small {ns : List Int} (o : Ord ns) : Small (isort (safeL ns)) := ((o.sub (List.filter_sublist)).perm (isort_perm _).symm).small
theorem right08_B2 {G : Hz} {a d : Nat} {ns : List Int} {s : Str} {t : Option V} (h : G[a]? = some (.lst (ns.map V.int))) (o : Ord ns) (hd : Dues G d ns) (hdl : d < G.length) :
    n_right_k08_B2 [some (.ref a), some (.str s), some (.ref d), t, none, none] G = some (.nx [some (.ref a), some (.str s), some (.ref d), none, none, none] G) := by
  have la := lt_get h
  have hn := o.len
  have c3 := right_C3 (s := s) (t := t) h o hd
  have ne := cNe_nil (G := G ++ [.lst [], .lst []]) (a := G.length) (b := G.length + 1) (xs := []) (by simp [-Option.bind_some, -List.map_take, -List.map_drop, -List.map_append, -List.map_reverse, -List.map_set, -List.map_dropLast, -getElem?_pos]) (by simp [-Option.bind_some, -List.map_take, -List.map_drop, -List.map_append, -List.map_reverse, -List.map_set, -List.map_dropLast, -getElem?_pos])
  have sf := safe_ids_ok h o
  have c4 := right_C4 (a := a) (d := d) (ns := ns) (G := G ++ [.lst ((isort (safeL ns)).map V.int)]) (s := s) (t := t) (u := some (.ref G.length)) (by simp [-Option.bind_some, -List.map_take, -List.map_drop, -List.map_append, -List.map_reverse, -List.map_set, -List.map_dropLast, -getElem?_pos, la, h]) o hd.app
  have r1 := repr_ints (G := G ++ [.lst ((isort (safeL ns)).map V.int)]) (a := G.length) (ns := isort (safeL ns)) (by simp [-Option.bind_some, -List.map_take, -List.map_drop, -List.map_append, -List.map_reverse, -List.map_set, -List.map_dropLast, -getElem?_pos]) (safeL_small o)
  have r2 := repr_ints (G := G ++ [.lst ((isort (safeL ns)).map V.int), .lst ((safeL ns).map V.int), .lst ((isort (safeL ns)).map V.int)]) (a := G.length + 2) (ns := isort (safeL ns)) (by simp [-Option.bind_some, -List.map_take, -List.map_drop, -List.map_append, -List.map_reverse, -List.map_set, -List.map_dropLast, -getElem?_pos]) (safeL_small o)
  have hl : (isort (safeL ns)).length < 16777216 := by have := (safeL_small o).1; omega
  simp [-Option.bind_some, -List.map_take, -List.map_drop, -List.map_append, -List.map_reverse, -List.map_set, -List.map_dropLast, -getElem?_pos] at c4 ne
  simp [-Option.bind_some, -List.map_take, -List.map_drop, -List.map_append, -List.map_reverse, -List.map_set, -List.map_dropLast, -getElem?_pos, n_right_k08_B2, c3, ne, sf, c4, r1, r2, la, hdl, hl]
theorem right08_ok {G : Hz} {a : Nat} {ns : List Int} (h : G[a]? = some (.lst (ns.map V.int))) (o : Ord ns) : g_right_k08 [.ref a] G = some (.bl true, G) := by
  have la := lt_get h
  obtain ⟨d, S, e, hd⟩ := right_start h o
  have h2 : (G ++ S)[a]? = some (.lst (ns.map V.int)) := get_app h
  have hdl : d < (G ++ S).length := by
    obtain ⟨kvs, h1, _⟩ := hd.ex
    exact lt_get h1
  have r1 := repr_ints h2 o.small
  have lp : n_right_k08_F2 [some (.ref a), some (.str (PyData.list (ns.map PyData.int)).shown), some (.ref d), none, none, none] (G ++ S) = some (.nx [some (.ref a), some (.str (PyData.list (ns.map PyData.int)).shown), some (.ref d), none, none, none] (G ++ S)) := by
    obtain ⟨σ', G', e, rfl, rfl⟩ := forR (n := fuelN) (w := iRange1 (aCons (eC (.int 2)) aNil)) (g := gSet 3) (b := n_right_k08_B2) (lo := 0) (k := 2) (σ := [some (.ref a), some (.str (PyData.list (ns.map PyData.int)).shown), some (.ref d), none, none, none]) (G := G ++ S) (G0 := G ++ S)
      (fun i σ H => σ = [some (.ref a), some (.str (PyData.list (ns.map PyData.int)).shown), some (.ref d), none, none, none] ∧ H = G ++ S) (by simp [-Option.bind_some, -List.map_take, -List.map_drop, -List.map_append, -List.map_reverse, -List.map_set, -List.map_dropLast, -getElem?_pos, rng1_int (i := 2) 2 rfl (by omega)]) ⟨rfl, rfl⟩ (lt_fuel (by omega))
      (fun i σ H hi hI => by
        obtain ⟨rfl, rfl⟩ := hI
        have e := right08_B2 (s := (PyData.list (ns.map PyData.int)).shown) (t := some (.int (0 + (i : Int)))) h2 o hd hdl
        exact step_nx (by simp [-Option.bind_some, -List.map_take, -List.map_drop, -List.map_append, -List.map_reverse, -List.map_set, -List.map_dropLast, -getElem?_pos] at e ⊢; rw [e]) ⟨rfl, rfl⟩)
    exact e
  simp [-Option.bind_some, -List.map_take, -List.map_drop, -List.map_append, -List.map_reverse, -List.map_set, -List.map_dropLast, -getElem?_pos, -sAsg_ev, g_right_k08, n_right_k08, e, lp, r1]
theorem law08_B2 {xs : List V} {k i n : Nat} {P : List V} (hP : Pool P n) (hn : n ≤ 10 ^ 6) :
    ∃ P', n_law_k08_B2 [some (.ref 0), some (.int k), some (.ref 1), some (.int i), none, none] [.fz xs, .lst P] = some (.nx [some (.ref 0), some (.int k), some (.ref 1), none, none, none] [.fz xs, .lst P']) ∧ Pool P' (n + 100) := by
  obtain ⟨m, hm, hm0, hm1⟩ : ∃ m : Int, atI [V.int 30, V.int 9] (if 0 < i then 1 else 0) = some (.int m) ∧ 0 ≤ m ∧ m ≤ 30 := by
    by_cases q : 0 < i
    · exact ⟨9, by simp [-Option.bind_some, -List.map_take, -List.map_drop, -List.map_append, -List.map_reverse, -List.map_set, -List.map_dropLast, -getElem?_pos, q], by omega, by omega⟩
    · exact ⟨30, by simp [-Option.bind_some, -List.map_take, -List.map_drop, -List.map_append, -List.map_reverse, -List.map_set, -List.map_dropLast, -getElem?_pos, q], by omega, by omega⟩
  obtain ⟨P', ids, e, hp, o, _⟩ := order_ok (G := [.fz xs, .lst P, .lst [.int 30, .int 9]]) (a := 1) (m := m) rfl hP (by omega) hm0 hm1
  simp [-Option.bind_some, -List.map_take, -List.map_drop, -List.map_append, -List.map_reverse, -List.map_set, -List.map_dropLast, -getElem?_pos] at e
  refine ⟨P', ?_, hp⟩
  have r1 := right08_ok (G := [.fz xs, .lst P', .lst (ids.map V.int)]) (a := 2) rfl o
  by_cases h2 : 1 < ids.length
  · have hne : ids ≠ [] := fun z => by rw [z] at h2; simp at h2
    have hl := o.len
    obtain ⟨y, ys, hy⟩ : ∃ y ys, ids = y :: ys := List.exists_cons_of_ne_nil hne
    have hml : maxL ids = some (maxI y ys) := by rw [hy]; rfl
    have hmem : maxI y ys ∈ ids := by
      rw [hy]
      exact maxI_mem ys y
    have hix := idx_lt hmem
    have hget : ids[ids.idxOf (maxI y ys)]? = some (maxI y ys) := by rw [List.getElem?_eq_getElem hix, List.getElem_idxOf]
    have h2i : (1 : Int) < ids.length := by omega
    have hpop : popI (ids.map V.int) (ids.idxOf (maxI y ys) : Nat) = some (ids.idxOf (maxI y ys)) := popI_nat (by simpa [-Option.bind_some, -List.map_take, -List.map_drop, -List.map_append, -List.map_reverse, -List.map_set, -List.map_dropLast, -getElem?_pos] using hix) (by simp [-Option.bind_some, -List.map_take, -List.map_drop, -List.map_append, -List.map_reverse, -List.map_set, -List.map_dropLast, -getElem?_pos]; omega)
    have o2 : Ord (maxI y ys :: ids.eraseIdx (ids.idxOf (maxI y ys))) := o.perm (by
      have := perm_move (f := []) hix
      simp [-Option.bind_some, -List.map_take, -List.map_drop, -List.map_append, -List.map_reverse, -List.map_set, -List.map_dropLast, -getElem?_pos] at this
      exact this.symm.trans List.perm_append_comm)
    have r2 := right08_ok (G := [.fz xs, .lst P', .lst ((maxI y ys :: ids.eraseIdx (ids.idxOf (maxI y ys))).map V.int)]) (a := 2) rfl o2
    have r3 := right08_ok (G := [.fz xs, .lst P', .lst ((ids.eraseIdx (ids.idxOf (maxI y ys))).map V.int)]) (a := 2) rfl (o2.sub (List.sublist_cons_self _ _))
    have h0 : popI (V.int (maxI y ys) :: (ids.eraseIdx (ids.idxOf (maxI y ys))).map V.int) 0 = some 0 := popI_zero (by simp [-Option.bind_some, -List.map_take, -List.map_drop, -List.map_append, -List.map_reverse, -List.map_set, -List.map_dropLast, -getElem?_pos]) (by have := o2.len; simp [-Option.bind_some, -List.map_take, -List.map_drop, -List.map_append, -List.map_reverse, -List.map_set, -List.map_dropLast, -getElem?_pos] at this ⊢; omega)
    have h63 : (0 : Int) < 2 ^ 63 := by decide +kernel
    have hle : (ids.eraseIdx (ids.idxOf (maxI y ys))).length < 16777216 := by have := o2.len; simp [-Option.bind_some, -List.map_take, -List.map_drop, -List.map_append, -List.map_reverse, -List.map_set, -List.map_dropLast, -getElem?_pos] at this; omega
    simp [-Option.bind_some, -List.map_take, -List.map_drop, -List.map_append, -List.map_reverse, -List.map_set, -List.map_dropLast, -getElem?_pos] at r1 r2 r3
    simp [-Option.bind_some, -List.map_take, -List.map_drop, -List.map_append, -List.map_reverse, -List.map_set, -List.map_dropLast, -getElem?_pos, n_law_k08_B2, hm, e, hp.all, r1, h2, hml, hmem, hpop, hix, hle, h63, r2, h0, r3, hget, h2i]
  · have h2i : ¬ (1 : Int) < ids.length := by omega
    simp [-Option.bind_some, -List.map_take, -List.map_drop, -List.map_append, -List.map_reverse, -List.map_set, -List.map_dropLast, -getElem?_pos, n_law_k08_B2, hm, e, hp.all, r1, h2i]
end Zl

namespace Zl
open PySem L2
theorem cEqR {G : Hz} {v w : V} {d : PyData} (s : scal v w = false) (h : rdD 20 G v = some d) (h' : rdD 20 G w = some d) (t : SeqAt.shaped d = true) : cEq v w G = some (.bl true, G) := by
  simp [cEq, s, dep, h, h', t, eqv_refl d (noDict_of_shaped t)]
theorem law08_B1 {ns : List Int} {k : Nat} (hk : k < 100) :
    n_law_k08_B1 [some (.ref 0), some (.int k), none, none, none, none] (G0 ns) = some (.nx [some (.ref 0), none, none, none, none, none] (G0 ns)) := by
  obtain ⟨P, e, hp⟩ := source_ok (G := G0 ns) (ns := ns) (k := k) rfl hk
  have lp : ∃ P', n_law_k08_F2 [some (.ref 0), some (.int k), some (.ref 1), none, none, none] [.fz (ns.map V.int), .lst P] = some (.nx [some (.ref 0), some (.int k), some (.ref 1), none, none, none] [.fz (ns.map V.int), .lst P']) ∧ Pool P' 300 := by
    obtain ⟨σ', G', e, P', rfl, rfl, h⟩ := forR (n := fuelN) (w := iRange1 (aCons (eC (.int 3)) aNil)) (g := gSet 3) (b := n_law_k08_B2) (lo := 0) (k := 3)
      (σ := [some (.ref 0), some (.int k), some (.ref 1), none, none, none]) (G := [.fz (ns.map V.int), .lst P]) (G0 := [.fz (ns.map V.int), .lst P])
      (fun i σ H => ∃ P', σ = [some (.ref 0), some (.int k), some (.ref 1), none, none, none] ∧ H = [.fz (ns.map V.int), .lst P'] ∧ Pool P' (100 * i)) (by simp [-Option.bind_some, -List.map_take, -List.map_drop, -List.map_append, -List.map_reverse, -List.map_set, -List.map_dropLast, -getElem?_pos, rng1_int (i := 3) 3 rfl (by omega)]) ⟨P, rfl, rfl, hp.mono (by omega)⟩ (lt_fuel (by omega))
      (fun i σ H hi hI => by
        obtain ⟨P1, rfl, rfl, h1⟩ := hI
        obtain ⟨P', e, hp⟩ := law08_B2 (xs := ns.map V.int) (k := k) (i := i) h1 (by omega)
        exact step_nx (by simp [-Option.bind_some, -List.map_take, -List.map_drop, -List.map_append, -List.map_reverse, -List.map_set, -List.map_dropLast, -getElem?_pos]; exact e) ⟨P', rfl, rfl, hp.mono (by omega)⟩)
    exact ⟨P', e, h⟩
  obtain ⟨P', e2, h2⟩ := lp
  have e' : g_source [V.ref 0, V.int k] [.fz (ns.map V.int)] = some (V.ref 1, [.fz (ns.map V.int), .lst P]) := e
  unfold G0
  simp [-Option.bind_some, -List.map_take, -List.map_drop, -List.map_append, -List.map_reverse, -List.map_set, -List.map_dropLast, -getElem?_pos, n_law_k08_B1, e', e2, h2.all]
def last08 : List Int := 30 :: irange 1 29
theorem last08_ord : Ord last08 := ⟨by decide, by decide, by decide⟩
def F08 (b : Nat) : V → V × List O
  | .int row => dangV b last08 row
  | _ => (.non, [])
theorem law08_C3 (xs : List V) : n_law_k08_C3 [some (.ref 0), none, none, none, some (.ref 1), none] [.fz xs, .lst (last08.map V.int)] = some (.ref 3, [.fz xs, .lst (last08.map V.int), .lst [.int 30, .int 1, .int 29], .lst [.non, .ref 4, .ref 5], .tup [.int 1, .int 1], .tup [.int 1, .int 29]]) := by
  unfold n_law_k08_C3
  rw [comp_pack (it := itL 2) (G0 := [.fz xs, .lst (last08.map V.int), .lst [.int 30, .int 1, .int 29]]) [.int 30, .int 1, .int 29] (fun _ => true) F08 (by simp [-Option.bind_some, -List.map_take, -List.map_drop, -List.map_append, -List.map_reverse, -List.map_set, -List.map_dropLast, -getElem?_pos]) (yl_list rfl) (lt_fuel (by simp [-Option.bind_some, -List.map_take, -List.map_drop, -List.map_append, -List.map_reverse, -List.map_set, -List.map_dropLast, -getElem?_pos])) (by simp [-Option.bind_some, -List.map_take, -List.map_drop, -List.map_append, -List.map_reverse, -List.map_set, -List.map_dropLast, -getElem?_pos]) (fun x hx acc S => by
    obtain ⟨row, hr, rfl⟩ : ∃ row, row ∈ last08 ∧ x = .int row := by
      simp [-Option.bind_some, -List.map_take, -List.map_drop, -List.map_append, -List.map_reverse, -List.map_set, -List.map_dropLast, -getElem?_pos] at hx
      rcases hx with rfl | rfl | rfl
      · exact ⟨30, by decide, rfl⟩
      · exact ⟨1, by decide, rfl⟩
      · exact ⟨29, by decide, rfl⟩
    refine ⟨[some (.ref 0), none, none, none, some (.ref 1), some (.int row)], by simp [-Option.bind_some, -List.map_take, -List.map_drop, -List.map_append, -List.map_reverse, -List.map_set, -List.map_dropLast, -getElem?_pos], rfl, fun _ => ?_⟩
    have e := danger_of_ok (G := [.fz xs, .lst (last08.map V.int), .lst [.int 30, .int 1, .int 29]] ++ .lst acc :: S) (a := 1) rfl last08_ord hr
    have c := dangV_cut (G := [.fz xs, .lst (last08.map V.int), .lst [.int 30, .int 1, .int 29]] ++ .lst acc :: S) (ns := last08) (row := row)
    simp [-Option.bind_some, -List.map_take, -List.map_drop, -List.map_append, -List.map_reverse, -List.map_set, -List.map_dropLast, -getElem?_pos] at e c
    simp [-Option.bind_some, -List.map_take, -List.map_drop, -List.map_append, -List.map_reverse, -List.map_set, -List.map_dropLast, -getElem?_pos, e, c, F08])]
  rw [List.filter_eq_self.mpr fun _ _ => rfl]
  have : packC F08 4 [V.int 30, V.int 1, V.int 29] = ([.non, .ref 4, .ref 5], [.tup [.int 1, .int 1], .tup [.int 1, .int 29]]) := by decide
  show some (V.ref 3, _ ++ O.lst (packC _ 4 _).1 :: (packC _ 4 _).2) = _
  rw [this]
  rfl
theorem spec_g_law_k08 (ns : List Int) (hn : ns.length ≤ 63) : ∃ G', g_law_k08 [.ref 0] (G0 ns) = some (.bl true, G') := by
  have lp : n_law_k08_F1 [some (.ref 0), none, none, none, none, none] (G0 ns) = some (.nx [some (.ref 0), none, none, none, none, none] (G0 ns)) := by
    obtain ⟨σ', G', e, rfl, rfl⟩ := forR (n := fuelN) (w := iRange1 (aCons (eCall fMax (aCons (eC (.int 1)) (aCons (eCall fMin (aCons (eC (.int 5)) (aCons (eCall fLen (aCons (eVar 0) aNil)) aNil))) aNil))) aNil)) (g := gSet 1) (b := n_law_k08_B1) (lo := 0) (k := max 1 (min 5 ns.length))
      (σ := [some (.ref 0), none, none, none, none, none]) (G := G0 ns) (G0 := G0 ns)
      (fun i σ H => σ = [some (.ref 0), none, none, none, none, none] ∧ H = G0 ns) (by simp [-Option.bind_some, -List.map_take, -List.map_drop, -List.map_append, -List.map_reverse, -List.map_set, -List.map_dropLast, -getElem?_pos, G0, rng1_int (i := max 1 (min 5 (ns.length : Int))) (max 1 (min 5 ns.length)) (by omega) (by omega)]) ⟨rfl, rfl⟩ (lt_fuel (by omega))
      (fun i σ H hi hI => by
        obtain ⟨rfl, rfl⟩ := hI
        have e := law08_B1 (ns := ns) (k := i) (by omega)
        exact step_nx (by simp [-Option.bind_some, -List.map_take, -List.map_drop, -List.map_append, -List.map_reverse, -List.map_set, -List.map_dropLast, -getElem?_pos]; exact e) ⟨rfl, rfl⟩)
    exact e
  unfold G0 at lp ⊢
  have hr := lrg_ok (G := [.fz (ns.map V.int), .lst [.int 30]]) (i := 1) (j := 30) 29 (by omega) (by omega) (by omega) (by omega) (by omega)
  have c3 := law08_C3 (ns.map V.int)
  have sf := safe_ids_ok (G := [.fz (ns.map V.int), .lst (last08.map V.int), .lst [.int 30, .int 1, .int 29], .lst [.non, .ref 4, .ref 5], .tup [.int 1, .int 1], .tup [.int 1, .int 29], .tup [.int 1, .int 1], .tup [.int 1, .int 29], .lst [.non, .ref 6, .ref 7]]) (a := 1) rfl last08_ord
  have hsl : isort (safeL last08) = [30] := by
    have : safeL last08 = [30] := by decide
    rw [this]
    simp [isort]
  have q1 := cEqR (G := [.fz (ns.map V.int), .lst (last08.map V.int), .lst [.int 30, .int 1, .int 29], .lst [.non, .ref 4, .ref 5], .tup [.int 1, .int 1], .tup [.int 1, .int 29], .tup [.int 1, .int 1], .tup [.int 1, .int 29], .lst [.non, .ref 6, .ref 7]]) (v := .ref 3) (w := .ref 8) (d := .list [.none, .tuple [.int 1, .int 1], .tuple [.int 1, .int 29]]) rfl rfl rfl rfl
  have q2 := cEq_ints (G := [.fz (ns.map V.int), .lst (last08.map V.int), .lst [.int 30, .int 1, .int 29], .lst [.non, .ref 4, .ref 5], .tup [.int 1, .int 1], .tup [.int 1, .int 29], .tup [.int 1, .int 1], .tup [.int 1, .int 29], .lst [.non, .ref 6, .ref 7], .lst [.int 30], .lst [.int 30]]) (a := 9) (b := 10) (xs := [30]) (ys := [30]) rfl rfl
  rw [hsl] at sf
  have el : O.lst (V.int 30 :: (irange 1 29).map V.int) = .lst (last08.map V.int) := rfl
  simp [-Option.bind_some, -List.map_take, -List.map_drop, -List.map_append, -List.map_reverse, -List.map_set, -List.map_dropLast, -getElem?_pos] at sf q2 hr
  simp [-Option.bind_some, -List.map_take, -List.map_drop, -List.map_append, -List.map_reverse, -List.map_set, -List.map_dropLast, -getElem?_pos, g_law_k08, n_law_k08, lp, hr, el, c3, q1, sf, q2]
end Zl

namespace Zl
open PySem L2
/-- the ids that one poll makes lost -/
def missL (ns : List Int) (m : Nat) : List Int := (ns.drop m).filter fun row => decide (row < topAt ns m)
theorem missL_small {ns : List Int} (o : Ord ns) (m : Nat) : Small (isort (missL ns m)) := ((o.sub ((List.filter_sublist).trans (List.drop_sublist m ns))).perm (isort_perm _).symm).small
theorem missed_at_C1 {G : Hz} {a m : Nat} {ns : List Int} {t : Int} (h : G[a]? = some (.lst (ns.map V.int))) (hn : ns.length ≤ 1000) :
    m_missed_at_C1 [some (.ref a), some (.int m), some (.int t), none] G = some (.ref (G.length + 1), G ++ [.lst ((ns.drop m).map V.int), .lst (((ns.drop m).filter fun row => decide (row < t)).map V.int)]) := by
  have la := lt_get h
  unfold m_missed_at_C1
  rw [comp_intsP (it := itL G.length) (G0 := G ++ [.lst ((ns.drop m).map V.int)]) (ns.drop m) (fun row => decide (row < t)) V.int (by simp [-Option.bind_some, -List.map_take, -List.map_drop, -List.map_append, -List.map_reverse, -List.map_set, -List.map_dropLast, -getElem?_pos, h]) (yl_list (by simp [-Option.bind_some, -List.map_take, -List.map_drop, -List.map_append, -List.map_reverse, -List.map_set, -List.map_dropLast, -getElem?_pos])) (lt_fuel (by simp [-Option.bind_some, -List.map_take, -List.map_drop, -List.map_append, -List.map_reverse, -List.map_set, -List.map_dropLast, -getElem?_pos]; omega)) (by simp [-Option.bind_some, -List.map_take, -List.map_drop, -List.map_append, -List.map_reverse, -List.map_set, -List.map_dropLast, -getElem?_pos]; omega) (fun row hr acc =>
    ⟨[some (.ref a), some (.int m), some (.int t), some (.int row)], by simp [-Option.bind_some, -List.map_take, -List.map_drop, -List.map_append, -List.map_reverse, -List.map_set, -List.map_dropLast, -getElem?_pos], by simp [-Option.bind_some, -List.map_take, -List.map_drop, -List.map_append, -List.map_reverse, -List.map_set, -List.map_dropLast, -getElem?_pos], fun _ => ⟨by simp [-Option.bind_some, -List.map_take, -List.map_drop, -List.map_append, -List.map_reverse, -List.map_set, -List.map_dropLast, -getElem?_pos], rfl⟩⟩)]
  simp [-Option.bind_some, -List.map_take, -List.map_drop, -List.map_append, -List.map_reverse, -List.map_set, -List.map_dropLast, -getElem?_pos]
theorem missed_at_ok {G : Hz} {a m : Nat} {ns : List Int} (h : G[a]? = some (.lst (ns.map V.int))) (o : Ord ns) (hm : m ≤ ns.length) : f_missed_at [.ref a, .int m] G = some (.ref G.length, G ++ [.lst ((isort (missL ns m)).map V.int)]) := by
  have la := lt_get h
  have ho := o.len
  have c1 := missed_at_C1 (m := m) (t := topAt ns m) h (by omega)
  simp [-Option.bind_some, -List.map_take, -List.map_drop, -List.map_append, -List.map_reverse, -List.map_set, -List.map_dropLast, -getElem?_pos, f_missed_at, m_missed_at, require_order_ok h o, require_moment_ok h (Int.natCast_nonneg m) (Int.ofNat_le.mpr hm), tops_in_ok h (by omega), tops_getElem hm, c1, missL]
/-! ### the law's own -/
theorem top_ex {ns : List Int} {row : Int} : ∀ {m : Nat}, m ≤ ns.length → (∀ i ∈ ns, 1 ≤ i) → 0 ≤ row → (row < topAt ns m ↔ ∃ one ∈ ns.take m, row < one)
  | 0, _, _, h0 => by
    rw [tops_zero]
    simp [-Option.bind_some, -List.map_take, -List.map_drop, -List.map_append, -List.map_reverse, -List.map_set, -List.map_dropLast, -getElem?_pos]
    omega
  | m + 1, hm, h1, h0 => by
    have ih := top_ex (row := row) (m := m) (by omega) h1 h0
    have ht := tops_get ns m (by omega) h1
    have hg : ns.getD m 0 = ns[m] := by rw [List.getD_eq_getElem?_getD, List.getElem?_eq_getElem (by omega)]; rfl
    rw [ht, hg, List.take_succ, List.getElem?_eq_getElem (by omega)]
    constructor
    · intro h
      by_cases q : row < topAt ns m
      · obtain ⟨x, hx, hl⟩ := ih.mp q
        exact ⟨x, List.mem_append_left _ hx, hl⟩
      · exact ⟨ns[m], List.mem_append_right _ (by simp), by omega⟩
    · rintro ⟨x, hx, hl⟩
      rcases List.mem_append.mp hx with hx | hx
      · have := ih.mpr ⟨x, hx, hl⟩
        omega
      · simp at hx
        omega
theorem missed_C1 {G : Hz} {a m : Nat} {ns : List Int} {row : Int} {D : List V} (h : G[a]? = some (.lst (ns.map V.int))) (hn : ns.length ≤ 1000) :
    n_missed_k07_C1 [some (.ref a), some (.int m), some (.int row), none] G = some (.ref (G.length + 1), G ++ [.lst ((ns.take m).map V.int), .lst (((ns.take m).filter fun one => decide (row < one)).map V.int)]) := by
  have la := lt_get h
  unfold n_missed_k07_C1
  rw [comp_intsP (it := itL G.length) (G0 := G ++ [.lst ((ns.take m).map V.int)]) (ns.take m) (fun one => decide (row < one)) V.int (by simp [-Option.bind_some, -List.map_take, -List.map_drop, -List.map_append, -List.map_reverse, -List.map_set, -List.map_dropLast, -getElem?_pos, h]) (yl_list (by simp [-Option.bind_some, -List.map_take, -List.map_drop, -List.map_append, -List.map_reverse, -List.map_set, -List.map_dropLast, -getElem?_pos])) (lt_fuel (by simp [-Option.bind_some, -List.map_take, -List.map_drop, -List.map_append, -List.map_reverse, -List.map_set, -List.map_dropLast, -getElem?_pos]; omega)) (by simp [-Option.bind_some, -List.map_take, -List.map_drop, -List.map_append, -List.map_reverse, -List.map_set, -List.map_dropLast, -getElem?_pos]; omega) (fun one hr acc =>
    ⟨[some (.ref a), some (.int m), some (.int row), some (.int one)], by simp [-Option.bind_some, -List.map_take, -List.map_drop, -List.map_append, -List.map_reverse, -List.map_set, -List.map_dropLast, -getElem?_pos], by simp [-Option.bind_some, -List.map_take, -List.map_drop, -List.map_append, -List.map_reverse, -List.map_set, -List.map_dropLast, -getElem?_pos], fun _ => ⟨by simp [-Option.bind_some, -List.map_take, -List.map_drop, -List.map_append, -List.map_reverse, -List.map_set, -List.map_dropLast, -getElem?_pos], rfl⟩⟩)]
  simp [-Option.bind_some, -List.map_take, -List.map_drop, -List.map_append, -List.map_reverse, -List.map_set, -List.map_dropLast, -getElem?_pos]
theorem missed_C2 {G : Hz} {a m : Nat} {ns : List Int} (h : G[a]? = some (.lst (ns.map V.int))) (o : Ord ns) (hm : m ≤ ns.length) :
    n_missed_k07_C2 [some (.ref a), some (.int m), none, none] G = some (.ref (G.length + 1), G ++ [.lst ((ns.drop m).map V.int), .lst ((missL ns m).map V.int)]) := by
  have la := lt_get h
  have hn := o.len
  unfold n_missed_k07_C2
  rw [comp_intsP (it := itL G.length) (G0 := G ++ [.lst ((ns.drop m).map V.int)]) (ns.drop m) (fun row => decide (row < topAt ns m)) V.int (by simp [-Option.bind_some, -List.map_take, -List.map_drop, -List.map_append, -List.map_reverse, -List.map_set, -List.map_dropLast, -getElem?_pos, h]) (yl_list (by simp [-Option.bind_some, -List.map_take, -List.map_drop, -List.map_append, -List.map_reverse, -List.map_set, -List.map_dropLast, -getElem?_pos])) (lt_fuel (by simp [-Option.bind_some, -List.map_take, -List.map_drop, -List.map_append, -List.map_reverse, -List.map_set, -List.map_dropLast, -getElem?_pos]; omega)) (by simp [-Option.bind_some, -List.map_take, -List.map_drop, -List.map_append, -List.map_reverse, -List.map_set, -List.map_dropLast, -getElem?_pos]; omega) (fun row hr acc => by
    refine ⟨[some (.ref a), some (.int m), some (.int row), none], by simp [-Option.bind_some, -List.map_take, -List.map_drop, -List.map_append, -List.map_reverse, -List.map_set, -List.map_dropLast, -getElem?_pos], ?_, fun _ => ⟨by simp [-Option.bind_some, -List.map_take, -List.map_drop, -List.map_append, -List.map_reverse, -List.map_set, -List.map_dropLast, -getElem?_pos], rfl⟩⟩
    have c1 := missed_C1 (G := G ++ [.lst ((ns.drop m).map V.int), .lst acc]) (a := a) (m := m) (row := row) (ns := ns) (D := []) (by simp [-Option.bind_some, -List.map_take, -List.map_drop, -List.map_append, -List.map_reverse, -List.map_set, -List.map_dropLast, -getElem?_pos, la, h]) (by omega)
    have ne := cNe_nil (G := G ++ [.lst ((ns.drop m).map V.int), .lst acc, .lst ((ns.take m).map V.int), .lst (((ns.take m).filter fun one => decide (row < one)).map V.int), .lst []]) (a := G.length + 3) (b := G.length + 4) (xs := (ns.take m).filter fun one => decide (row < one)) (by simp [-Option.bind_some, -List.map_take, -List.map_drop, -List.map_append, -List.map_reverse, -List.map_set, -List.map_dropLast, -getElem?_pos]) (by simp [-Option.bind_some, -List.map_take, -List.map_drop, -List.map_append, -List.map_reverse, -List.map_set, -List.map_dropLast, -getElem?_pos])
    have hx := top_ex (row := row) hm (fun i hi => (o.rng i hi).1) (by have := o.rng row (List.mem_of_mem_drop hr); omega)
    have hq : (!decide (((ns.take m).filter fun one => decide (row < one)) = [])) = decide (row < topAt ns m) := by
      rw [Bool.eq_iff_iff]
      simp only [Bool.not_eq_true', decide_eq_false_iff_not, decide_eq_true_eq]
      rw [hx]
      constructor
      · intro hne
        obtain ⟨x, hx⟩ := List.exists_mem_of_ne_nil _ hne
        obtain ⟨h1, h2⟩ := List.mem_filter.mp hx
        exact ⟨x, h1, of_decide_eq_true h2⟩
      · rintro ⟨x, h1, h2⟩ z
        have : x ∈ (ns.take m).filter fun one => decide (row < one) := List.mem_filter.mpr ⟨h1, decide_eq_true h2⟩
        rw [z] at this
        cases this
    rw [hq] at ne
    simp [-Option.bind_some, -List.map_take, -List.map_drop, -List.map_append, -List.map_reverse, -List.map_set, -List.map_dropLast, -getElem?_pos] at c1 ne
    simp [-Option.bind_some, -List.map_take, -List.map_drop, -List.map_append, -List.map_reverse, -List.map_set, -List.map_dropLast, -getElem?_pos, c1, ne])]
  simp [-Option.bind_some, -List.map_take, -List.map_drop, -List.map_append, -List.map_reverse, -List.map_set, -List.map_dropLast, -getElem?_pos, missL]
theorem law_missed_ok {G : Hz} {a m : Nat} {ns : List Int} (h : G[a]? = some (.lst (ns.map V.int))) (o : Ord ns) (hm : m ≤ ns.length) : g_missed_k07 [.ref a, .int m] G = some (.ref G.length, G ++ [.lst ((isort (missL ns m)).map V.int)]) := by
  have la := lt_get h
  simp [-Option.bind_some, -List.map_take, -List.map_drop, -List.map_append, -List.map_reverse, -List.map_set, -List.map_dropLast, -getElem?_pos, g_missed_k07, n_missed_k07, missed_C2 h o hm]
end Zl

namespace Zl
open PySem L2
theorem top_ge {ns : List Int} {m : Nat} (o : Ord ns) (hm : m ≤ ns.length) : ∀ x ∈ ns.take m, x ≤ topAt ns m := fun x hx => by
  have h0 : 0 ≤ topAt ns m := by
    have := topAt_mono (ns := ns) (Nat.zero_le m) hm fun i hi => (o.rng i hi).1
    rw [tops_zero] at this
    exact this
  by_cases q : topAt ns m < x
  · have := (top_ex (row := topAt ns m) hm (fun i hi => (o.rng i hi).1) h0).mpr ⟨x, hx, q⟩
    omega
  · omega
theorem top_mem {ns : List Int} (o : Ord ns) : ∀ {m : Nat}, 0 < m → m ≤ ns.length → topAt ns m ∈ ns.take m
  | 0, h, _ => by omega
  | m + 1, _, hm => by
    have ht := tops_get ns m (by omega) fun i hi => (o.rng i hi).1
    have hg : ns.getD m 0 = ns[m] := by rw [List.getD_eq_getElem?_getD, List.getElem?_eq_getElem (by omega)]; rfl
    have hr := o.rng ns[m] (List.getElem_mem (by omega))
    rw [ht, hg, List.take_succ, List.getElem?_eq_getElem (by omega)]
    by_cases q : topAt ns m ≤ ns[m]
    · rw [Int.max_eq_right q]
      exact List.mem_append_right _ (by simp)
    · rw [Int.max_eq_left (by omega)]
      cases m with
      | zero => rw [tops_zero] at q; omega
      | succ m => exact List.mem_append_left _ (top_mem o (by omega) (by omega))
theorem idx_count {s : List Int} {t : Int} (hs : s.Pairwise (· ≤ ·)) (hd : s.Nodup) (ht : t ∈ s) : s.idxOf t + 1 = s.countP fun x => decide (x ≤ t) := by
  induction s with
  | nil => cases ht
  | cons x s ih =>
    have h1 := List.pairwise_cons.mp hs
    have h2 := List.nodup_cons.mp hd
    by_cases q : x = t
    · subst q
      rw [List.idxOf_cons_self, List.countP_cons_of_pos (by simp)]
      have : s.countP (fun y => decide (y ≤ x)) = 0 := by
        rw [List.countP_eq_zero]
        intro y hy
        have := h1.1 y hy
        have hne : y ≠ x := fun z => h2.1 (z ▸ hy)
        simp
        omega
      omega
    · have hm : t ∈ s := by
        rcases List.mem_cons.mp ht with z | z
        · exact absurd z.symm q
        · exact z
      have := ih h1.2 h2.2 hm
      rw [List.countP_cons_of_pos (by have := h1.1 t hm; simp; omega)]
      have e : (x :: s).idxOf t = s.idxOf t + 1 := by
        rw [List.idxOf_cons, show (x == t) = false by simpa using q]
        rfl
      omega
/-- the place of a top among the ids, from 1 on; 0 for none -/
def rankOf (ns : List Int) (t : Int) : Int := if t ∈ ns then 1 + ((isort ns).idxOf t : Nat) else 0
theorem rank_count {ns : List Int} {m : Nat} (o : Ord ns) (hm : m ≤ ns.length) : rankOf ns (topAt ns m) - m = ((missL ns m).length : Nat) := by
  cases m with
  | zero =>
    have h0 : (0 : Int) ∉ ns := fun h => by have := o.rng 0 h; omega
    rw [tops_zero]
    unfold rankOf missL
    rw [if_neg h0, tops_zero, List.filter_eq_nil_iff.mpr]
    · rfl
    · intro x hx
      have := o.rng x (by simpa using hx)
      simp
      omega
  | succ m =>
    have ht := top_mem o (Nat.succ_pos m) hm
    have htn : topAt ns (m + 1) ∈ ns := List.mem_of_mem_take ht
    have hge := top_ge o hm
    unfold rankOf missL
    generalize topAt ns (m + 1) = t at ht htn hge ⊢
    rw [if_pos htn]
    have hp := isort_perm ns
    have e1 := idx_count (s := isort ns) (t := t) (isort_sorted ns) (hp.nodup_iff.mpr o.nd) (hp.mem_iff.mpr htn)
    rw [hp.countP_eq] at e1
    have e2 : ns.countP (fun x => decide (x ≤ t)) = (ns.take (m + 1)).countP (fun x => decide (x ≤ t)) + (ns.drop (m + 1)).countP (fun x => decide (x ≤ t)) := by
      rw [← List.countP_append, List.take_append_drop]
    have e3 : (ns.take (m + 1)).countP (fun x => decide (x ≤ t)) = m + 1 := by
      rw [List.countP_eq_length.mpr (fun x hx => decide_eq_true (hge x hx)), List.length_take]
      omega
    have e4 : (ns.drop (m + 1)).countP (fun x => decide (x ≤ t)) = ((ns.drop (m + 1)).filter fun x => decide (x < t)).length := by
      rw [← List.countP_eq_length_filter]
      refine List.countP_congr fun x hx => ?_
      have hne : x ≠ t := fun z => by
        subst z
        have hnd := o.nd
        rw [← List.take_append_drop (m + 1) ns] at hnd
        exact (List.nodup_append.mp hnd).2.2 x ht x hx rfl
      simp
      omega
    omega

/-! ### missed_counts -/
theorem valV_range {k : Nat} {K : Nat → Int} {F : Nat → V} {i : Nat} (hi : i < k) (inj : ∀ a b, a < k → b < k → K a = K b → a = b) : valV ((List.range k).map fun i => ((Sum.inl (K i) : Key), F i)) (Sum.inl (K i)) = some (F i) := by
  induction k with
  | zero => omega
  | succ k ih =>
    rw [List.range_succ, List.map_append]
    by_cases q : i = k
    · subst q
      have hn : valV ((List.range i).map fun i => ((Sum.inl (K i) : Key), F i)) (Sum.inl (K i)) = none := by
        refine valV_none fun hm => ?_
        obtain ⟨p, hp, e⟩ := List.mem_map.mp hm
        obtain ⟨j, hj, rfl⟩ := List.mem_map.mp hp
        have hj := List.mem_range.mp hj
        have := inj j i (by omega) (by omega) (Sum.inl.inj e)
        omega
      rw [List.map_cons, List.map_nil, valV_snoc _ _ _ _ hn, if_pos rfl]
    · have := ih (by omega) fun a b ha hb => inj a b (by omega) (by omega)
      rw [List.map_cons, List.map_nil, valV_snoc]
      · rw [if_neg, this]
        intro z
        exact q (inj i k hi (by omega) (Sum.inl.inj z))
      · refine valV_none fun hm => ?_
        obtain ⟨p, hp, e⟩ := List.mem_map.mp hm
        obtain ⟨j, hj, rfl⟩ := List.mem_map.mp hp
        have hj := List.mem_range.mp hj
        have := inj j k (by omega) (by omega) (Sum.inl.inj e)
        omega
def ranksL (s : List Int) : List (Key × V) := (List.range s.length).map fun i => (Sum.inl (s.getD i 0), V.int (1 + (i : Int)))
theorem getD_inj {s : List Int} (h : s.Nodup) : ∀ a b, a < s.length → b < s.length → s.getD a 0 = s.getD b 0 → a = b := fun a b ha hb e => by
  rw [List.getD_eq_getElem?_getD, List.getD_eq_getElem?_getD, List.getElem?_eq_getElem ha, List.getElem?_eq_getElem hb] at e
  exact (List.getElem_inj h).mp e
theorem ranks_val {ns : List Int} (o : Ord ns) (t : Int) : (valV (ranksL (isort ns)) (Sum.inl t)).getD (.int 0) = .int (rankOf ns t) := by
  have hp := isort_perm ns
  have hd : (isort ns).Nodup := hp.nodup_iff.mpr o.nd
  unfold rankOf ranksL
  by_cases h : t ∈ ns
  · rw [if_pos h]
    have hs : t ∈ isort ns := hp.mem_iff.mpr h
    have hi := List.idxOf_lt_length_of_mem hs
    have e : (isort ns).getD ((isort ns).idxOf t) 0 = t := by
      rw [List.getD_eq_getElem?_getD, List.getElem?_eq_getElem hi, List.getElem_idxOf]
      rfl
    have := valV_range (F := fun i => V.int (1 + (i : Int))) hi (getD_inj hd)
    rw [e] at this
    rw [this]
    rfl
  · rw [if_neg h, valV_none]
    · rfl
    · intro hm
      obtain ⟨p, hp2, e⟩ := List.mem_map.mp hm
      obtain ⟨j, hj, rfl⟩ := List.mem_map.mp hp2
      have hj := List.mem_range.mp hj
      have e2 : (isort ns).getD j 0 = t := Sum.inl.inj e
      rw [List.getD_eq_getElem?_getD, List.getElem?_eq_getElem hj] at e2
      exact h (hp.mem_iff.mp (by rw [← e2]; exact List.getElem_mem hj))
theorem ranks_ok (n : Nat) (s : List Int) : (ranksL s).all (fun p => okV n p.2) = true := List.all_eq_true.mpr fun p hp => by
  obtain ⟨i, _, rfl⟩ := List.mem_map.mp hp
  rfl
theorem counts_C1 {G : Hz} {a : Nat} {ns : List Int} (h : G[a]? = some (.lst (ns.map V.int))) (o : Ord ns) :
    m_missed_counts_C1 [some (.ref a), none, none, none, none, none] G = some (.ref (G.length + 1 : Nat), G ++ [.lst ((isort ns).map V.int), .dK (ranksL (isort ns))]) := by
  have la := lt_get h
  have hn := o.len
  have hp := isort_perm ns
  have hd : (isort ns).Nodup := hp.nodup_iff.mpr o.nd
  have hl : (isort ns).length = ns.length := hp.length_eq
  unfold m_missed_counts_C1
  rw [dcomp_cut1 (it := itES G.length 1) (G0 := G ++ [.lst ((isort ns).map V.int)]) (isort ns).length (fun i => (isort ns).getD i 0) (fun i => V.int (1 + (i : Int))) (by simp [-Option.bind_some, -List.map_take, -List.map_drop, -List.map_append, -List.map_reverse, -List.map_set, -List.map_dropLast, -getElem?_pos, h]) (lt_fuel (by omega)) (by simp [-Option.bind_some, -List.map_take, -List.map_drop, -List.map_append, -List.map_reverse, -List.map_set, -List.map_dropLast, -getElem?_pos]; omega)
    (fun kvs => by rw [itES_ev (xs := (isort ns).map V.int) (by simp [-Option.bind_some, -List.map_take, -List.map_drop, -List.map_append, -List.map_reverse, -List.map_set, -List.map_dropLast, -getElem?_pos])]; rw [List.getElem?_eq_none (by simp [-Option.bind_some, -List.map_take, -List.map_drop, -List.map_append, -List.map_reverse, -List.map_set, -List.map_dropLast, -getElem?_pos])]; rfl) (fun i hi kvs => by
      have e : (isort ns).getD i 0 = (isort ns)[i] := by rw [List.getD_eq_getElem?_getD, List.getElem?_eq_getElem hi]; rfl
      rw [e]
      refine ⟨.ref (G.length + 2), [.tup [.int (1 + (i : Int)), .int (isort ns)[i]]], [some (.ref a), none, some (.int (1 + (i : Int))), some (.int (isort ns)[i]), none, none], ?_, ?_, ?_, ?_, rfl⟩
      · rw [itES_ev (xs := (isort ns).map V.int) (by simp [-Option.bind_some, -List.map_take, -List.map_drop, -List.map_append, -List.map_reverse, -List.map_set, -List.map_dropLast, -getElem?_pos]), List.getElem?_map, List.getElem?_eq_getElem hi]
        simp [-Option.bind_some, -List.map_take, -List.map_drop, -List.map_append, -List.map_reverse, -List.map_set, -List.map_dropLast, -getElem?_pos]
      · simp [-Option.bind_some, -List.map_take, -List.map_drop, -List.map_append, -List.map_reverse, -List.map_set, -List.map_dropLast, -getElem?_pos]
      · simp [-Option.bind_some, -List.map_take, -List.map_drop, -List.map_append, -List.map_reverse, -List.map_set, -List.map_dropLast, -getElem?_pos]
      · simp [-Option.bind_some, -List.map_take, -List.map_drop, -List.map_append, -List.map_reverse, -List.map_set, -List.map_dropLast, -getElem?_pos])]
  rw [mergeK_keys]
  · simp [-Option.bind_some, -List.map_take, -List.map_drop, -List.map_append, -List.map_reverse, -List.map_set, -List.map_dropLast, -getElem?_pos, ranksL]
  · have e : ((List.range (isort ns).length).map fun i => (isort ns).getD i 0) = isort ns := by
      refine List.ext_getElem (by simp) fun i h1 h2 => ?_
      simp [List.getD_eq_getElem?_getD, List.getElem?_eq_getElem h2]
    have e2 : (((List.range (isort ns).length).map fun i => ((Sum.inl ((isort ns).getD i 0) : Key), V.int (1 + (i : Int)))).map (·.1)) = (isort ns).map Sum.inl := by
      conv => rhs; rw [← e]
      rw [List.map_map, List.map_map]
      rfl
    rw [e2]
    exact hd.map _ fun a b hab e => hab (Sum.inl.inj e)
theorem counts_C2 {G : Hz} {a d : Nat} {ns : List Int} (h : G[a]? = some (.lst (ns.map V.int))) (hd : G[d]? = some (.dK (ranksL (isort ns)))) (o : Ord ns) :
    m_missed_counts_C2 [some (.ref a), some (.ref d), none, none, none, none] G = some (.ref (G.length + 1 : Nat), G ++ [.lst ((tops ns).map V.int), .lst ((List.range (ns.length + 1)).map fun m => V.int ((missL ns m).length : Nat))]) := by
  have la := lt_get h
  have ld := lt_get hd
  have hn := o.len
  have htl : (tops ns).length = ns.length + 1 := by simp [-Option.bind_some, -List.map_take, -List.map_drop, -List.map_append, -List.map_reverse, -List.map_set, -List.map_dropLast, -getElem?_pos, tops, topsF_length]
  unfold m_missed_counts_C2
  rw [comp_cut1 (it := itE G.length) (G0 := G ++ [.lst ((tops ns).map V.int)]) (ns.length + 1) (fun _ => true) (fun m => V.int ((missL ns m).length : Nat)) (by simp [-Option.bind_some, -List.map_take, -List.map_drop, -List.map_append, -List.map_reverse, -List.map_set, -List.map_dropLast, -getElem?_pos, tops_in_ok h (by omega)]) (lt_fuel (by omega)) (by simp [-Option.bind_some, -List.map_take, -List.map_drop, -List.map_append, -List.map_reverse, -List.map_set, -List.map_dropLast, -getElem?_pos]; omega)
    (fun acc => by rw [itE_ev (xs := (tops ns).map V.int) (by simp [-Option.bind_some, -List.map_take, -List.map_drop, -List.map_append, -List.map_reverse, -List.map_set, -List.map_dropLast, -getElem?_pos])]; rw [List.getElem?_eq_none (by simp [-Option.bind_some, -List.map_take, -List.map_drop, -List.map_append, -List.map_reverse, -List.map_set, -List.map_dropLast, -getElem?_pos]; omega)]; rfl) (fun i hi acc => by
      have hc := rank_count (m := i) o (by omega)
      have hv := ranks_val o (topAt ns i)
      refine ⟨.ref (G.length + 2), [.tup [.int (i : Int), .int (topAt ns i)]], [some (.ref a), some (.ref d), none, none, some (.int i), some (.int (topAt ns i))], ?_, ?_, rfl, fun _ => ⟨?_, rfl⟩⟩
      · rw [itE_ev (xs := (tops ns).map V.int) (by simp [-Option.bind_some, -List.map_take, -List.map_drop, -List.map_append, -List.map_reverse, -List.map_set, -List.map_dropLast, -getElem?_pos]), List.getElem?_map, tops_getElem (by omega)]
        simp [-Option.bind_some, -List.map_take, -List.map_drop, -List.map_append, -List.map_reverse, -List.map_set, -List.map_dropLast, -getElem?_pos]
      · simp [-Option.bind_some, -List.map_take, -List.map_drop, -List.map_append, -List.map_reverse, -List.map_set, -List.map_dropLast, -getElem?_pos]
      · simp [-Option.bind_some, -List.map_take, -List.map_drop, -List.map_append, -List.map_reverse, -List.map_set, -List.map_dropLast, -getElem?_pos, ld, hd, hv, hc])]
  rw [List.filter_eq_self.mpr fun _ _ => rfl]
  simp [-Option.bind_some, -List.map_take, -List.map_drop, -List.map_append, -List.map_reverse, -List.map_set, -List.map_dropLast, -getElem?_pos]
theorem missed_counts_ok {G : Hz} {a : Nat} {ns : List Int} (h : G[a]? = some (.lst (ns.map V.int))) (o : Ord ns) : f_missed_counts [.ref a] G = some (.ref G.length, G ++ [.lst ((List.range (ns.length + 1)).map fun m => V.int ((missL ns m).length : Nat))]) := by
  have la := lt_get h
  have c1 := counts_C1 h o
  have c2 := counts_C2 (G := G ++ [.dK (ranksL (isort ns))]) (a := a) (d := G.length) (ns := ns) (by simp [-Option.bind_some, -List.map_take, -List.map_drop, -List.map_append, -List.map_reverse, -List.map_set, -List.map_dropLast, -getElem?_pos, la, h]) (by simp [-Option.bind_some, -List.map_take, -List.map_drop, -List.map_append, -List.map_reverse, -List.map_set, -List.map_dropLast, -getElem?_pos]) o
  simp [-Option.bind_some, -List.map_take, -List.map_drop, -List.map_append, -List.map_reverse, -List.map_set, -List.map_dropLast, -getElem?_pos] at c2
  simp [-Option.bind_some, -List.map_take, -List.map_drop, -List.map_append, -List.map_reverse, -List.map_set, -List.map_dropLast, -getElem?_pos, f_missed_counts, m_missed_counts, require_order_ok h o, c1, ranks_ok, c2]
end Zl

namespace Zl
open PySem L2
structure Inv9 (ns : List Int) (s : PS) (j : Nat) : Prop where
  le : j ≤ ns.length
  c0 : 0 ≤ s.c
  c1 : s.c ≤ topAt ns j
  sub : ∀ x ∈ s.g, x ∈ ns.take j
  all : ∀ x ∈ ns.take j, x ∈ s.g
theorem due_mem {near c k : Int} {g ns : List Int} {x : Int} : x ∈ dueL near c g ns k ↔ x ∈ ns.take k.toNat ∧ x ∉ g ∧ c - near < x := by
  unfold dueL dueP
  rw [List.mem_filter, (isort_perm _).mem_iff]
  simp
theorem top_up {ns : List Int} (o : Ord ns) {j k : Nat} (h : j ≤ k) (hk : k ≤ ns.length) : topAt ns j ≤ topAt ns k := topAt_mono h hk fun i hi => (o.rng i hi).1
theorem top_pos {ns : List Int} (o : Ord ns) {k : Nat} (hk : k ≤ ns.length) : 0 ≤ topAt ns k := by
  have := top_up o (Nat.zero_le k) hk
  rwa [tops_zero] at this
theorem reach_ge {ns : List Int} {p : Nat} (hp : p < ns.length) : topAt ns p - ns[p] + 1 ≤ reach ns := by
  refine (maxI_ge (reachL ns) 1).2 _ ?_
  refine List.mem_map.mpr ⟨p, List.mem_range.mpr hp, ?_⟩
  rw [List.getD_eq_getElem?_getD, List.getElem?_eq_getElem hp]
  rfl
theorem inv9_step {ns : List Int} (o : Ord ns) {near : Int} (hr : reach ns ≤ near) {s : PS} {j : Nat} (h : Inv9 ns s j) {k : Nat} (hj : j ≤ k) (hk : k ≤ ns.length) : Inv9 ns (playT near ns s k) k := by
  have hd : ∀ x, x ∈ dueL near s.c s.g ns k ↔ x ∈ ns.take k ∧ x ∉ s.g ∧ s.c - near < x := fun x => by
    rw [due_mem]
    rfl
  have ht : ∀ x ∈ ns.take j, x ∈ ns.take k := fun x hx => (List.take_sublist_take_left hj).subset hx
  refine ⟨hk, Int.le_trans h.c0 (maxI_ge _ _).1, ?_, fun x hx => ?_, fun x hx => ?_⟩
  · rcases List.mem_cons.mp (maxI_mem (dueL near s.c s.g ns k) s.c) with e | e
    · show maxI s.c _ ≤ _
      rw [e]
      exact Int.le_trans h.c1 (top_up o hj hk)
    · exact top_ge o hk _ ((hd _).mp e).1
  · rcases List.mem_append.mp hx with hx | hx
    · exact ht x (h.sub x hx)
    · exact ((hd x).mp hx).1
  · by_cases q : x ∈ s.g
    · exact List.mem_append_left _ q
    · refine List.mem_append_right _ ((hd x).mpr ⟨hx, q, ?_⟩)
      obtain ⟨p, hp, e⟩ := List.mem_take_iff_getElem.mp hx
      have hpn : p < ns.length := by omega
      have hpj : j ≤ p := by
        apply Decidable.byContradiction
        intro z
        refine q (h.all x ?_)
        exact List.mem_take_iff_getElem.mpr ⟨p, by omega, e⟩
      have h1 := reach_ge (ns := ns) hpn
      have h2 := top_up o hpj (Nat.le_of_lt hpn)
      have h3 := h.c1
      omega
theorem inv9_run {ns : List Int} (o : Ord ns) {near : Int} (hr : reach ns ≤ near) : ∀ (L : List Int) (s : PS) (j : Nat), Inv9 ns s j → L.Pairwise (· ≤ ·) → (∀ x ∈ L, (j : Int) ≤ x ∧ x ≤ ns.length) → ∃ j', Inv9 ns (L.foldl (playT near ns) s) j' ∧ j ≤ j' ∧ ∀ x ∈ L, x ≤ (j' : Int)
  | [], s, j, h, _, _ => ⟨j, h, Nat.le_refl _, fun x hx => nomatch hx⟩
  | k :: L, s, j, h, hp, hx => by
    obtain ⟨h1, h2⟩ := hx k (List.mem_cons_self ..)
    obtain ⟨k, rfl⟩ := Int.eq_ofNat_of_zero_le (show 0 ≤ k by omega)
    obtain ⟨j', g1, g2, g3⟩ := inv9_run o hr L _ k (inv9_step o hr h (by omega) (by omega)) (List.pairwise_cons.mp hp).2 fun x hx' => ⟨(List.pairwise_cons.mp hp).1 x hx', (hx x (List.mem_cons_of_mem _ hx')).2⟩
    refine ⟨j', g1, by omega, fun x hx' => ?_⟩
    rcases List.mem_cons.mp hx' with rfl | hx'
    · omega
    · exact g3 x hx'
theorem playS_flat {near : Int} {ns : List Int} : ∀ (L : List Int) (s : PS), s.ds.flatten = s.g → (L.foldl (playT near ns) s).ds.flatten = (L.foldl (playT near ns) s).g
  | [], s, h => h
  | k :: L, s, h => playS_flat L _ (by
    show (s.ds ++ [_]).flatten = s.g ++ _
    rw [List.flatten_append, h]
    simp)
theorem playS_len {near : Int} {ns : List Int} : ∀ (L : List Int) (s : PS), (L.foldl (playT near ns) s).ds.length = s.ds.length + L.length ∧ (L.foldl (playT near ns) s).g.length ≤ s.g.length + ns.length * L.length
  | [], s => ⟨rfl, by simp⟩
  | k :: L, s => by
    obtain ⟨h1, h2⟩ := playS_len (near := near) (ns := ns) L (playT near ns s k)
    have h3 : (playT near ns s k).ds.length = s.ds.length + 1 := List.length_append
    have h4 : (playT near ns s k).g.length = s.g.length + (dueL near s.c s.g ns k).length := List.length_append
    have h5 := dueL_len near s.c k s.g ns
    refine ⟨by rw [List.foldl_cons, h1, h3, List.length_cons]; omega, ?_⟩
    rw [List.foldl_cons, List.length_cons, Nat.mul_add, Nat.mul_one]
    omega
theorem inv9_0 (ns : List Int) : Inv9 ns ⟨0, [], []⟩ 0 := ⟨by omega, Int.le_refl _, (by rw [tops_zero]; exact Int.le_refl _), (fun x hx => nomatch hx), (fun x hx => by simp at hx)⟩
theorem lost_none {ns L : List Int} (o : Ord ns) {near : Int} (hr : reach ns ≤ near) (hL : Looks L ns.length) (hn : (ns.length : Int) ∈ L) : lostL (playS near ns L).ds.flatten ns = [] := by
  obtain ⟨j, h, _, h3⟩ := inv9_run o hr L _ 0 (inv9_0 ns) hL.asc hL.rng
  have hj : j = ns.length := by
    have := h3 _ hn
    have := h.le
    omega
  subst hj
  unfold playS
  rw [playS_flat L _ rfl]
  unfold lostL
  have : ns.filter (lostP (L.foldl (playT near ns) ⟨0, [], []⟩).g) = [] := by
    rw [List.filter_eq_nil_iff]
    intro x hx
    have := h.all x (by rw [List.take_length]; exact hx)
    simp [lostP, this]
  rw [this]
  exact List.length_eq_zero_iff.mp ((isort_perm []).length_eq)
theorem lost_ok {G : Hz} {a l : Nat} {near : Int} {L ns : List Int} (ha : G[a]? = some (.lst (ns.map V.int))) (hn : ns.length ≤ 30) (hL : G[l]? = some (.lst (L.map V.int))) (hl : L.length ≤ 31) (hr : ∀ x ∈ L, 0 ≤ x) :
    g_lost_k29 [.ref a, .ref l, .int near] G = some (.ref G.length, G ++ [.lst ((lostL (playS near ns L).ds.flatten ns).map V.int)]) := by
  have la := lt_get ha
  have ll := lt_get hL
  obtain ⟨T, rs, e1, e2⟩ := play_ok (near := near) ha hn hL hl hr
  obtain ⟨h1, h2⟩ := playS_len (near := near) (ns := ns) L ⟨0, [], []⟩
  have hfl := playS_flat (near := near) (ns := ns) L ⟨0, [], []⟩ rfl
  have h3 : ns.length * L.length ≤ 30 * 31 := Nat.mul_le_mul hn hl
  have e3 := missed29_ok (a := a) (G := G ++ .lst (rs.map V.ref) :: T) (f := G.length) (rs := rs) (ds := (playS near ns L).ds) (ns := ns) (get_app ha) hn (by simp [-Option.bind_some, -List.map_take, -List.map_drop, -List.map_append, -List.map_reverse, -List.map_set, -List.map_dropLast, -getElem?_pos]) e2 (by
    unfold playS
    rw [h1]
    show 0 + L.length ≤ 100
    omega) (by
    unfold playS
    rw [hfl]
    refine Nat.le_trans h2 ?_
    show 0 + ns.length * L.length ≤ 100000
    omega)
  simp [-Option.bind_some, -List.map_take, -List.map_drop, -List.map_append, -List.map_reverse, -List.map_set, -List.map_dropLast, -getElem?_pos] at e3
  simp [-Option.bind_some, -List.map_take, -List.map_drop, -List.map_append, -List.map_reverse, -List.map_set, -List.map_dropLast, -getElem?_pos, g_lost_k29, n_lost_k29, e1, e3]
end Zl

namespace Zl
open PySem L2
theorem irange_snoc (k : Nat) : irange 0 (k + 1) = irange 0 k ++ [(k : Int)] := by
  unfold irange
  rw [List.range_succ, List.map_append]
  simp
theorem lose_step {ns : List Int} (o : Ord ns) {w : Int} (hw : 0 ≤ w) {p : Nat} (hp : p < ns.length) (he : topAt ns p - ns[p] = w) : ∀ k, k ≤ ns.length →
    (playS w ns (irange 0 (k + 1))).c = topAt ns k ∧ (∀ x ∈ (playS w ns (irange 0 (k + 1))).g, x ∈ ns.take k) ∧ ns[p] ∉ (playS w ns (irange 0 (k + 1))).g
  | 0, _ => by
    have hd : dueL w 0 [] ns ((0 : Nat) : Int) = [] := List.eq_nil_iff_forall_not_mem.mpr fun x hx => by
      have := (due_mem.mp hx).1
      simp at this
    have h0 : playS w ns (irange 0 0) = ⟨0, [], []⟩ := rfl
    rw [irange_snoc 0, playS_snoc, h0]
    unfold playT
    dsimp only
    rw [hd]
    exact ⟨rfl, (fun x hx => nomatch hx), (fun hx => nomatch hx)⟩
  | k + 1, hk => by
    obtain ⟨h1, h2, h3⟩ := lose_step o hw hp he k (by omega)
    rw [irange_snoc (k + 1), playS_snoc]
    generalize playS w ns (irange 0 (k + 1)) = s at h1 h2 h3 ⊢
    have hd : ∀ x, x ∈ dueL w s.c s.g ns ((k + 1 : Nat) : Int) ↔ x ∈ ns.take (k + 1) ∧ x ∉ s.g ∧ s.c - w < x := fun x => by
      rw [due_mem]
      rfl
    have ht := tops_get ns k (by omega) fun i hi => (o.rng i hi).1
    have hkn : k < ns.length := by omega
    have hg : ns.getD k 0 = ns[k] := by rw [List.getD_eq_getElem?_getD, List.getElem?_eq_getElem hkn]; rfl
    rw [hg] at ht
    have et : ns.take (k + 1) = ns.take k ++ [ns[k]] := by rw [List.take_succ, List.getElem?_eq_getElem hkn]; rfl
    refine ⟨?_, fun x hx => ?_, fun hx => ?_⟩
    · show maxI s.c _ = _
      have m1 := maxI_ge (dueL w s.c s.g ns ((k + 1 : Nat) : Int)) s.c
      have m2 : maxI s.c (dueL w s.c s.g ns ((k + 1 : Nat) : Int)) ≤ topAt ns (k + 1) := by
        rcases List.mem_cons.mp (maxI_mem (dueL w s.c s.g ns ((k + 1 : Nat) : Int)) s.c) with e | e
        · rw [e, h1]
          exact top_up o (by omega) hk
        · exact top_ge o hk _ ((hd _).mp e).1
      by_cases q : topAt ns k < ns[k]
      · have hng : ns[k] ∉ s.g := fun z => by
          have hz := h2 _ z
          have := top_ge o (show k ≤ ns.length by omega) _ hz
          omega
        have := m1.2 ns[k] ((hd _).mpr ⟨by rw [et]; exact List.mem_append_right _ (List.mem_singleton.mpr rfl), hng, by omega⟩)
        omega
      · have := m1.1
        omega
    · rcases List.mem_append.mp hx with hx | hx
      · rw [et]
        exact List.mem_append_left _ (h2 x hx)
      · exact ((hd x).mp hx).1
    · rcases List.mem_append.mp hx with hx | hx
      · exact h3 hx
      · obtain ⟨g1, g2, g3⟩ := (hd _).mp hx
        by_cases q : p ≤ k
        · have := top_up o q (show k ≤ ns.length by omega)
          omega
        · obtain ⟨i, hi, e⟩ := List.mem_take_iff_getElem.mp g1
          exact List.pairwise_iff_getElem.mp o.nd i p (by omega) hp (by omega) e
theorem reach_pos (ns : List Int) : 1 ≤ reach ns := (maxI_ge _ _).1
theorem reach_ex {ns : List Int} (h : 1 < reach ns) : ∃ p, ∃ hp : p < ns.length, topAt ns p - ns[p] + 1 = reach ns := by
  rcases List.mem_cons.mp (maxI_mem (reachL ns) 1) with e | e
  · unfold reach at h
    omega
  · obtain ⟨p, hp, e2⟩ := List.mem_map.mp e
    have hp := List.mem_range.mp hp
    refine ⟨p, hp, ?_⟩
    rw [List.getD_eq_getElem?_getD, List.getElem?_eq_getElem hp] at e2
    exact e2
theorem playS_c {near : Int} {ns : List Int} : ∀ (L : List Int) (s : PS), (s.c = 0 ∨ s.c ∈ s.g) → ((L.foldl (playT near ns) s).c = 0 ∨ (L.foldl (playT near ns) s).c ∈ (L.foldl (playT near ns) s).g)
  | [], s, h => h
  | k :: L, s, h => playS_c L _ (by
    show maxI s.c _ = 0 ∨ maxI s.c _ ∈ s.g ++ _
    rcases List.mem_cons.mp (maxI_mem (dueL near s.c s.g ns k) s.c) with e | e
    · rw [e]
      exact h.imp id (List.mem_append_left _)
    · exact Or.inr (List.mem_append_right _ e))
theorem lost_some {ns : List Int} (o : Ord ns) (h : 1 < reach ns) : lostL (playS (reach ns - 1) ns (irange 0 (ns.length + 1))).ds.flatten ns ≠ [] := by
  obtain ⟨p, hp, e⟩ := reach_ex h
  obtain ⟨h1, h2, h3⟩ := lose_step o (w := reach ns - 1) (by omega) hp (by omega) ns.length (Nat.le_refl _)
  have hf := playS_flat (near := reach ns - 1) (ns := ns) (irange 0 (ns.length + 1)) ⟨0, [], []⟩ rfl
  have hc := playS_c (near := reach ns - 1) (ns := ns) (irange 0 (ns.length + 1)) ⟨0, [], []⟩ (Or.inl rfl)
  unfold playS at h1 h2 h3 ⊢
  rw [hf]
  generalize (irange 0 (ns.length + 1)).foldl (playT (reach ns - 1) ns) ⟨0, [], []⟩ = s at h1 h2 h3 hc ⊢
  have h5 := top_up o (show p ≤ ns.length by omega) (Nat.le_refl _)
  have h6 := o.rng _ (List.getElem_mem hp)
  have hcg : s.c ∈ s.g := hc.resolve_left (by omega)
  have h7 := (maxI_ge s.g 0).2 _ hcg
  have hmem : ns[p] ∈ ns.filter (lostP s.g) := by
    refine List.mem_filter.mpr ⟨List.getElem_mem hp, ?_⟩
    have h8 : ns[p] < maxI 0 s.g := by omega
    simp [lostP, h3, h8]
  intro z
  have := (isort_perm (ns.filter (lostP s.g))).mem_iff.mpr hmem
  unfold lostL at z
  rw [z] at this
  cases this
theorem reach_sorted {ns : List Int} (o : Ord ns) : reach ns = 1 ↔ ns = isort ns := by
  constructor
  · intro h
    refine sorted_unique (isort_perm ns).symm ?_ (isort_sorted ns)
    rw [List.pairwise_iff_getElem]
    intro i j hi hj hij
    have h1 := reach_ge (ns := ns) hj
    have h2 := top_ge o (show j ≤ ns.length by omega) ns[i] (List.mem_take_iff_getElem.mpr ⟨i, by omega, rfl⟩)
    omega
  · intro h
    apply Decidable.byContradiction
    intro z
    have h1 := reach_pos ns
    obtain ⟨p, hp, e⟩ := reach_ex (ns := ns) (by omega)
    have hs : ns.Pairwise (· ≤ ·) := by
      rw [h]
      exact isort_sorted ns
    by_cases q : p = 0
    · subst q
      rw [tops_zero] at e
      have := o.rng _ (List.getElem_mem hp)
      omega
    · have hm := top_mem o (show 0 < p by omega) (show p ≤ ns.length by omega)
      obtain ⟨i, hi, e2⟩ := List.mem_take_iff_getElem.mp hm
      have := List.pairwise_iff_getElem.mp hs i p (by omega) hp (by omega)
      omega
end Zl

namespace Zl
open PySem L2
theorem right29_B1 {H : Hz} {a b k : Nat} {P : List V} {ns : List Int} {s : Str} {e : Nat} {t : Option V} (h : H[a]? = some (.lst P)) (hP : Pool P k) (hk : k ≤ 10 ^ 5) (hb : H[b]? = some (.lst (ns.map V.int))) (o : Ord ns) (hab : a ≠ b) (he : e < H.length) :
    ∃ P', n_right_k29_B1 ([some (.ref a), some (.ref b), some (.str s), some (.ref e), some (.int (reach ns)), t, none] : St) H = some (.nx ([some (.ref a), some (.ref b), some (.str s), some (.ref e), some (.int (reach ns)), none, none] : St) (H.set a (.lst P'))) ∧ Pool P' (k + 100) := by
  have la := lt_get h
  have lb := lt_get hb
  have hn := o.len
  obtain ⟨P', L, e1, p1, hl, hL⟩ := looks_ok (n := ns.length) h hP (by omega) hn
  have hb2 : (H.set a (.lst P'))[b]? = some (.lst (ns.map V.int)) := by rw [List.getElem?_set_ne hab]; exact hb
  have lo := lost_ok (near := reach ns) (G := H.set a (.lst P') ++ [.lst ((L ++ [(ns.length : Int)]).map V.int)]) (a := b) (l := H.length) (L := L ++ [(ns.length : Int)]) (ns := ns) (get_app hb2) hn (by simp [-Option.bind_some, -List.map_take, -List.map_drop, -List.map_append, -List.map_reverse, -List.map_set, -List.map_dropLast, -getElem?_pos]) (by rw [List.length_append, show [(ns.length : Int)].length = 1 from rfl]; omega) (fun x hx => ((hL.snoc (by omega)).rng x hx).1)
  rw [lost_none o (Int.le_refl _) (hL.snoc (by omega)) (List.mem_append_right _ (List.mem_singleton.mpr rfl))] at lo
  have ne := cNe_nil (G := H.set a (.lst P') ++ [.lst ((L ++ [(ns.length : Int)]).map V.int), .lst [], .lst []]) (a := H.length + 1) (b := H.length + 2) (xs := []) (by simp [-Option.bind_some, -List.map_take, -List.map_drop, -List.map_append, -List.map_reverse, -List.map_set, -List.map_dropLast, -getElem?_pos]) (by simp [-Option.bind_some, -List.map_take, -List.map_drop, -List.map_append, -List.map_reverse, -List.map_set, -List.map_dropLast, -getElem?_pos])
  refine ⟨P', ?_, p1⟩
  have h1 : L.length + 1 ≤ 16777216 := by omega
  have h2 : L.length + 1 < 16777216 := by omega
  have h3 : ns.length < 16777216 := by omega
  have h4 : (L.length : Int) + 1 < 31 := by omega
  have em : L.map V.int ++ [V.int (ns.length : Int)] = (L ++ [(ns.length : Int)]).map V.int := by rw [List.map_append]; rfl
  simp [-Option.bind_some, -List.map_take, -List.map_drop, -List.map_append, -List.map_reverse, -List.map_set, -List.map_dropLast, -getElem?_pos] at lo ne
  simp [-Option.bind_some, -List.map_take, -List.map_drop, -List.map_append, -List.map_reverse, -List.map_set, -List.map_dropLast, -getElem?_pos, n_right_k29_B1, hb, hb2, h3, e1, h1, em, p1.all, la, lb, he, h2, h4, lo, ne]
theorem right29_F1 {H : Hz} {a b k : Nat} {P : List V} {ns : List Int} {s : Str} {e : Nat} (h : H[a]? = some (.lst P)) (hP : Pool P k) (hk : k ≤ 10 ^ 4) (hb : H[b]? = some (.lst (ns.map V.int))) (o : Ord ns) (hab : a ≠ b) (he : e < H.length) :
    ∃ P', n_right_k29_F1 ([some (.ref a), some (.ref b), some (.str s), some (.ref e), some (.int (reach ns)), none, none] : St) H = some (.nx ([some (.ref a), some (.ref b), some (.str s), some (.ref e), some (.int (reach ns)), none, none] : St) (H.set a (.lst P'))) ∧ Pool P' (k + 200) := by
  have la := lt_get h
  have hself : H.set a (.lst P) = H := by
    refine List.ext_getElem? fun j => ?_
    by_cases z : a = j
    · subst z
      rw [List.getElem?_set_self la, h]
    · rw [List.getElem?_set_ne z]
  obtain ⟨σ', G', e1, P', rfl, rfl, hp⟩ := forR (n := fuelN) (w := iRange1 (aCons (eC (.int 2)) aNil)) (g := gSet 5) (b := n_right_k29_B1) (lo := 0) (k := 2) (σ := ([some (.ref a), some (.ref b), some (.str s), some (.ref e), some (.int (reach ns)), none, none] : St)) (G := H) (G0 := H)
    (fun i σ K => ∃ P', σ = ([some (.ref a), some (.ref b), some (.str s), some (.ref e), some (.int (reach ns)), none, none] : St) ∧ K = H.set a (.lst P') ∧ Pool P' (k + 100 * i)) (by simp [-Option.bind_some, -List.map_take, -List.map_drop, -List.map_append, -List.map_reverse, -List.map_set, -List.map_dropLast, -getElem?_pos, rng1_int (i := 2) 2 rfl (by omega)]) ⟨_, rfl, hself.symm, hP⟩ (lt_fuel (by omega))
    (fun i σ K hi hI => by
      obtain ⟨P1, rfl, rfl, h1⟩ := hI
      obtain ⟨P', e2, hp⟩ := right29_B1 (s := s) (e := e) (t := some (.int (0 + (i : Int)))) (H := H.set a (.lst P1)) (a := a) (b := b) (by rw [List.getElem?_set_self la]) h1 (by omega) (by rw [List.getElem?_set_ne hab]; exact hb) o hab (by rw [List.length_set]; exact he)
      rw [List.set_set] at e2
      exact step_nx (by simp [-Option.bind_some, -List.map_take, -List.map_drop, -List.map_append, -List.map_reverse, -List.map_set, -List.map_dropLast, -getElem?_pos]; simp [-Option.bind_some, -List.map_take, -List.map_drop, -List.map_append, -List.map_reverse, -List.map_set, -List.map_dropLast, -getElem?_pos] at e2; exact e2) ⟨P', rfl, rfl, hp.mono (by omega)⟩)
  exact ⟨P', e1, hp⟩
theorem reach_small {ns : List Int} (o : Ord ns) : reach ns ≤ 2000000000000000000000000000000 := by
  by_cases h : 1 < reach ns
  · obtain ⟨p, hp, e⟩ := reach_ex h
    have h1 := o.rng _ (List.getElem_mem hp)
    have h2 : topAt ns p ≤ 1000000000000000000000000000000 := by
      by_cases q : p = 0
      · subst q
        rw [tops_zero]
        omega
      · have := top_mem o (show 0 < p by omega) (show p ≤ ns.length by omega)
        exact (o.rng _ (List.mem_of_mem_take this)).2
    omega
  · omega
theorem right29_ok {G : Hz} {a b k : Nat} {P : List V} {ns : List Int} (h : G[a]? = some (.lst P)) (hP : Pool P k) (hk : k ≤ 10 ^ 4) (hb : G[b]? = some (.lst (ns.map V.int))) (o : Ord ns) (hab : a ≠ b) :
    ∃ P', g_right_k29 [.ref a, .ref b] G = some (.bl true, G.set a (.lst P')) ∧ Pool P' (k + 200) := by
  have la := lt_get h
  have lb := lt_get hb
  have hn := o.len
  have lr := lrg_ok (G := G) (i := 0) (j := (ns.length : Int) + 1) (ns.length + 1) (by omega) (by omega) (by omega) (by omega) (by omega)
  have hrp := reach_pos ns
  have hrs := reach_small o
  have hb1 : (G ++ [O.lst ((irange 0 (ns.length + 1)).map V.int)])[b]? = some (.lst (ns.map V.int)) := get_app hb
  have r1 := repr_ints hb o.small
  have r2 := repr_ints hb1 o.small
  have rc := reach_ok hb1 o
  have ri := repr_int (G := G ++ [O.lst ((irange 0 (ns.length + 1)).map V.int)]) (i := reach ns) (by omega)
  have q1 := cEq_ints (G := G ++ [.lst ((irange 0 (ns.length + 1)).map V.int), .lst ((isort ns).map V.int)]) (a := b) (b := G.length + 1) (xs := ns) (ys := isort ns) (get_app hb) (by simp [-Option.bind_some, -List.map_take, -List.map_drop, -List.map_append, -List.map_reverse, -List.map_set, -List.map_dropLast, -getElem?_pos])
  have hL : Looks (irange 0 (ns.length + 1)) ns.length := Looks.irange
  have lo1 := lost_ok (near := reach ns) (G := G ++ [.lst ((irange 0 (ns.length + 1)).map V.int)]) (a := b) (l := G.length) (L := irange 0 (ns.length + 1)) hb1 hn (by simp [-Option.bind_some, -List.map_take, -List.map_drop, -List.map_append, -List.map_reverse, -List.map_set, -List.map_dropLast, -getElem?_pos]) (by rw [irange_length]; omega) fun x hx => (hL.rng x hx).1
  have lo2 := lost_ok (near := reach ns - 1) (G := G ++ [.lst ((irange 0 (ns.length + 1)).map V.int)]) (a := b) (l := G.length) (L := irange 0 (ns.length + 1)) hb1 hn (by simp [-Option.bind_some, -List.map_take, -List.map_drop, -List.map_append, -List.map_reverse, -List.map_set, -List.map_dropLast, -getElem?_pos]) (by rw [irange_length]; omega) fun x hx => (hL.rng x hx).1
  rw [lost_none o (Int.le_refl _) hL (by rw [irange_snoc]; exact List.mem_append_right _ (List.mem_singleton.mpr rfl))] at lo1
  have ne := cNe_nil (G := G ++ [.lst ((irange 0 (ns.length + 1)).map V.int), .lst [], .lst []]) (a := G.length + 1) (b := G.length + 2) (xs := []) (by simp [-Option.bind_some, -List.map_take, -List.map_drop, -List.map_append, -List.map_reverse, -List.map_set, -List.map_dropLast, -getElem?_pos]) (by simp [-Option.bind_some, -List.map_take, -List.map_drop, -List.map_append, -List.map_reverse, -List.map_set, -List.map_dropLast, -getElem?_pos])
  have q2 := cEq_ints (G := G ++ [.lst ((irange 0 (ns.length + 1)).map V.int), .lst ((lostL (playS (reach ns - 1) ns (irange 0 (ns.length + 1))).ds.flatten ns).map V.int), .lst []]) (a := G.length + 1) (b := G.length + 2) (xs := lostL (playS (reach ns - 1) ns (irange 0 (ns.length + 1))).ds.flatten ns) (ys := []) (by simp [-Option.bind_some, -List.map_take, -List.map_drop, -List.map_append, -List.map_reverse, -List.map_set, -List.map_dropLast, -getElem?_pos]) (by simp [-Option.bind_some, -List.map_take, -List.map_drop, -List.map_append, -List.map_reverse, -List.map_set, -List.map_dropLast, -getElem?_pos])
  obtain ⟨P', f1, p1⟩ := right29_F1 (H := G ++ [.lst ((irange 0 (ns.length + 1)).map V.int)]) (s := (PyData.list (ns.map PyData.int)).shown) (e := G.length) (get_app h) hP hk hb1 o hab (by simp [-Option.bind_some, -List.map_take, -List.map_drop, -List.map_append, -List.map_reverse, -List.map_set, -List.map_dropLast, -getElem?_pos])
  have hs : (reach ns = 1) ↔ ns = isort ns := reach_sorted o
  refine ⟨P', ?_, p1⟩
  have h3 : ns.length < 16777216 := by omega
  have h4 : ¬ reach ns < 1 := by omega
  have hbb : decide (ns = isort ns) = decide (reach ns = 1) := by
    by_cases z : reach ns = 1
    · rw [decide_eq_true z, decide_eq_true (hs.mp z)]
    · rw [decide_eq_false z, decide_eq_false (fun y => z (hs.mpr y))]
  rw [hbb] at q1
  by_cases z : 1 < reach ns
  · have hne := lost_some o z
    rw [decide_eq_false hne] at q2
    generalize lostL (playS (reach ns - 1) ns (irange 0 (ns.length + 1))).ds.flatten ns = M at q2 lo2
    simp [-Option.bind_some, -List.map_take, -List.map_drop, -List.map_append, -List.map_reverse, -List.map_set, -List.map_dropLast, -getElem?_pos, la] at lr ne q1 q2 lo1 lo2 f1 rc r2 ri
    simp [-Option.bind_some, -List.map_take, -List.map_drop, -List.map_append, -List.map_reverse, -List.map_set, -List.map_dropLast, -getElem?_pos, isiT, g_right_k29, n_right_k29, r1, hb, hb1, h3, lr, rc, ri, r2, q1, q2, lo1, lo2, ne, f1, h4, z, la, lb, p1.all]
  · have z1 : reach ns = 1 := by omega
    simp [-Option.bind_some, -List.map_take, -List.map_drop, -List.map_append, -List.map_reverse, -List.map_set, -List.map_dropLast, -getElem?_pos, la] at lr ne q1 q2 lo1 lo2 f1 rc r2 ri
    simp [-Option.bind_some, -List.map_take, -List.map_drop, -List.map_append, -List.map_reverse, -List.map_set, -List.map_dropLast, -getElem?_pos, isiT, g_right_k29, n_right_k29, r1, hb, hb1, h3, lr, rc, ri, r2, q1, q2, lo1, lo2, ne, f1, h4, z, la, lb, p1.all]
end Zl

namespace Zl
open PySem L2
theorem law29_B2 {xs : List V} {k n : Nat} {m : Int} {P : List V} {L : List O} (hP : Pool P n) (hn : n ≤ 5000) (hm0 : 0 ≤ m) (hm : m ≤ 30) :
    ∃ P', n_law_k29_B2 ([some (.ref 0), some (.int k), some (.ref 1), some (.int m), none] : St) ([.fz xs, .lst P] ++ L) = some (.nx ([some (.ref 0), some (.int k), some (.ref 1), none, none] : St) ([.fz xs, .lst P'] ++ L)) ∧ Pool P' (n + 600) := by
  obtain ⟨P1, ids, e1, p1, o, _⟩ := order29_ok (G := [.fz xs, .lst P] ++ L) (a := 1) (m := m) rfl hP (by omega) hm0 hm
  obtain ⟨P2, e2, p2⟩ := right29_ok (G := [.fz xs, .lst P1] ++ L ++ [.lst (ids.map V.int)]) (a := 1) (b := L.length + 2) rfl p1 (by omega) (by simp [-Option.bind_some, -List.map_take, -List.map_drop, -List.map_append, -List.map_reverse, -List.map_set, -List.map_dropLast, -getElem?_pos]) o (by omega)
  have o2 : Ord ids.reverse := o.perm ids.reverse_perm.symm
  obtain ⟨P3, e3, p3⟩ := right29_ok (G := [.fz xs, .lst P2] ++ L ++ [.lst (ids.reverse.map V.int)]) (a := 1) (b := L.length + 2) rfl p2 (by omega) (by simp [-Option.bind_some, -List.map_take, -List.map_drop, -List.map_append, -List.map_reverse, -List.map_set, -List.map_dropLast, -getElem?_pos]) o2 (by omega)
  refine ⟨P3, ?_, p3.mono (by omega)⟩
  simp [-Option.bind_some, -List.map_take, -List.map_drop, -List.map_append, -List.map_reverse, -List.map_set, -List.map_dropLast, -getElem?_pos] at e1 e2 e3
  simp [-Option.bind_some, -List.map_take, -List.map_drop, -List.map_append, -List.map_reverse, -List.map_set, -List.map_dropLast, -getElem?_pos, n_law_k29_B2, e1, e2, e3, p3.all]
theorem law29_F2 {xs : List V} {k n : Nat} {P : List V} (hP : Pool P n) (hn : n ≤ 1000) :
    ∃ P' L, n_law_k29_F2 ([some (.ref 0), some (.int k), some (.ref 1), none, none] : St) [.fz xs, .lst P] = some (.nx ([some (.ref 0), some (.int k), some (.ref 1), none, none] : St) ([.fz xs, .lst P'] ++ L)) ∧ Pool P' (n + 1200) := by
  obtain ⟨m, hm, hm0, hm1⟩ : ∃ m : Int, atI [V.int 30, V.int 12] (if (0 : Int) < (k : Int) then 1 else 0) = some (.int m) ∧ 0 ≤ m ∧ m ≤ 30 := by
    by_cases q : (0 : Int) < k
    · exact ⟨12, by rw [if_pos q]; rfl, by omega, by omega⟩
    · exact ⟨30, by rw [if_neg q]; rfl, by omega, by omega⟩
  unfold n_law_k29_F2
  obtain ⟨σ', G', e, P', rfl, rfl, h⟩ := forL (n := fuelN) (w := iListZ (eLst (aCons (eC (.int 8)) (aCons (eBin xIx (eLst (aCons (eC (.int 30)) (aCons (eC (.int 12)) aNil))) (eCall fInt (aCons (eBin cGt (eVar 1) (eC (.int 0))) aNil))) aNil)))) (g := gSet 3) (b := n_law_k29_B2) (σ := ([some (.ref 0), some (.int k), some (.ref 1), none, none] : St)) (G := [.fz xs, .lst P]) (G0 := [.fz xs, .lst P] ++ [.lst [.int 30, .int 12], .lst [.int 8, .int m]]) (a := 3) [.int 8, .int m]
    (fun i σ H => ∃ P', σ = ([some (.ref 0), some (.int k), some (.ref 1), none, none] : St) ∧ H = [.fz xs, .lst P'] ++ [.lst [.int 30, .int 12], .lst [.int 8, .int m]] ∧ Pool P' (n + 600 * i)) (by simp [-Option.bind_some, -List.map_take, -List.map_drop, -List.map_append, -List.map_reverse, -List.map_set, -List.map_dropLast, -getElem?_pos] at hm; simp [-Option.bind_some, -List.map_take, -List.map_drop, -List.map_append, -List.map_reverse, -List.map_set, -List.map_dropLast, -getElem?_pos, hm]) ⟨P, rfl, rfl, hP⟩ (lt_fuel (by simp [-Option.bind_some, -List.map_take, -List.map_drop, -List.map_append, -List.map_reverse, -List.map_set, -List.map_dropLast, -getElem?_pos]))
    (fun i σ H hI => by
      obtain ⟨P', rfl, rfl, _⟩ := hI
      left
      rfl)
    (fun i σ H x hx hI => by
      obtain ⟨P1, rfl, rfl, h1⟩ := hI
      have hx2 : (i = 0 ∧ x = .int 8) ∨ (i = 1 ∧ x = .int m) := by
        match i, hx with
        | 0, hx => cases hx; exact Or.inl ⟨rfl, rfl⟩
        | 1, hx => cases hx; exact Or.inr ⟨rfl, rfl⟩
      obtain ⟨m2, rfl, g1, g2, hi⟩ : ∃ m2 : Int, x = .int m2 ∧ 0 ≤ m2 ∧ m2 ≤ 30 ∧ i ≤ 1 := by
        rcases hx2 with ⟨rfl, rfl⟩ | ⟨rfl, rfl⟩
        · exact ⟨8, rfl, by omega, by omega, by omega⟩
        · exact ⟨m, rfl, hm0, hm1, by omega⟩
      obtain ⟨P', e, hp⟩ := law29_B2 (xs := xs) (k := k) (m := m2) (L := [.lst [.int 30, .int 12], .lst [.int 8, .int m]]) h1 (by omega) g1 g2
      refine step_nx ?_ ⟨P', rfl, rfl, hp.mono (by omega)⟩
      simp [-Option.bind_some, -List.map_take, -List.map_drop, -List.map_append, -List.map_reverse, -List.map_set, -List.map_dropLast, -getElem?_pos] at e ⊢
      exact e)
  exact ⟨P', _, e, h⟩
theorem law29_B1 {ns : List Int} {k : Nat} (hk : k < 100) :
    n_law_k29_B1 ([some (.ref 0), some (.int k), none, none, none] : St) (G0 ns) = some (.nx ([some (.ref 0), none, none, none, none] : St) (G0 ns)) := by
  obtain ⟨P, e, hp⟩ := pool29_ok (G := G0 ns) (ns := ns) (k := k) rfl hk
  obtain ⟨P', L, e2, h2⟩ := law29_F2 (xs := ns.map V.int) (k := k) hp (by omega)
  have e' : g_pool [V.ref 0, V.int k] [.fz (ns.map V.int)] = some (V.ref 1, [.fz (ns.map V.int), .lst P]) := e
  unfold G0
  simp [-Option.bind_some, -List.map_take, -List.map_drop, -List.map_append, -List.map_reverse, -List.map_set, -List.map_dropLast, -getElem?_pos] at e2
  simp [-Option.bind_some, -List.map_take, -List.map_drop, -List.map_append, -List.map_reverse, -List.map_set, -List.map_dropLast, -getElem?_pos, n_law_k29_B1, e', e2, h2.all]
def F29 : V → V
  | .ref 1 => .int 2
  | .ref 2 => .int 1000000000000000000000000000000
  | .ref 3 => .int 1
  | .ref 4 => .int 1
  | _ => .non
def K29 (xs : List V) : Hz := [.fz xs, .lst [.int 2, .int 1], .lst [.int 1000000000000000000000000000000, .int 1], .lst [], .lst [.int 4], .lst [.ref 1, .ref 2, .ref 3, .ref 4]]
theorem reach29 (xs : List V) (S : Hz) : ∀ x ∈ [V.ref 1, .ref 2, .ref 3, .ref 4], f_greatest_reach [x] (K29 xs ++ S) = some (F29 x, K29 xs ++ S) := by
  intro x hx
  have hx : x = .ref 1 ∨ x = .ref 2 ∨ x = .ref 3 ∨ x = .ref 4 := by simpa using hx
  have r1 : reach [2, 1] = 2 := by decide
  have r2 : reach [1000000000000000000000000000000, 1] = 1000000000000000000000000000000 := by decide
  have r3 : reach [] = 1 := by decide
  have r4 : reach [4] = 1 := by decide
  rcases hx with rfl | rfl | rfl | rfl
  · have := reach_ok (G := K29 xs ++ S) (a := 1) (ns := [2, 1]) rfl ⟨by decide, by decide, by decide⟩
    rw [r1] at this
    exact this
  · have := reach_ok (G := K29 xs ++ S) (a := 2) (ns := [1000000000000000000000000000000, 1]) rfl ⟨by decide, by decide, by decide⟩
    rw [r2] at this
    exact this
  · have := reach_ok (G := K29 xs ++ S) (a := 3) (ns := []) rfl ⟨by decide, by decide, by decide⟩
    rw [r3] at this
    exact this
  · have := reach_ok (G := K29 xs ++ S) (a := 4) (ns := [4]) rfl ⟨by decide, by decide, by decide⟩
    rw [r4] at this
    exact this
theorem law29_C3 (xs : List V) : n_law_k29_C3 ([some (.ref 0), none, none, none, none] : St) [.fz xs] = some (.ref 6, K29 xs ++ [.lst [.int 2, .int 1000000000000000000000000000000, .int 1, .int 1]]) := by
  unfold n_law_k29_C3
  rw [comp_pure (it := itL 5) (G0 := K29 xs) [.ref 1, .ref 2, .ref 3, .ref 4] (fun _ => true) F29 (by simp [-Option.bind_some, -List.map_take, -List.map_drop, -List.map_append, -List.map_reverse, -List.map_set, -List.map_dropLast, -getElem?_pos, K29]) (yl_list rfl) (lt_fuel (by simp [-Option.bind_some, -List.map_take, -List.map_drop, -List.map_append, -List.map_reverse, -List.map_set, -List.map_dropLast, -getElem?_pos])) (by simp [-Option.bind_some, -List.map_take, -List.map_drop, -List.map_append, -List.map_reverse, -List.map_set, -List.map_dropLast, -getElem?_pos]) (fun x hx acc => by
    refine ⟨([some (.ref 0), none, none, none, some x] : St), by simp [-Option.bind_some, -List.map_take, -List.map_drop, -List.map_append, -List.map_reverse, -List.map_set, -List.map_dropLast, -getElem?_pos], rfl, fun _ => ⟨?_, ?_⟩⟩
    · have := reach29 xs [.lst acc] x hx
      simp [-Option.bind_some, -List.map_take, -List.map_drop, -List.map_append, -List.map_reverse, -List.map_set, -List.map_dropLast, -getElem?_pos, this]
    · have hx : x = .ref 1 ∨ x = .ref 2 ∨ x = .ref 3 ∨ x = .ref 4 := by simpa using hx
      rcases hx with rfl | rfl | rfl | rfl <;> rfl)]
  rfl
theorem spec_g_law_k29 (ns : List Int) (hn : ns.length ≤ 63) : ∃ G', g_law_k29 [.ref 0] (G0 ns) = some (.bl true, G') := by
  have lp : n_law_k29_F1 ([some (.ref 0), none, none, none, none] : St) (G0 ns) = some (.nx ([some (.ref 0), none, none, none, none] : St) (G0 ns)) := by
    obtain ⟨σ', G', e, rfl, rfl⟩ := forR (n := fuelN) (w := iRange1 (aCons (eCall fMax (aCons (eC (.int 1)) (aCons (eCall fMin (aCons (eC (.int 5)) (aCons (eCall fLen (aCons (eVar 0) aNil)) aNil))) aNil))) aNil)) (g := gSet 1) (b := n_law_k29_B1) (lo := 0) (k := max 1 (min 5 ns.length))
      (σ := ([some (.ref 0), none, none, none, none] : St)) (G := G0 ns) (G0 := G0 ns)
      (fun i σ H => σ = ([some (.ref 0), none, none, none, none] : St) ∧ H = G0 ns) (by simp [-Option.bind_some, -List.map_take, -List.map_drop, -List.map_append, -List.map_reverse, -List.map_set, -List.map_dropLast, -getElem?_pos, G0, rng1_int (i := max 1 (min 5 (ns.length : Int))) (max 1 (min 5 ns.length)) (by omega) (by omega)]) ⟨rfl, rfl⟩ (lt_fuel (by omega))
      (fun i σ H hi hI => by
        obtain ⟨rfl, rfl⟩ := hI
        have e := law29_B1 (ns := ns) (k := i) (by omega)
        exact step_nx (by simp [-Option.bind_some, -List.map_take, -List.map_drop, -List.map_append, -List.map_reverse, -List.map_set, -List.map_dropLast, -getElem?_pos]; exact e) ⟨rfl, rfl⟩)
    exact e
  unfold G0 at lp ⊢
  have c3 := law29_C3 (ns.map V.int)
  have q := cEq_ints (G := K29 (ns.map V.int) ++ [.lst [.int 2, .int 1000000000000000000000000000000, .int 1, .int 1], .lst [.int 2, .int 1000000000000000000000000000000, .int 1, .int 1]]) (a := 6) (b := 7) (xs := [2, 1000000000000000000000000000000, 1, 1]) (ys := [2, 1000000000000000000000000000000, 1, 1]) rfl rfl
  unfold K29 at c3 q
  simp [-Option.bind_some, -List.map_take, -List.map_drop, -List.map_append, -List.map_reverse, -List.map_set, -List.map_dropLast, -getElem?_pos] at c3 q
  simp [-Option.bind_some, -List.map_take, -List.map_drop, -List.map_append, -List.map_reverse, -List.map_set, -List.map_dropLast, -getElem?_pos, g_law_k29, n_law_k29, lp, c3, q]
end Zl

open PySem PySem.W PySem.Calls PyProof.Rows in
set_option maxRecDepth 100000 in
set_option maxHeartbeats 0 in
theorem PySem.Challenge.cw_lateids_k29_greatest_reach_holds : PySem.Challenge.rw_lateids_k29_greatest_reach.Holds := by
  w_on; o_law
  refine HandSHeadRun.head_any (r := OpenLaw.row PySem.Challenge.rw_lateids_k29_greatest_reach) (q := view (OpenLaw.row PySem.Challenge.rw_lateids_k29_greatest_reach).prog [24]) (H := Zl.K29.hk) (ob := Zl.K29.ob) (M := 4000) (loose := Zl.K29.loose) (d := HandSHeadRun.topDef (OpenLaw.row PySem.Challenge.rw_lateids_k29_greatest_reach).prog 24) (kwd := []) Zl.K29.ob_eq
    (by kernel_rfl) (fun s => by kernel_rfl) Zl.K29.run (by kernel_rfl) (by kernel_rfl) (by kernel_rfl) (by rfl) (by first | assumption | decide +kernel) (by decide +kernel) ⟨rfl, rfl, rfl, rfl, rfl, by decide +kernel⟩ ?hw ?hc
  case hw => w_witness2
  case hc =>
    refine Zl.walk_ofZE (l := PySem.Challenge.rw_lateids_k29_greatest_reach) (n := 63) (k := 7) (x := "_law_script") (m := Zl.g_law_k29) rfl (by decide) (by kernel_rfl) ⟨rfl, by decide, by decide⟩ ?F Zl.spec_g_law_k29
    intro w mg fa h Y G hmg0
    obtain ⟨K, KX, c⟩ := Y
    have hmg : mg ("law" : PySem.Str) = some (.ref fa) := by
      have e : (HandSHeadRun.topDef (OpenLaw.row PySem.Challenge.rw_lateids_k29_greatest_reach).prog 24).name = ("law" : PySem.Str) := by kernel_rfl
      rw [← e]
      exact hmg0
    obtain ⟨fd, hb, hF⟩ := Zl.K29.facts (P := (PySem.Challenge.rw_lateids_k29_greatest_reach).prog) (w := w) KX G hmg c
    exact ⟨K, fd, KX, hb, hF⟩
#print axioms PySem.Challenge.cw_lateids_k29_greatest_reach_holds
