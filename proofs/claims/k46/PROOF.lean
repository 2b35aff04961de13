import PyProof.Rows.All
import Wide.All
import OpenK.AllK
import Wide.FinOn
import PySem.PyData
import HandS.ForMost
import HandS.ForExc
import HandS.SetKeys
import HandS.Ends
import HandS.EndBits
import HandS.Text
import PyProof.StrBlock2
import PyProof.ReprRoads
import PyProof.Rows.SetFrom
import PyProof.TupleCall
import PyProof.WalksMore
import HandS.TupAny
import HandS.TupMul
import HandS.IsInst
import HandS.Wide
import KE.DataEq
import KE.DataAny
import HandS.WordsDict
import HandS.Conv
import PyProof.ListStr
import HandS.FStr
import HandS.ExcCtx
import HandS.Style
import HandS.ExcOwn
import HandS.Words
import PyProof.StrLawsRepr
import PyProof.ReprLoop
import PySem.Challenge.RW_openlane_k46_texts_both_ways
set_option autoImplicit false
/-! Den: what a def of the program computes, over data. D: closed data; O: data that may be open (owned by one name, changed in place). -/
namespace Dn
open PySem

inductive D where
  | non | bl (b : Bool) | int (i : Int) | str (x : Str)
  | tup (xs : List D) | lst (xs : List D) | set (xs : List D)
  | dct (kvs : List (D × D))
  | obj (c : Str) (fs : List (Str × D))
  | fn (x : Str)
  | scr (xs : List Int)
  deriving Inhabited
inductive O where
  | d (x : D) | lst (xs : List D) | set (xs : List D) | dct (kvs : List (D × D)) | obj (c : Str) (fs : List (Str × O))
  deriving Inhabited

mutual
def view : O → D
  | .d x => x
  | .lst xs => .lst xs
  | .set xs => .set xs
  | .dct kvs => .dct kvs
  | .obj c fs => .obj c (viewF fs)
def viewF : List (Str × O) → List (Str × D)
  | [] => []
  | (n, o) :: r => (n, view o) :: viewF r
end
def isOpen : O → Bool
  | .d _ => false
  | _ => true

/-- a slot: nothing known, or its content -/
abbrev Slot := Option O
abbrev Sl := List Slot
inductive Res (α : Type) where
  | bad | exc (c : Str) (δ : Sl) | ok (a : α) (δ : Sl)
def Res.bind {α β : Type} (r : Res α) (k : α → Sl → Res β) : Res β := match r with
  | .bad => .bad
  | .exc c δ => .exc c δ
  | .ok a δ => k a δ
@[simp] theorem Res.bind_bad {α β : Type} (k : α → Sl → Res β) : (Res.bad : Res α).bind k = .bad := rfl
@[simp] theorem Res.bind_exc {α β : Type} (c : Str) (δ : Sl) (k : α → Sl → Res β) : (Res.exc c δ : Res α).bind k = .exc c δ := rfl
@[simp] theorem Res.bind_ok {α β : Type} (a : α) (δ : Sl) (k : α → Sl → Res β) : (Res.ok a δ).bind k = k a δ := rfl
/-- an operand: a slot that is read in place, or a value -/
inductive Hd where
  | sl (i : Nat) | tm (o : O)
abbrev EM := Sl → Res O
abbrev BM := Sl → Res Hd
abbrev AM := Sl → Res (List Hd)
inductive SR where
  | bad | exc (c : Str) (δ : Sl) | nx (δ : Sl) | rt (o : O) (δ : Sl) | bk (δ : Sl) | ct (δ : Sl)
/-- a statement: the slots that are lent (their names are never bound anew), the slots -/
abbrev SM := (Nat → Bool) → Sl → SR
inductive FR where
  | bad | exc (c : Str) (outs : Sl) | ret (o : O) (outs : Sl)
abbrev Fn := List O → FR

def rd (δ : Sl) : Hd → Option D
  | .sl i => match δ[i]? with
    | some (some o) => some (view o)
    | _ => none
  | .tm o => some (view o)
def rdAll (δ : Sl) : List Hd → Option (List D)
  | [] => some []
  | h :: r => match rd δ h, rdAll δ r with
    | some x, some xs => some (x :: xs)
    | _, _ => none

/-! ### values -/
def eC (x : D) : EM := fun δ => .ok (.d x) δ
/-- a name whose object is from now on shared: it is closed -/
def eVar (i : Nat) : EM := fun δ => match δ[i]? with
  | some (some o) => .ok (.d (view o)) (δ.set i (some (.d (view o))))
  | _ => .bad
/-- the object of a name is handed on as it is -/
def eMove (i : Nat) : EM := fun δ => match δ[i]? with
  | some (some o) => .ok o (δ.set i none)
  | _ => .bad
def bVar (i : Nat) : BM := fun δ => match δ[i]? with
  | some (some _) => .ok (.sl i) δ
  | _ => .bad
def bVal (f : EM) : BM := fun δ => (f δ).bind fun o δ1 => .ok (.tm o) δ1
/-- what is read is closed data -/
def ofOp (r : Option O) (δ : Sl) : Res O := match r with
  | some o => .ok o δ
  | none => .bad
def e1 (op : D → Option O) (a : BM) : EM := fun δ => (a δ).bind fun h δ1 => match rd δ1 h with
  | some x => ofOp (op x) δ1
  | none => .bad
def e2 (op : D → D → Option O) (a b : BM) : EM := fun δ => (a δ).bind fun h δ1 => (b δ1).bind fun k δ2 => match rd δ2 h, rd δ2 k with
  | some x, some y => ofOp (op x y) δ2
  | _, _ => .bad
def aNil : AM := fun δ => .ok [] δ
def aCons (a : BM) (r : AM) : AM := fun δ => (a δ).bind fun h δ1 => (r δ1).bind fun hs δ2 => .ok (h :: hs) δ2
def eN (op : List D → Option O) (as : AM) : EM := fun δ => (as δ).bind fun hs δ1 => match rdAll δ1 hs with
  | some xs => ofOp (op xs) δ1
  | none => .bad

/-- a method of the first operand, whose sort is looked at ahead of the second -/
def e2T (chk : D → Bool) (op : D → D → Option O) (a b : BM) : EM := fun δ => (a δ).bind fun h δ1 => match rd δ1 h with
  | some x0 => if chk x0 = true then (b δ1).bind fun k δ2 => match rd δ2 h, rd δ2 k with
    | some x, some y => ofOp (op x y) δ2
    | _, _ => .bad
    else .bad
  | none => .bad
def isStrD : D → Bool
  | .str _ => true
  | _ => false
/-- a < b < c -/
def eChain (f g : D → D → Option O) (a b c : BM) : EM := fun δ => (a δ).bind fun h δ1 => (b δ1).bind fun k δ2 => match rd δ2 h, rd δ2 k with
  | some x, some y => match f x y with
    | some (.d (.bl true)) => (c δ2).bind fun l δ3 => match rd δ3 k, rd δ3 l with
      | some y', some z => ofOp (g y' z) δ3
      | _, _ => .bad
    | some (.d (.bl false)) => .ok (.d (.bl false)) δ2
    | _ => .bad
  | _, _ => .bad
/-- a cut's bounds -/
abbrev PM := Sl → Res (Option Int)
def pNone : PM := fun δ => .ok none δ
def pSome (f : EM) : PM := fun δ => (f δ).bind fun o δ1 => match o with
  | .d (.int i) => .ok (some i) δ1
  | _ => .bad
def eCut (op : D → Option Int → Option Int → Option O) (a : BM) (lo hi : PM) : EM := fun δ => (a δ).bind fun h δ1 => (lo δ1).bind fun l δ2 => (hi δ2).bind fun u δ3 => match rd δ3 h with
  | some x => ofOp (op x l u) δ3
  | none => .bad
/-- values in hand -/
def tms : List Hd → Option (List O)
  | [] => some []
  | .tm o :: r => (tms r).map (o :: ·)
  | .sl _ :: _ => none
/-- a display: its items are closed -/
def eDisp (mk : List D → Option O) (as : AM) : EM := fun δ => (as δ).bind fun hs δ1 => match tms hs with
  | some os => ofOp (mk (os.map view)) δ1
  | none => .bad
/-- f'..' -/
def fmtS : O → Option Str
  | .d (.str y) => if y.length ≤ 1000000 then some y else none
  | .d (.int i) => if i.natAbs.log2 < 1920 then some (toString i) else none
  | _ => none
def eFs : List EM → Str → EM
  | [], acc => fun δ => .ok (.d (.str acc)) δ
  | f :: fs, acc => fun δ => (f δ).bind fun o δ1 => match fmtS o with
    | some y => if (acc ++ y).length ≤ 1000000 then eFs fs (acc ++ y) δ1 else .bad
    | none => .bad
/-- a list's method that changes it: the items in hand are closed -/
def eMut (i : Nat) (op : List D → List D → Option (D × List D)) (as : AM) : EM := fun δ => match δ[i]? with
  | some (some (.lst _)) => (as δ).bind fun hs δ1 => match tms hs with
    | some os => match δ1[i]? with
      | some (some (.lst xs)) => match op xs (os.map view) with
        | some (r, ys) => .ok (.d r) (δ1.set i (some (.lst ys)))
        | none => .bad
      | _ => .bad
    | none => .bad
  | _ => .bad
/-! ### tests -/
abbrev TM := Sl → Res Bool
def asBool : O → Option Bool
  | .d (.bl b) => some b
  | _ => none
def tVal (f : EM) : TM := fun δ => (f δ).bind fun o δ1 => match asBool o with
  | some b => .ok b δ1
  | none => .bad
def tAndM (a b : TM) : TM := fun δ => (a δ).bind fun c δ1 => if c = true then b δ1 else .ok false δ1
def tOrM (a b : TM) : TM := fun δ => (a δ).bind fun c δ1 => if c = true then .ok true δ1 else b δ1
def tNotM (a : TM) : TM := fun δ => (a δ).bind fun c δ1 => .ok (!c) δ1
def eIf (c : TM) (a b : EM) : EM := fun δ => (c δ).bind fun k δ1 => if k = true then a δ1 else b δ1
def eAnd (a : EM) (b : EM) : EM := fun δ => (a δ).bind fun o δ1 => match asBool o with
  | some true => b δ1
  | some false => .ok (.d (.bl false)) δ1
  | none => .bad
def eOr (a : EM) (b : EM) : EM := fun δ => (a δ).bind fun o δ1 => match asBool o with
  | some true => .ok (.d (.bl true)) δ1
  | some false => b δ1
  | none => .bad
def eNot (a : EM) : EM := fun δ => (a δ).bind fun o δ1 => match asBool o with
  | some b => .ok (.d (.bl (!b))) δ1
  | none => .bad

/-! ### statements -/
def SR.bind (r : SR) (k : Sl → SR) : SR := match r with
  | .nx δ => k δ
  | r => r
def ofRes {α : Type} (r : Res α) (k : α → Sl → SR) : SR := match r with
  | .bad => .bad
  | .exc c δ => .exc c δ
  | .ok a δ => k a δ
@[simp] theorem ofRes_bad {α : Type} (k : α → Sl → SR) : ofRes (.bad : Res α) k = .bad := rfl
@[simp] theorem ofRes_exc {α : Type} (c : Str) (δ : Sl) (k : α → Sl → SR) : ofRes (.exc c δ : Res α) k = .exc c δ := rfl
@[simp] theorem ofRes_ok {α : Type} (a : α) (δ : Sl) (k : α → Sl → SR) : ofRes (.ok a δ) k = k a δ := rfl
@[simp] theorem SR.bind_nx (δ : Sl) (k : Sl → SR) : (SR.nx δ).bind k = k δ := rfl
@[simp] theorem SR.bind_rt (o : O) (δ : Sl) (k : Sl → SR) : (SR.rt o δ).bind k = .rt o δ := rfl
@[simp] theorem SR.bind_bad (k : Sl → SR) : SR.bad.bind k = .bad := rfl
@[simp] theorem SR.bind_exc (c : Str) (δ : Sl) (k : Sl → SR) : (SR.exc c δ).bind k = .exc c δ := rfl
@[simp] theorem SR.bind_bk (δ : Sl) (k : Sl → SR) : (SR.bk δ).bind k = .bk δ := rfl
@[simp] theorem SR.bind_ct (δ : Sl) (k : Sl → SR) : (SR.ct δ).bind k = .ct δ := rfl
def sNil : SM := fun _ δ => .nx δ
def sCons (a b : SM) : SM := fun lk δ => (a lk δ).bind (b lk)
def sExpr (f : EM) : SM := fun _ δ => ofRes (f δ) fun _ δ1 => .nx δ1
/-- a slot is stored; a lent one can't be -/
def put (lk : Nat → Bool) (δ : Sl) (i : Nat) (o : O) (k : Sl → SR) : SR := if lk i = true ∨ δ.length ≤ i then .bad else k (δ.set i (some o))
def sSet (i : Nat) (f : EM) : SM := fun lk δ => ofRes (f δ) fun o δ1 => put lk δ1 i o .nx
def sRet (f : EM) : SM := fun _ δ => ofRes (f δ) fun o δ1 => .rt o δ1
def sRetN : SM := fun _ δ => .rt (.d .non) δ
def sRetV (i : Nat) : SM := fun lk δ => ofRes ((if lk i = true then eVar i else eMove i) δ) fun o δ1 => .rt o δ1
def sIf (c : TM) (a b : SM) : SM := fun lk δ => ofRes (c δ) fun k δ1 => if k = true then a lk δ1 else b lk δ1
def sBrk : SM := fun _ δ => .bk δ
def sCnt : SM := fun _ δ => .ct δ
def sRaise (c : Str) : SM := fun _ δ => .exc c δ
/-- the end of a turn -/
def turnEnd (r : SR) (next : Sl → SR) : SR := match r with
  | .nx δ => next δ
  | .ct δ => next δ
  | .bk δ => .nx δ
  | r => r
def forL (body : D → SM) (lk : Nat → Bool) : List D → Sl → SR
  | [], δ => .nx δ
  | x :: xs, δ => turnEnd (body x lk δ) (forL body lk xs)
def whileL (c : TM) (body : SM) (lk : Nat → Bool) : Nat → Sl → SR
  | 0, _ => .bad
  | n + 1, δ => ofRes (c δ) fun k δ1 => if k = true then turnEnd (body lk δ1) (whileL c body lk n) else .nx δ1

def sWhile (fuel : Sl → Nat) (c : TM) (body : SM) : SM := fun lk δ => whileL c body lk (fuel δ) δ
/-- x[k] = v -/
def sPut (i : Nat) (op : List D → D → D → Option (List D)) (ix : BM) (f : EM) : SM := fun _ δ => ofRes (f δ) fun o δ1 => match δ1[i]? with
  | some (some _) => ofRes (ix δ1) fun h δ2 => match δ2[i]?, rd δ2 h with
    | some (some (.lst xs)), some k => match op xs k (view o) with
      | some ys => .nx (δ2.set i (some (.lst ys)))
      | none => .bad
    | _, _ => .bad
  | _ => .bad
/-- x, y = a, b -/
def sPar (i j : Nat) (f g : EM) : SM := fun lk δ => ofRes (f δ) fun o δ1 => ofRes (g δ1) fun p δ2 => put lk δ2 i o fun δ3 => put lk δ3 j p .nx
/-- a target -/
abbrev GM := (Nat → Bool) → D → Sl → Option Sl
def gN (i : Nat) : GM := fun lk d δ => if lk i = true ∨ δ.length ≤ i then none else some (δ.set i (some (.d d)))
abbrev GMs := (Nat → Bool) → List D → Sl → Option Sl
def gsN : GMs := fun _ ds δ => match ds with
  | [] => some δ
  | _ => none
def gsC (g : GM) (r : GMs) : GMs := fun lk ds δ => match ds with
  | d :: ds => (g lk d δ).bind (r lk ds)
  | [] => none
def gT (n : Nat) (g : GMs) : GM := fun lk d δ => match d with
  | .tup xs => if xs.length = n then g lk xs δ else none
  | _ => none
/-- what is walked: its items -/
abbrev IM := Sl → Res (List D)
def ofG (r : Option Sl) (k : Sl → SR) : SR := match r with
  | some δ => k δ
  | none => .bad
def sFor (it : IM) (g : GM) (body : SM) : SM := fun lk δ => ofRes (it δ) fun ds δ1 => forL (fun d lk δ => ofG (g lk d δ) (body lk)) lk ds δ1
/-- target = value, the value closed -/
def sAsgT (f : EM) (g : GM) : SM := fun lk δ => ofRes (f δ) fun o δ1 => match o with
  | .d x => ofG (g lk x δ1) .nx
  | _ => .bad
/-- an operand's items: a name's object is closed, a new object too -/
def sign (c : Nat) : Str := ⟨#[c]⟩
def seqOf : D → Option (List D)
  | .lst xs => some xs
  | .tup xs => some xs
  | .str z => some (z.cps.toList.map fun c => .str (sign c))
  | .scr xs => some (xs.map .int)
  | _ => none
def iSeq (f : EM) : IM := fun δ => (f δ).bind fun o δ1 => match seqOf (view o) with
  | some xs => .ok xs δ1
  | none => .bad
/-- the items are known -/
def iConst (ds : List D) : IM := fun δ => .ok ds δ
/-- a name's object is walked: its slot is empty meanwhile, when it is open -/
def SR.back (i : Nat) (o : O) : SR → SR
  | .bad => .bad
  | .exc c δ => .exc c (δ.set i (some o))
  | .nx δ => .nx (δ.set i (some o))
  | .rt v δ => .rt v (δ.set i (some o))
  | .bk δ => .bk (δ.set i (some o))
  | .ct δ => .ct (δ.set i (some o))
def Res.back {α : Type} (i : Nat) (o : O) : Res α → Res α
  | .bad => .bad
  | .exc c δ => .exc c (δ.set i (some o))
  | .ok a δ => .ok a (δ.set i (some o))
def holdS (i : Nat) (f : List D → SM) : SM := fun lk δ => match δ[i]? with
  | some (some o) => match seqOf (view o) with
    | some ds => if isOpen o = true then SR.back i o (f ds (fun j => decide (j = i) || lk j) (δ.set i none)) else f ds (fun j => decide (j = i) || lk j) δ
    | none => .bad
  | _ => .bad
def holdE (i : Nat) (f : List D → EM) : EM := fun δ => match δ[i]? with
  | some (some o) => match seqOf (view o) with
    | some ds => if isOpen o = true then Res.back i o (f ds (δ.set i none)) else f ds δ
    | none => .bad
  | _ => .bad
def sForH (i : Nat) (g : GM) (body : SM) : SM := holdS i fun ds => sFor (iConst ds) g body
/-- items out of operands -/
def iN (op : List D → Option (List D)) (as : AM) : IM := fun δ => (as δ).bind fun hs δ1 => match rdAll δ1 hs with
  | some xs => match op xs with
    | some ds => .ok ds δ1
    | none => .bad
  | none => .bad
def intsFrom (lo c : Int) (n : Nat) : List D := (List.range n).map fun k => .int (lo + (k : Nat) * c)
def smallI (i : Int) : Bool := decide (-1000000000 ≤ i ∧ i ≤ 1000000000)
def rangeOp : List D → Option (List D)
  | [.int j] => if smallI j = true then some (intsFrom 0 1 j.toNat) else none
  | _ => none
def rangeOp2 : List D → Option (List D)
  | [.int i, .int j] => if smallI i = true ∧ smallI j = true then some (intsFrom i 1 (j - i).toNat) else none
  | _ => none
def rangeOp3 : List D → Option (List D)
  | [.int i, .int j, .int c] => if smallI i = true ∧ smallI j = true ∧ c = -1 then some (intsFrom i (-1) (i - j).toNat) else none
  | _ => none
/-! ### comprehensions -/
def Res.noexc {α : Type} (r : Res α) : Res α := match r with
  | .exc _ _ => .bad
  | r => r
@[simp] theorem Res.noexc_ok {α : Type} (a : α) (δ : Sl) : (Res.ok a δ).noexc = .ok a δ := rfl
def wipeS (δ : Sl) : List Nat → Sl
  | [] => δ
  | v :: vs => (wipeS δ vs).set v none
/-- the slots vs as they stand in δ0 -/
def backS (δ0 δ : Sl) : List Nat → Sl
  | [] => δ
  | v :: vs => (backS δ0 δ vs).set v (δ0.getD v none)
def lcL (vs : List Nat) (g : GM) (t : TM) (e : EM) : List D → Sl → List D → Res (List D)
  | [], δ, acc => .ok acc δ
  | d :: ds, δ, acc => match g (fun i => !vs.contains i) d δ with
    | none => .bad
    | some δ2 => (t δ2).noexc.bind fun b δ3 => if b = true then (e δ3).noexc.bind fun o δ4 => lcL vs g t e ds (wipeS δ4 vs) (acc ++ [view o]) else lcL vs g t e ds (wipeS δ3 vs) acc
def eLcH (i : Nat) (vs : List Nat) (g : GM) (t : TM) (e : EM) : EM := holdE i fun ds δ1 => (lcL vs g t e ds (wipeS δ1 vs) []).noexc.bind fun acc δ2 => if acc.length ≤ 1000000 then .ok (.lst acc) (backS δ1 δ2 vs) else .bad
def eLc (it : IM) (vs : List Nat) (g : GM) (t : TM) (e : EM) : EM := fun δ => (it δ).bind fun ds δ1 => (lcL vs g t e ds (wipeS δ1 vs) []).noexc.bind fun acc δ2 => if acc.length ≤ 1000000 then .ok (.lst acc) (backS δ1 δ2 vs) else .bad
def tYesM : TM := fun δ => .ok true δ

/-! ### a def -/
def lent (os : List O) : Nat → Bool := fun i => match os[i]? with
  | some o => isOpen o
  | none => false
def outsL (os : List O) (δ : Sl) : Sl := match os, δ with
  | o :: os, s :: δ => (if isOpen o = true then s else none) :: outsL os δ
  | _ :: os, [] => none :: outsL os []
  | [], _ => []
/-- the def's body, run at the arguments; m: how many names it has beside the parameters -/
def run (np m : Nat) (body : SM) : Fn := fun os => if os.length ≠ np then .bad else
  match body (lent os) (os.map some ++ List.replicate m none) with
  | .nx δ => .ret (.d .non) (outsL os δ)
  | .rt o δ => .ret o (outsL os δ)
  | .exc c δ => .exc c (outsL os δ)
  | _ => .bad
/-- the arguments are handed over: a name's open object is lent -/
def lend : Sl → List Hd → Option (List O × Sl)
  | δ, [] => some ([], δ)
  | δ, .tm o :: r => match lend δ r with
    | some (os, δ') => some (o :: os, δ')
    | none => none
  | δ, .sl i :: r => match δ[i]? with
    | some (some o) => match lend (if isOpen o = true then δ.set i none else δ) r with
      | some (os, δ') => some (o :: os, δ')
      | none => none
    | _ => none
def giveBack : Sl → List Hd → List O → Sl → Sl
  | δ, .sl i :: r, o :: os, s :: outs => giveBack (if isOpen o = true then δ.set i s else δ) r os outs
  | δ, .tm _ :: r, _ :: os, _ :: outs => giveBack δ r os outs
  | δ, _, _, _ => δ
def callF (m : Fn) (hs : List Hd) (δ : Sl) : Res O := match lend δ hs with
  | none => .bad
  | some (os, δ1) => match m os with
    | .bad => .bad
    | .exc c outs => .exc c (giveBack δ1 hs os outs)
    | .ret o outs => .ok o (giveBack δ1 hs os outs)
/-- keywords alone: perm puts their values in the parameters' order -/
def eCallK (np : Nat) (m : Fn) (perm : List Nat) (as : AM) : EM := fun δ => (as δ).bind fun hs δ1 => match perm.mapM (fun i => hs[i]?) with
  | some hs' => if hs.length = np ∧ perm.length = np then callF m hs' δ1 else .bad
  | none => .bad
/-- a def that a value stands for -/
def eCallV (tab : Str → Option (Nat × Fn)) (f : EM) (as : AM) : EM := fun δ => (f δ).bind fun o δ0 => match o with
  | .d (.fn x) => match tab x with
    | some (np, m) => (as δ0).bind fun hs δ1 => if hs.length = np then callF m hs δ1 else .bad
    | none => .bad
  | _ => .bad
def eCallVK (tab : Str → Option (Nat × Fn)) (perm : List Nat) (f : EM) (as : AM) : EM := fun δ => (f δ).bind fun o δ0 => match o with
  | .d (.fn x) => match tab x with
    | some (np, m) => eCallK np m perm as δ0
    | none => .bad
  | _ => .bad
def eCall (np : Nat) (m : Fn) (as : AM) : EM := fun δ => (as δ).bind fun hs δ1 => if hs.length = np then callF m hs δ1 else .bad
end Dn
set_option autoImplicit false
set_option Elab.async false
set_option linter.all false
set_option maxRecDepth 100000
/-! DenS: the machine does what Den says. -/
namespace Dn
open PySem PySem.Spec PyProof.Rows L2

/-- where classes, exceptions, defs of the module stand -/
structure Lk where
  P : Program
  w : World
  cls : Str → Option Addr
  exc : Str → Option Addr
  fn : Str → Option Addr

def keyD : D → Option Key
  | .int i => some (.inl i)
  | .str x => some (.inr x)
  | _ => none

def hasK (l : List Key) (k : Key) : Bool := l.any fun j => decide (j = k)
def keysOf : List D → Option (List Key)
  | [] => some []
  | d :: r => match keyD d, keysOf r with
    | some k, some ks => some (k :: ks)
    | _, _ => none
section
variable (L : Lk) (K : PySem.W.Frag) (C : Hp)
mutual
/-- v stands for the closed data d, in the closed heap C -/
def Dat : D → V → Prop
  | .non, v => v = .non
  | .bl b, v => v = .bl b
  | .int i, v => v = .int i
  | .str x, v => v = .str x
  | .fn x, v => ∃ a, v = .ref a ∧ L.fn x = some a
  | .tup xs, v => ∃ a vs, v = .ref a ∧ SqT K C a vs ∧ DatL xs vs
  | .lst xs, v => ∃ a vs, v = .ref a ∧ C a = some (.lst vs) ∧ DatL xs vs
  | .scr xs, v => ∃ a, v = .ref a ∧ SqL K C a (xs.map V.int)
  | .set xs, v => ∃ a ks, v = .ref a ∧ keysOf xs = some ks ∧ C a = some (SetK L.P L.w a (hasK ks) ks.length)
  | .dct kvs, v => ∃ a kv, v = .ref a ∧ C a = some (.dK kv) ∧ DatK kvs kv
  | .obj c fs, v => ∃ a Ca dx fv, v = .ref a ∧ L.cls c = some Ca ∧ C a = some (.ins Ca dx fv) ∧ C dx = some (.own a) ∧ DatF fs fv
def DatL : List D → List V → Prop
  | [], vs => vs = []
  | d :: ds, vs => ∃ v r, vs = v :: r ∧ Dat d v ∧ DatL ds r
def DatK : List (D × D) → List (Key × V) → Prop
  | [], vs => vs = []
  | (k, d) :: ds, vs => ∃ q v r, vs = (q, v) :: r ∧ keyD k = some q ∧ Dat d v ∧ DatK ds r
def DatF : List (Str × D) → List (Str × V) → Prop
  | [], vs => vs = []
  | (n, d) :: ds, vs => ∃ v r, vs = (n, v) :: r ∧ Dat d v ∧ DatF ds r
end
end
section
variable (L : Lk) (K : PySem.W.Frag) (C H : Hp)
mutual
/-- v is owned: at F stand the objects that may change -/
def Own : O → V → List Addr → Prop
  | .d x, v, F => F = [] ∧ Dat L K C x v
  | .lst xs, v, F => ∃ p vs, v = .ref p ∧ F = [p] ∧ H p = some (.lst vs) ∧ DatL L K C xs vs
  | .set xs, v, F => ∃ p ks, v = .ref p ∧ F = [p] ∧ keysOf xs = some ks ∧ H p = some (SetK L.P L.w p (hasK ks) ks.length)
  | .dct kvs, v, F => ∃ p kv, v = .ref p ∧ F = [p] ∧ H p = some (.dK kv) ∧ DatK L K C kvs kv
  | .obj c fs, v, F => ∃ p Ca dx fv F', v = .ref p ∧ L.cls c = some Ca ∧ H p = some (.ins Ca dx fv) ∧ H dx = some (.own p) ∧ F = p :: dx :: F' ∧ OwnF fs fv F'
def OwnF : List (Str × O) → List (Str × V) → List Addr → Prop
  | [], fv, F => fv = [] ∧ F = []
  | (n, o) :: r, fv, F => ∃ v fv' F1 F2, fv = (n, v) :: fv' ∧ F = F1 ++ F2 ∧ Own o v F1 ∧ OwnF r fv' F2
end
end

/-! ### growing -/
section
variable {L : Lk} {K : PySem.W.Frag} {C C' H H' : Hp}
abbrev Ext (H H' : Hp) : Prop := ∀ a o, H a = some o → H' a = some o
theorem Ext.rfl' : Ext H H := fun _ _ h => h
theorem Ext.tr {H1 H2 H3 : Hp} (a : Ext H1 H2) (b : Ext H2 H3) : Ext H1 H3 := fun x o h => b x o (a x o h)
theorem ext_new {p : Addr} {o : HO} (h : H p = none) : Ext H (upd H p o) := fun a u e => by
  rw [upd_ne (ne_of_none e h)]; exact e
theorem sqL_ext {a : Addr} {xs : List V} (e : Ext C C') (h : SqL K C a xs) : SqL K C' a xs := by
  rcases h with (h | ⟨o, h⟩) | h
  · exact .inl (.inl (e _ _ h))
  · exact .inl (.inr ⟨o, e _ _ h⟩)
  · exact .inr h
theorem sqT_ext {a : Addr} {xs : List V} (e : Ext C C') (h : SqT K C a xs) : SqT K C' a xs := by
  rcases h with (h | ⟨o, h⟩) | h
  · exact .inl (.inl (e _ _ h))
  · exact .inl (.inr ⟨o, e _ _ h⟩)
  · exact .inr h
mutual
theorem Dat.ext (e : Ext C C') : ∀ (d : D) (v : V), Dat L K C d v → Dat L K C' d v
  | .non, _, h => h
  | .bl _, _, h => h
  | .int _, _, h => h
  | .str _, _, h => h
  | .fn _, _, h => h
  | .set xs, v, h => by
    obtain ⟨a, ks, e1, e2, e3⟩ := h
    exact ⟨a, ks, e1, e2, e _ _ e3⟩
  | .tup xs, v, h => by
    obtain ⟨a, vs, e1, e2, e3⟩ := h
    exact ⟨a, vs, e1, sqT_ext e e2, DatL.ext e xs vs e3⟩
  | .lst xs, v, h => by
    obtain ⟨a, vs, e1, e2, e3⟩ := h
    exact ⟨a, vs, e1, e _ _ e2, DatL.ext e xs vs e3⟩
  | .scr xs, v, h => by
    obtain ⟨a, e1, e2⟩ := h
    exact ⟨a, e1, sqL_ext e e2⟩
  | .dct kvs, v, h => by
    obtain ⟨a, kv, e1, e2, e3⟩ := h
    exact ⟨a, kv, e1, e _ _ e2, DatK.ext e kvs kv e3⟩
  | .obj c fs, v, h => by
    obtain ⟨a, Ca, dx, fv, e1, e2, e3, e4, e5⟩ := h
    exact ⟨a, Ca, dx, fv, e1, e2, e _ _ e3, e _ _ e4, DatF.ext e fs fv e5⟩
theorem DatL.ext (e : Ext C C') : ∀ (ds : List D) (vs : List V), DatL L K C ds vs → DatL L K C' ds vs
  | [], _, h => h
  | d :: ds, _, h => by
    obtain ⟨v, r, e1, e2, e3⟩ := h
    exact ⟨v, r, e1, Dat.ext e d v e2, DatL.ext e ds r e3⟩
theorem DatK.ext (e : Ext C C') : ∀ (ds : List (D × D)) (vs : List (Key × V)), DatK L K C ds vs → DatK L K C' ds vs
  | [], _, h => h
  | (k, d) :: ds, _, h => by
    obtain ⟨q, v, r, e1, e2, e3, e4⟩ := h
    exact ⟨q, v, r, e1, e2, Dat.ext e d v e3, DatK.ext e ds r e4⟩
theorem DatF.ext (e : Ext C C') : ∀ (ds : List (Str × D)) (vs : List (Str × V)), DatF L K C ds vs → DatF L K C' ds vs
  | [], _, h => h
  | (n, d) :: ds, _, h => by
    obtain ⟨v, r, e1, e2, e3⟩ := h
    exact ⟨v, r, e1, Dat.ext e d v e2, DatF.ext e ds r e3⟩
end
mutual
/-- what is owned stands while its own objects stand -/
theorem Own.ext (e : Ext C C') : ∀ (o : O) (v : V) (F : List Addr), (∀ a ∈ F, ∀ u, H a = some u → H' a = some u) → Own L K C H o v F → Own L K C' H' o v F
  | .d x, v, F, k, h => ⟨h.1, Dat.ext e x v h.2⟩
  | .set xs, v, F, k, h => by
    obtain ⟨p, ks, e1, e2, e3, e4⟩ := h
    exact ⟨p, ks, e1, e2, e3, k p (by rw [e2]; simp) _ e4⟩
  | .lst xs, v, F, k, h => by
    obtain ⟨p, vs, e1, e2, e3, e4⟩ := h
    exact ⟨p, vs, e1, e2, k p (by rw [e2]; simp) _ e3, DatL.ext e xs vs e4⟩
  | .dct kvs, v, F, k, h => by
    obtain ⟨p, vs, e1, e2, e3, e4⟩ := h
    exact ⟨p, vs, e1, e2, k p (by rw [e2]; simp) _ e3, DatK.ext e kvs vs e4⟩
  | .obj c fs, v, F, k, h => by
    obtain ⟨p, Ca, dx, fv, F', e1, e2, e3, e4, e5, e6⟩ := h
    exact ⟨p, Ca, dx, fv, F', e1, e2, k p (by rw [e5]; simp) _ e3, k dx (by rw [e5]; simp) _ e4, e5, OwnF.ext e fs fv F' (fun a ha => k a (by rw [e5]; simp [ha])) e6⟩
theorem OwnF.ext (e : Ext C C') : ∀ (fs : List (Str × O)) (fv : List (Str × V)) (F : List Addr), (∀ a ∈ F, ∀ u, H a = some u → H' a = some u) → OwnF L K C H fs fv F → OwnF L K C' H' fs fv F
  | [], _, _, _, h => h
  | (n, o) :: r, fv, F, k, h => by
    obtain ⟨v, fv', F1, F2, e1, e2, e3, e4⟩ := h
    exact ⟨v, fv', F1, F2, e1, e2, Own.ext e o v F1 (fun a ha => k a (by rw [e2]; simp [ha])) e3, OwnF.ext e r fv' F2 (fun a ha => k a (by rw [e2]; simp [ha])) e4⟩
end
mutual
/-- its objects stand -/
theorem Own.there : ∀ (o : O) (v : V) (F : List Addr), Own L K C H o v F → ∀ a ∈ F, ∃ u, H a = some u
  | .d x, v, F, h, a, ha => by rw [h.1] at ha; simp at ha
  | .set xs, v, F, h, a, ha => by
    obtain ⟨p, vs, e1, e2, e3, e4⟩ := h
    rw [e2] at ha; simp at ha; subst ha; exact ⟨_, e4⟩
  | .lst xs, v, F, h, a, ha => by
    obtain ⟨p, vs, e1, e2, e3, e4⟩ := h
    rw [e2] at ha; simp at ha; subst ha; exact ⟨_, e3⟩
  | .dct xs, v, F, h, a, ha => by
    obtain ⟨p, vs, e1, e2, e3, e4⟩ := h
    rw [e2] at ha; simp at ha; subst ha; exact ⟨_, e3⟩
  | .obj c fs, v, F, h, a, ha => by
    obtain ⟨p, Ca, dx, fv, F', e1, e2, e3, e4, e5, e6⟩ := h
    rw [e5] at ha
    simp only [List.mem_cons] at ha
    rcases ha with rfl | rfl | ha
    · exact ⟨_, e3⟩
    · exact ⟨_, e4⟩
    · exact OwnF.there fs fv F' e6 a ha
theorem OwnF.there : ∀ (fs : List (Str × O)) (fv : List (Str × V)) (F : List Addr), OwnF L K C H fs fv F → ∀ a ∈ F, ∃ u, H a = some u
  | [], _, F, h, a, ha => by rw [h.2] at ha; simp at ha
  | (n, o) :: r, fv, F, h, a, ha => by
    obtain ⟨v, fv', F1, F2, e1, e2, e3, e4⟩ := h
    rw [e2] at ha
    rcases List.mem_append.mp ha with ha | ha
    · exact Own.there o v F1 e3 a ha
    · exact OwnF.there r fv' F2 e4 a ha
end
/-- the closed heap with the objects at F -/
def clo (C H : Hp) (F : List Addr) : Hp := fun a => if a ∈ F then H a else C a
theorem clo_ext {F : List Addr} (n : ∀ a ∈ F, C a = none) : Ext C (clo C H F) := fun a o h => by
  unfold clo
  by_cases ha : a ∈ F
  · rw [n a ha] at h; cases h
  · rw [if_neg ha]; exact h
theorem clo_le {F : List Addr} (e : Ext C H) : Ext (clo C H F) H := fun a o h => by
  unfold clo at h
  by_cases ha : a ∈ F
  · rw [if_pos ha] at h; exact h
  · rw [if_neg ha] at h; exact e a o h
theorem clo_at {F : List Addr} {a : Addr} (ha : a ∈ F) : clo C H F a = H a := if_pos ha
mutual
/-- closing -/
theorem Own.close : ∀ (o : O) (v : V) (F G : List Addr), Own L K C H o v F → (∀ a ∈ F, a ∈ G) → (∀ a ∈ G, C a = none) → Dat L K (clo C H G) (view o) v
  | .d x, v, F, G, h, _, n => Dat.ext (clo_ext n) x v h.2
  | .set xs, v, F, G, h, s, n => by
    obtain ⟨p, ks, e1, e2, e3, e4⟩ := h
    refine ⟨p, ks, e1, e3, ?_⟩
    rw [clo_at (s p (by rw [e2]; simp))]; exact e4
  | .lst xs, v, F, G, h, s, n => by
    obtain ⟨p, vs, e1, e2, e3, e4⟩ := h
    refine ⟨p, vs, e1, ?_, DatL.ext (clo_ext n) xs vs e4⟩
    rw [clo_at (s p (by rw [e2]; simp))]; exact e3
  | .dct xs, v, F, G, h, s, n => by
    obtain ⟨p, vs, e1, e2, e3, e4⟩ := h
    refine ⟨p, vs, e1, ?_, DatK.ext (clo_ext n) xs vs e4⟩
    rw [clo_at (s p (by rw [e2]; simp))]; exact e3
  | .obj c fs, v, F, G, h, s, n => by
    obtain ⟨p, Ca, dx, fv, F', e1, e2, e3, e4, e5, e6⟩ := h
    refine ⟨p, Ca, dx, fv, e1, e2, ?_, ?_, OwnF.close fs fv F' G e6 (fun a ha => s a (by rw [e5]; simp [ha])) n⟩
    · rw [clo_at (s p (by rw [e5]; simp))]; exact e3
    · rw [clo_at (s dx (by rw [e5]; simp))]; exact e4
theorem OwnF.close : ∀ (fs : List (Str × O)) (fv : List (Str × V)) (F G : List Addr), OwnF L K C H fs fv F → (∀ a ∈ F, a ∈ G) → (∀ a ∈ G, C a = none) → DatF L K (clo C H G) (viewF fs) fv
  | [], _, _, _, h, _, _ => h.1
  | (n, o) :: r, fv, F, G, h, s, nn => by
    obtain ⟨v, fv', F1, F2, e1, e2, e3, e4⟩ := h
    exact ⟨v, fv', e1, Own.close o v F1 G e3 (fun a ha => s a (by rw [e2]; simp [ha])) nn, OwnF.close r fv' F2 G e4 (fun a ha => s a (by rw [e2]; simp [ha])) nn⟩
end
end
end Dn
set_option autoImplicit false
set_option Elab.async false
set_option linter.all false
set_option maxRecDepth 100000
/-! DenT: states, steps, the readings of Den's words. -/
namespace Dn
open PySem PySem.Spec PyProof.Rows L2

structure Wl where
  C : Hp
  H : Hp
  Fs : Nat → List Addr
section
variable (L : Lk) (K : PySem.W.Frag)
structure StOk (σ : L2.St) (w : Wl) (δ : Sl) : Prop where
  len : δ.length = σ.length
  le : Ext w.C w.H
  sl : ∀ i o, δ[i]? = some (some o) → ∃ v, σ[i]? = some (some v) ∧ Own L K w.C w.H o v (w.Fs i)
  nil : ∀ i, (∀ p, δ[i]? ≠ some (some p)) → w.Fs i = []
  nd : ∀ i, (w.Fs i).Nodup
  dj : ∀ i j a, a ∈ w.Fs i → a ∈ w.Fs j → i = j
  op : ∀ i a, a ∈ w.Fs i → w.C a = none
structure Stp (w w' : Wl) : Prop where
  c : Ext w.C w'.C
  keep : ∀ a o, w.H a = some o → (∀ i, a ∉ w.Fs i) → w'.H a = some o
  live : ∀ a, w'.H a = none → w.H a = none
  newC : ∀ a, w'.C a ≠ none → w.C a ≠ none ∨ (∃ i, a ∈ w.Fs i) ∨ w.H a = none
  newF : ∀ i a, a ∈ w'.Fs i → (∃ j, a ∈ w.Fs j) ∨ w.H a = none
/-- the objects of a value in hand -/
structure Dis (w w' : Wl) (F : List Addr) : Prop where
  nd : F.Nodup
  cn : ∀ a ∈ F, w'.C a = none
  fs : ∀ a ∈ F, ∀ i, a ∉ w'.Fs i
  og : ∀ a ∈ F, (∃ i, a ∈ w.Fs i) ∨ w.H a = none
def HdOk (σ : L2.St) (w : Wl) : Hd → V → List Addr → Prop
  | .sl i, v, F => σ[i]? = some (some v) ∧ F = []
  | .tm o, v, F => Own L K w.C w.H o v F
def HdsOk (σ : L2.St) (w : Wl) : List Hd → List V → List Addr → Prop
  | [], vs, F => vs = [] ∧ F = []
  | h :: r, vs, F => ∃ v vs' F1 F2, vs = v :: vs' ∧ F = F1 ++ F2 ∧ HdOk L K σ w h v F1 ∧ HdsOk σ w r vs' F2
/-- how a computation ends -/
def Fin {α : Type} (E : XK) (σ : L2.St) (w : Wl) (r : Res α) (P : α → Wl → Sl → Prop) : Prop := match r with
  | .bad => False
  | .exc c δ' => ∀ w' ca, L.exc c = some ca → Stp w w' → StOk L K σ w' δ' → E (.ref ca) none w'.H
  | .ok a δ' => ∀ w', Stp w w' → StOk L K σ w' δ' → P a w' δ'
def tB (E : XK) (f : BM) : TE := fun σ H Q => ∃ w δ, w.H = H ∧ StOk L K σ w δ ∧ Fin L K E σ w (f δ) fun h w' _ => ∀ v F, HdOk L K σ w' h v F → Dis w w' F → Q v w'.H
def tO (E : XK) (f : EM) : TE := fun σ H Q => ∃ w δ, w.H = H ∧ StOk L K σ w δ ∧ Fin L K E σ w (f δ) fun o w' _ => ∀ v F, Own L K w'.C w'.H o v F → Dis w w' F → Q v w'.H
def tAs (E : XK) (f : AM) : TA := fun σ H Q => ∃ w δ, w.H = H ∧ StOk L K σ w δ ∧ Fin L K E σ w (f δ) fun hs w' _ => ∀ vs F, HdsOk L K σ w' hs vs F → Dis w w' F → Q vs w'.H
def tT (E : XK) (f : TM) : TT := fun σ H Q => ∃ w δ, w.H = H ∧ StOk L K σ w δ ∧ Fin L K E σ w (f δ) fun b w' _ => Q b w'.H
/-- what an operand reads as -/
def Vw (C H : Hp) : D → V → Prop
  | .lst xs, v => ∃ a vs, v = .ref a ∧ H a = some (.lst vs) ∧ DatL L K C xs vs
  | .dct kvs, v => ∃ a kv, v = .ref a ∧ H a = some (.dK kv) ∧ DatK L K C kvs kv
  | .set xs, v => ∃ a ks, v = .ref a ∧ keysOf xs = some ks ∧ H a = some (SetK L.P L.w a (hasK ks) ks.length)
  | .obj _ _, v => ∃ a, v = .ref a
  | x, v => Dat L K C x v
def VwL (C H : Hp) : List D → List V → Prop
  | [], vs => vs = []
  | d :: ds, vs => ∃ v r, vs = v :: r ∧ Vw L K C H d v ∧ VwL C H ds r
structure ROk (C H : Hp) (o : O) (v : V) (C' H' : Hp) (F : List Addr) : Prop where
  c : Ext C C'
  h : Ext H H'
  le : Ext C' H'
  newC : ∀ a, C' a ≠ none → C a ≠ none ∨ H a = none
  own : Own L K C' H' o v F
  nd : F.Nodup
  fr : ∀ a ∈ F, C' a = none ∧ H a = none
def RO (C H : Hp) (o : O) (Q : VK) : Prop := ∀ v C' H' F, ROk L K C H o v C' H' F → Q v H'
def rD1 (op : D → Option O) : V → Hp → VK → Prop := fun x H Q => ∃ C dx o, Ext C H ∧ Vw L K C H dx x ∧ op dx = some o ∧ RO L K C H o Q
def rD2 (op : D → D → Option O) : R2 := fun x y H Q => ∃ C dx dy o, Ext C H ∧ Vw L K C H dx x ∧ Vw L K C H dy y ∧ op dx dy = some o ∧ RO L K C H o Q
def rDN (op : List D → Option O) : List V → Hp → VK → Prop := fun xs H Q => ∃ C ds o, Ext C H ∧ VwL L K C H ds xs ∧ op ds = some o ∧ RO L K C H o Q
end

section
variable {L : Lk} {K : PySem.W.Frag} {σ : L2.St} {w w1 w2 : Wl} {δ δ1 δ2 : Sl} {E : XK}
theorem Stp.refl (w : Wl) : Stp w w := ⟨Ext.rfl', fun _ _ h _ => h, fun _ h => h, fun _ h => .inl h, fun _ _ h => .inl ⟨_, h⟩⟩
theorem Stp.trans (a : Stp w w1) (b : Stp w1 w2) : Stp w w2 where
  c := a.c.tr b.c
  keep := fun x o h n => b.keep x o (a.keep x o h n) fun i hi => by
    rcases a.newF i x hi with ⟨j, hj⟩ | q
    · exact n j hj
    · rw [h] at q; cases q
  live := fun x h => a.live x (b.live x h)
  newC := fun x h => by
    rcases b.newC x h with q | ⟨i, q⟩ | q
    · exact a.newC x q
    · rcases a.newF i x q with z | z
      · exact .inr (.inl z)
      · exact .inr (.inr z)
    · exact .inr (.inr (a.live x q))
  newF := fun i x h => by
    rcases b.newF i x h with ⟨j, q⟩ | q
    · exact a.newF j x q
    · exact .inr (a.live x q)
theorem Fin.bind {α β : Type} {r : Res α} {k : α → Sl → Res β} {P : β → Wl → Sl → Prop} (h : Fin L K E σ w (r.bind k) P) :
    Fin L K E σ w r fun a w1 δ1 => Fin L K E σ w1 (k a δ1) fun b w2 δ2 => Stp w w2 → P b w2 δ2 := by
  cases r with
  | bad => exact h
  | exc c δ' => exact h
  | ok a δ' =>
    intro w1 s1 k1
    show Fin L K E σ w1 (k a δ') _
    have h' : Fin L K E σ w (k a δ') P := h
    cases e : k a δ' with
    | bad => rw [e] at h'; exact h'
    | exc c δ'' =>
      rw [e] at h'
      exact fun w2 ca hc s2 k2 => h' w2 ca hc (s1.trans s2) k2
    | ok b δ'' =>
      rw [e] at h'
      exact fun w2 s2 k2 s => h' w2 s k2
theorem Fin.imp {α : Type} {r : Res α} {P P' : α → Wl → Sl → Prop} (h : Fin L K E σ w r P) (f : ∀ a w' δ', Stp w w' → StOk L K σ w' δ' → P a w' δ' → P' a w' δ') : Fin L K E σ w r P' := by
  cases r with
  | bad => exact h
  | exc c δ' => exact h
  | ok a δ' => exact fun w' s k => f a w' δ' s k (h w' s k)
theorem Dis.nil (w w' : Wl) : Dis w w' [] := ⟨List.nodup_nil, by simp, by simp, by simp⟩
/-- a value in hand, over a step -/
theorem Own.pend {o : O} {v : V} {F : List Addr} (h : Own L K w1.C w1.H o v F) (d : Dis w w1 F) (s : Stp w1 w2) : Own L K w2.C w2.H o v F ∧ Dis w w2 F := by
  have th := Own.there o v F h
  refine ⟨Own.ext s.c o v F (fun a ha u hu => s.keep a u hu (d.fs a ha)) h, d.nd, fun a ha => ?_, fun a ha i hi => ?_, d.og⟩
  · cases e : w2.C a with
    | none => rfl
    | some u =>
      obtain ⟨u', hu'⟩ := th a ha
      rcases s.newC a (by rw [e]; simp) with q | ⟨i, q⟩ | q
      · exact absurd (d.cn a ha) q
      · exact absurd q (d.fs a ha i)
      · rw [hu'] at q; cases q
  · obtain ⟨u', hu'⟩ := th a ha
    rcases s.newF i a hi with ⟨j, q⟩ | q
    · exact d.fs a ha j q
    · rw [hu'] at q; cases q
theorem HdOk.there {h : Hd} {v : V} {F : List Addr} (q : HdOk L K σ w h v F) : ∀ a ∈ F, ∃ u, w.H a = some u := by
  cases h with
  | sl i => rw [q.2]; simp
  | tm o => exact Own.there o v F q
theorem HdOk.pend {h : Hd} {v : V} {F : List Addr} (q : HdOk L K σ w1 h v F) (d : Dis w w1 F) (s : Stp w1 w2) : HdOk L K σ w2 h v F ∧ Dis w w2 F := by
  cases h with
  | sl i =>
    obtain ⟨q1, q2⟩ := q
    subst q2
    exact ⟨⟨q1, rfl⟩, Dis.nil _ _⟩
  | tm o => exact Own.pend (o := o) q d s
/-- two values in hand -/
theorem Dis.app {F G : List Addr} (d : Dis w w1 F) (s : Stp w w1) (d2 : Dis w w2 F) (th : ∀ a ∈ F, ∃ u, w1.H a = some u) (e : Dis w1 w2 G) : Dis w w2 (F ++ G) := by
  refine ⟨List.nodup_append.mpr ⟨d.nd, e.nd, fun a ha b hb z => ?_⟩, fun a ha => ?_, fun a ha => ?_, fun a ha => ?_⟩
  · subst z
    rcases e.og a hb with ⟨i, q⟩ | q
    · exact d.fs a ha i q
    · obtain ⟨u, hu⟩ := th a ha
      rw [hu] at q; cases q
  · rcases List.mem_append.mp ha with h | h
    · exact d2.cn a h
    · exact e.cn a h
  · rcases List.mem_append.mp ha with h | h
    · exact d2.fs a h
    · exact e.fs a h
  · rcases List.mem_append.mp ha with h | h
    · exact d.og a h
    · rcases e.og a h with ⟨i, q⟩ | q
      · exact s.newF i a q
      · exact .inr (s.live a q)
theorem vw_of_dat {C H : Hp} (e : Ext C H) : ∀ {d : D} {v : V}, Dat L K C d v → Vw L K C H d v
  | .lst xs, v, h => by
    obtain ⟨a, vs, e1, e2, e3⟩ := h
    exact ⟨a, vs, e1, e _ _ e2, e3⟩
  | .dct xs, v, h => by
    obtain ⟨a, vs, e1, e2, e3⟩ := h
    exact ⟨a, vs, e1, e _ _ e2, e3⟩
  | .obj c fs, v, h => by
    obtain ⟨a, _, _, _, e1, _⟩ := h
    exact ⟨a, e1⟩
  | .non, _, h => h
  | .bl _, _, h => h
  | .int _, _, h => h
  | .str _, _, h => h
  | .fn _, _, h => h
  | .set xs, v, h => by
    obtain ⟨a, ks, e1, e2, e3⟩ := h
    exact ⟨a, ks, e1, e2, e _ _ e3⟩
  | .scr _, _, h => h
  | .tup _, _, h => h
theorem vw_of_own {C H : Hp} (e : Ext C H) : ∀ {o : O} {v : V} {F : List Addr}, Own L K C H o v F → Vw L K C H (view o) v
  | .d x, v, F, h => vw_of_dat e h.2
  | .lst xs, v, F, h => by
    obtain ⟨p, vs, e1, e2, e3, e4⟩ := h
    exact ⟨p, vs, e1, e3, e4⟩
  | .dct xs, v, F, h => by
    obtain ⟨p, vs, e1, e2, e3, e4⟩ := h
    exact ⟨p, vs, e1, e3, e4⟩
  | .set xs, v, F, h => by
    obtain ⟨p, ks, e1, e2, e3, e4⟩ := h
    exact ⟨p, ks, e1, e3, e4⟩
  | .obj c fs, v, F, h => by
    obtain ⟨p, _, _, _, _, e1, _⟩ := h
    exact ⟨p, e1⟩
theorem rd_vw {h : Hd} {v : V} {F : List Addr} {x : D} (st : StOk L K σ w δ) (q : HdOk L K σ w h v F) (e : rd δ h = some x) : Vw L K w.C w.H x v := by
  cases h with
  | sl i =>
    unfold rd at e
    simp only at e
    split at e
    · rename_i o hs
      obtain ⟨v', e1, e2⟩ := st.sl i o hs
      rw [q.1] at e1
      cases e1
      cases e
      exact vw_of_own st.le e2
    · cases e
  | tm o =>
    unfold rd at e
    cases e
    exact vw_of_own st.le (show Own L K w.C w.H o v F from q)
theorem rdAll_vw (st : StOk L K σ w δ) : ∀ {hs : List Hd} {vs : List V} {F : List Addr} {xs : List D}, HdsOk L K σ w hs vs F → rdAll δ hs = some xs → VwL L K w.C w.H xs vs
  | [], vs, F, xs, q, e => by
    unfold rdAll at e
    cases e
    exact q.1
  | h :: r, vs, F, xs, q, e => by
    obtain ⟨v, vs', F1, F2, e1, e2, e3, e4⟩ := q
    unfold rdAll at e
    split at e
    · rename_i x xs' h1 h2
      cases e
      exact ⟨v, vs', e1, rd_vw st e3 h1, rdAll_vw st e4 h2⟩
    · cases e
theorem HdsOk.pend {w0 : Wl} : ∀ {hs : List Hd} {vs : List V} {F : List Addr}, HdsOk L K σ w1 hs vs F → Dis w0 w1 F → Stp w1 w2 → HdsOk L K σ w2 hs vs F
  | [], vs, F, q, _, _ => q
  | h :: r, vs, F, q, d, s => by
    obtain ⟨v, vs', F1, F2, e1, e2, e3, e4⟩ := q
    subst e2
    have d1 : Dis w0 w1 F1 := ⟨(List.nodup_append.mp d.nd).1, fun a ha => d.cn a (by simp [ha]), fun a ha => d.fs a (by simp [ha]), fun a ha => d.og a (by simp [ha])⟩
    have d2 : Dis w0 w1 F2 := ⟨(List.nodup_append.mp d.nd).2.1, fun a ha => d.cn a (by simp [ha]), fun a ha => d.fs a (by simp [ha]), fun a ha => d.og a (by simp [ha])⟩
    exact ⟨v, vs', F1, F2, e1, rfl, (e3.pend d1 s).1, HdsOk.pend e4 d2 s⟩
/-- the end of an operation -/
theorem ro_end {P : V → Wl → Prop} {o : O} {Q : VK} (st : StOk L K σ w1 δ) (s : Stp w w1) (q : ∀ w', Stp w w' → StOk L K σ w' δ → ∀ v F, Own L K w'.C w'.H o v F → Dis w w' F → Q v w'.H) : RO L K w1.C w1.H o Q := by
  intro v C' H' F r
  have st' : StOk L K σ ⟨C', H', w1.Fs⟩ δ := by
    refine ⟨st.len, r.le, fun i o' h => ?_, st.nil, st.nd, st.dj, fun i a ha => ?_⟩
    · obtain ⟨v', e1, e2⟩ := st.sl i o' h
      exact ⟨v', e1, Own.ext r.c o' v' _ (fun a _ u hu => r.h a u hu) e2⟩
    · show C' a = none
      cases e : C' a with
      | none => rfl
      | some u =>
        rcases r.newC a (by rw [e]; simp) with z | z
        · exact absurd (st.op i a ha) z
        · have : ∃ u, w1.H a = some u := by
            by_cases hh : ∃ p, δ[i]? = some (some p)
            · obtain ⟨o', hp⟩ := hh
              obtain ⟨v', _, e2⟩ := st.sl i o' hp
              exact Own.there o' v' _ e2 a ha
            · have := st.nil i fun p hp => hh ⟨p, hp⟩
              rw [this] at ha; simp at ha
          obtain ⟨u', hu'⟩ := this
          rw [hu'] at z; cases z
  have s' : Stp w1 ⟨C', H', w1.Fs⟩ := by
    refine ⟨r.c, fun a o h _ => r.h a o h, fun a h => ?_, fun a h => ?_, fun i a h => .inl ⟨i, h⟩⟩
    · cases e : w1.H a with
      | none => rfl
      | some u =>
        have := r.h a u e
        have h' : H' a = none := h
        rw [this] at h'; cases h'
    · rcases r.newC a h with z | z
      · exact .inl z
      · exact .inr (.inr z)
  refine q ⟨C', H', w1.Fs⟩ (s.trans s') st' v F r.own ⟨r.nd, fun a ha => (r.fr a ha).1, fun a ha i hi => ?_, fun a ha => .inr (s.live a (r.fr a ha).2)⟩
  have hn := (r.fr a ha).2
  by_cases hh : ∃ p, δ[i]? = some (some p)
  · obtain ⟨o', hp⟩ := hh
    obtain ⟨v', _, e2⟩ := st.sl i o' hp
    obtain ⟨u, hu⟩ := Own.there o' v' _ e2 a hi
    rw [hn] at hu; cases hu
  · have := st.nil i fun p hp => hh ⟨p, hp⟩
    have hi' : a ∈ w1.Fs i := hi
    rw [this] at hi'; simp at hi'
end
theorem _root_.L2.PE.imp' {X : Cx} {e : Expr} {t t' : TE} (h : PE X e t) (f : ∀ σ H Q, t' σ H Q → t σ H Q) : PE X e t' := ⟨fun pins s σ H Q I q => h.run pins s σ H Q I (f σ H Q q)⟩
theorem _root_.L2.PT.imp' {X : Cx} {e : Expr} {t t' : TT} (h : PT X e t) (f : ∀ σ H Q, t' σ H Q → t σ H Q) : PT X e t' := ⟨fun pins s σ H Q I q => h.run pins s σ H Q I (f σ H Q q)⟩
theorem _root_.L2.PA.imp' {X : Cx} {es : List Expr} {t t' : TA} (h : PA X es t) (f : ∀ σ H Q, t' σ H Q → t σ H Q) : PA X es t' := ⟨fun pos pins s σ H Q I q => h.run pos pins s σ H Q I (f σ H Q q)⟩
theorem _root_.L2.PS.imp' {X : Cx} {st : Stmt} {t t' : TS} (h : PS X st t) (f : ∀ D σ H, t' D σ H → t D σ H) : PS X st t' := ⟨fun pins s σ H D I q => h.run pins s σ H D I (f D σ H q)⟩
theorem _root_.L2.PSs.imp' {X : Cx} {st : List Stmt} {t t' : TS} (h : PSs X st t) (f : ∀ D σ H, t' D σ H → t D σ H) : PSs X st t' := ⟨fun pins s σ H D I q => h.run pins s σ H D I (f D σ H q)⟩

section
variable {L : Lk} {K : PySem.W.Frag} {σ : L2.St} {w w1 w2 : Wl} {δ δ1 δ2 : Sl} {E : XK} {H : Hp} {Q : VK}
theorem rd_bVal {f : EM} (h : tB L K E (bVal f) σ H Q) : tO L K E f σ H Q := by
  obtain ⟨w, δ, e, st, h⟩ := h
  refine ⟨w, δ, e, st, (Fin.bind h).imp fun o w1 δ1 s1 k1 q => ?_⟩
  exact fun v F ho d => q w1 (Stp.refl w1) k1 s1 v F ho d
theorem rd_e1 {op : D → Option O} {a : BM} (h : tO L K E (e1 op a) σ H Q) : tUn (rD1 L K op) (tB L K E a) σ H Q := by
  obtain ⟨w, δ, e, st, h⟩ := h
  refine ⟨w, δ, e, st, (Fin.bind h).imp fun k w1 δ1 s1 k1 q => ?_⟩
  intro v F hv d
  cases e1 : rd δ1 k with
  | none => rw [e1] at q; exact q.elim
  | some x =>
    rw [e1] at q
    simp only at q
    cases e2 : op x with
    | none => rw [e2] at q; exact q.elim
    | some o =>
      rw [e2] at q
      refine ⟨w1.C, x, o, k1.le, rd_vw k1 hv e1, e2, ro_end (P := fun _ _ => True) k1 (Stp.refl w1) fun w' s' k' v' F' ho' d' => ?_⟩
      exact q w' s' k' (s1.trans s') v' F' ho' ⟨d'.nd, d'.cn, d'.fs, fun a ha => by
        rcases d'.og a ha with ⟨i, z⟩ | z
        · exact s1.newF i a z
        · exact .inr (s1.live a z)⟩
theorem Dis.back {F : List Addr} (s : Stp w w1) (d : Dis w1 w2 F) : Dis w w2 F := ⟨d.nd, d.cn, d.fs, fun a ha => by
  rcases d.og a ha with ⟨i, z⟩ | z
  · exact s.newF i a z
  · exact .inr (s.live a z)⟩
theorem rd_e2 {op : D → D → Option O} {a b : BM} (h : tO L K E (e2 op a b) σ H Q) : tOp (rD2 L K op) (tB L K E a) (tB L K E b) σ H Q := by
  obtain ⟨w, δ, e, st, h⟩ := h
  refine ⟨w, δ, e, st, (Fin.bind h).imp fun k w1 δ1 s1 k1 q => ?_⟩
  intro v F hv d
  refine ⟨w1, δ1, rfl, k1, (Fin.bind q).imp fun k' w2 δ2 s2 k2 q2 => ?_⟩
  intro v2 F2 hv2 d2
  have hv' := hv.pend d s2
  cases e1 : rd δ2 k with
  | none => rw [e1] at q2; simp only at q2; exact q2.elim
  | some x =>
    cases e2 : rd δ2 k' with
    | none => rw [e1, e2] at q2; simp only at q2; exact q2.elim
    | some y =>
      rw [e1, e2] at q2
      simp only at q2
      cases e3 : op x y with
      | none => rw [e3] at q2; exact q2.elim
      | some o =>
        rw [e3] at q2
        refine ⟨w2.C, x, y, o, k2.le, rd_vw k2 hv'.1 e1, rd_vw k2 hv2 e2, e3, ro_end (P := fun _ _ => True) k2 (Stp.refl w2) fun w' s' k' v' F' ho' d' => ?_⟩
        exact q2 w' s' k' (s2.trans s') (s1.trans (s2.trans s')) v' F' ho' (d'.back (s1.trans s2))
theorem rd_aNil {Q : List V → Hp → Prop} (h : tAs L K E aNil σ H Q) : tNil σ H Q := by
  obtain ⟨w, δ, e, st, h⟩ := h
  subst e
  exact h w (Stp.refl w) st [] [] ⟨rfl, rfl⟩ (Dis.nil _ _)
theorem rd_aCons {a : BM} {r : AM} {Q : List V → Hp → Prop} (h : tAs L K E (aCons a r) σ H Q) : tCons (tB L K E a) (tAs L K E r) σ H Q := by
  obtain ⟨w, δ, e, st, h⟩ := h
  refine ⟨w, δ, e, st, (Fin.bind h).imp fun k w1 δ1 s1 k1 q => ?_⟩
  intro v F hv d
  refine ⟨w1, δ1, rfl, k1, (Fin.bind q).imp fun k' w2 δ2 s2 k2 q2 => ?_⟩
  intro vs F2 hv2 d2
  have hv' := hv.pend d s2
  exact q2 w2 (Stp.refl w2) k2 s2 (s1.trans s2) (v :: vs) (F ++ F2) ⟨v, vs, F, F2, rfl, rfl, hv'.1, hv2⟩ (Dis.app d s1 hv'.2 hv.there d2)
theorem rd_eN {op : List D → Option O} {as : AM} (h : tO L K E (eN op as) σ H Q) : tCB (rDN L K op) (tAs L K E as) σ H Q := by
  obtain ⟨w, δ, e, st, h⟩ := h
  refine ⟨w, δ, e, st, (Fin.bind h).imp fun k w1 δ1 s1 k1 q => ?_⟩
  intro v F hv d
  cases e1 : rdAll δ1 k with
  | none => rw [e1] at q; exact q.elim
  | some x =>
    rw [e1] at q
    simp only at q
    cases e2 : op x with
    | none => rw [e2] at q; exact q.elim
    | some o =>
      rw [e2] at q
      refine ⟨w1.C, x, o, k1.le, rdAll_vw k1 hv e1, e2, ro_end (P := fun _ _ => True) k1 (Stp.refl w1) fun w' s' k' v' F' ho' d' => ?_⟩
      exact q w' s' k' (s1.trans s') v' F' ho' (d'.back s1)
end
end Dn
set_option autoImplicit false
set_option Elab.async false
set_option linter.all false
set_option maxRecDepth 100000
/-! DenU: names, tests, statements, defs. -/
namespace Dn
open PySem PySem.Spec PyProof.Rows L2

/-- what may leave the code as an exception -/
structure XOk (X : Cx) (E : XK) : Prop where
  pass : Passes (L2.CX X.prog X.w) X E
  takes : Takes X (fun cls d _ H => E cls d H)
  own : PassesOwn (model X.prog X.w) X.A X.env X.xe
  calm : X.calm = true

section
variable {L : Lk} {K : PySem.W.Frag} {σ σ' : L2.St} {w w1 w2 : Wl} {δ δ1 δ2 : Sl} {E : XK} {H : Hp} {Q : VK}
def updF (Fs : Nat → List Addr) (i : Nat) (F : List Addr) : Nat → List Addr := fun j => if j = i then F else Fs j
theorem updF_same {Fs : Nat → List Addr} {i : Nat} {F : List Addr} : updF Fs i F i = F := if_pos rfl
theorem updF_ne {Fs : Nat → List Addr} {i j : Nat} {F : List Addr} (h : j ≠ i) : updF Fs i F j = Fs j := if_neg h
/-- its slots' objects stand -/
theorem StOk.there (st : StOk L K σ w δ) {i : Nat} {a : Addr} (ha : a ∈ w.Fs i) : ∃ u, w.H a = some u := by
  by_cases hh : ∃ p, δ[i]? = some (some p)
  · obtain ⟨o', hp⟩ := hh
    obtain ⟨v', _, e2⟩ := st.sl i o' hp
    exact Own.there o' v' _ e2 a ha
  · have := st.nil i fun p hp => hh ⟨p, hp⟩
    rw [this] at ha; simp at ha
theorem StOk.upd (st : StOk L K σ w δ) {i : Nat} {s' : Slot} {C' H' : Hp} {F : List Addr} (hi : i < δ.length) (hl : σ'.length = σ.length) (hc : Ext w.C C') (le : Ext C' H')
    (hk : ∀ j, j ≠ i → ∀ a ∈ w.Fs j, ∀ u, w.H a = some u → H' a = some u) (hn : ∀ j, j ≠ i → ∀ a ∈ w.Fs j, C' a = none) (hσ : ∀ j, j ≠ i → σ'[j]? = σ[j]?)
    (hs : ∀ o, s' = some o → ∃ v, σ'[i]? = some (some v) ∧ Own L K C' H' o v F) (hz : s' = none → F = []) (hF : F.Nodup) (hC : ∀ a ∈ F, C' a = none) (hd : ∀ a ∈ F, ∀ j, j ≠ i → a ∉ w.Fs j) :
    StOk L K σ' ⟨C', H', updF w.Fs i F⟩ (δ.set i s') := by
  refine ⟨by rw [List.length_set, st.len, hl], le, fun j o h => ?_, fun j h => ?_, fun j => ?_, fun j k a h1 h2 => ?_, fun j a h => ?_⟩
  · by_cases hj : j = i
    · subst hj
      rw [List.getElem?_set_self hi] at h
      obtain ⟨v, e1, e2⟩ := hs o (Option.some.inj h)
      exact ⟨v, e1, by show Own L K C' H' o v (updF w.Fs j F j); rw [updF_same]; exact e2⟩
    · rw [List.getElem?_set_ne (Ne.symm hj)] at h
      obtain ⟨v, e1, e2⟩ := st.sl j o h
      refine ⟨v, (hσ j hj).trans e1, ?_⟩
      show Own L K C' H' o v (updF w.Fs i F j)
      rw [updF_ne hj]
      exact Own.ext hc o v _ (hk j hj) e2
  · show updF w.Fs i F j = []
    by_cases hj : j = i
    · subst hj
      rw [updF_same]
      cases s' with
      | none => exact hz rfl
      | some o => exact absurd (List.getElem?_set_self hi) (h o)
    · rw [updF_ne hj]
      exact st.nil j fun p hp => h p (by rw [List.getElem?_set_ne (Ne.symm hj)]; exact hp)
  · show (updF w.Fs i F j).Nodup
    by_cases hj : j = i
    · subst hj; rw [updF_same]; exact hF
    · rw [updF_ne hj]; exact st.nd j
  · have h1 : a ∈ updF w.Fs i F j := h1
    have h2 : a ∈ updF w.Fs i F k := h2
    by_cases hj : j = i
    · by_cases hk' : k = i
      · rw [hj, hk']
      · rw [hj, updF_same] at h1
        rw [updF_ne hk'] at h2
        exact absurd h2 (hd a h1 k hk')
    · rw [updF_ne hj] at h1
      by_cases hk' : k = i
      · rw [hk', updF_same] at h2
        exact absurd h1 (hd a h2 j hj)
      · rw [updF_ne hk'] at h2
        exact st.dj j k a h1 h2
  · have h : a ∈ updF w.Fs i F j := h
    by_cases hj : j = i
    · rw [hj, updF_same] at h; exact hC a h
    · rw [updF_ne hj] at h; exact hn j hj a h
/-- forgetting a slot: its objects are in hand -/
theorem StOk.take (st : StOk L K σ w δ) {i : Nat} (hi : i < δ.length) : StOk L K σ ⟨w.C, w.H, updF w.Fs i []⟩ (δ.set i none) :=
  st.upd hi rfl Ext.rfl' st.le (fun _ _ _ _ _ h => h) (fun j _ a h => st.op j a h) (fun _ _ => rfl) (fun _ h => by cases h) (fun _ => rfl) List.nodup_nil (by simp) (by simp)
theorem Stp.take (w : Wl) (i : Nat) : Stp w ⟨w.C, w.H, updF w.Fs i []⟩ :=
  ⟨Ext.rfl', fun _ _ h _ => h, fun _ h => h, fun _ h => .inl h, fun j a h => .inl (by
    have h : a ∈ updF w.Fs i [] j := h
    by_cases hj : j = i
    · rw [hj, updF_same] at h; simp at h
    · rw [updF_ne hj] at h; exact ⟨j, h⟩)⟩
theorem lt_of_get {i : Nat} {p : Slot} (h : δ[i]? = some p) : i < δ.length := (List.getElem?_eq_some_iff.mp h).1
theorem rd_bVar {i : Nat} (h : tB L K E (bVar i) σ H Q) : tVar i σ H Q := by
  obtain ⟨w, δ, e, st, h⟩ := h
  subst e
  unfold bVar at h
  split at h
  · rename_i o ho
    obtain ⟨v, e1, _⟩ := st.sl i o ho
    exact ⟨v, e1, h w (Stp.refl w) st v [] ⟨e1, rfl⟩ (Dis.nil _ _)⟩
  · exact h.elim
theorem rd_eC {x : D} {v : V} (hv : ∀ C, Dat L K C x v) (h : tO L K E (eC x) σ H Q) : tC v σ H Q := by
  obtain ⟨w, δ, e, st, h⟩ := h
  subst e
  exact h w (Stp.refl w) st v [] ⟨rfl, hv _⟩ (Dis.nil _ _)
theorem rd_eVar {i : Nat} (h : tO L K E (eVar i) σ H Q) : tVar i σ H Q := by
  obtain ⟨w, δ, e, st, h⟩ := h
  subst e
  unfold eVar at h
  split at h
  · rename_i o ho
    obtain ⟨v, e1, e2⟩ := st.sl i o ho
    have hi := lt_of_get ho
    have n := st.op i
    have dc : Dat L K (clo w.C w.H (w.Fs i)) (view o) v := Own.close o v _ _ e2 (fun _ h => h) n
    refine ⟨v, e1, h ⟨clo w.C w.H (w.Fs i), w.H, updF w.Fs i []⟩ ⟨clo_ext n, fun _ _ h _ => h, fun _ h => h, fun a ha => ?_, fun j a ha => ?_⟩ ?_ v [] ⟨rfl, dc⟩ (Dis.nil _ _)⟩
    · by_cases hm : a ∈ w.Fs i
      · exact .inr (.inl ⟨i, hm⟩)
      · refine .inl fun z => ha ?_
        show (if a ∈ w.Fs i then w.H a else w.C a) = none
        rw [if_neg hm]; exact z
    · exact (Stp.take w i).newF j a ha
    · refine st.upd hi rfl (clo_ext n) (clo_le st.le) (fun _ _ _ _ _ h => h) (fun j hj a ha => ?_) (fun _ _ => rfl) (fun o' h' => ⟨v, e1, ?_⟩) (fun _ => rfl) List.nodup_nil (by simp) (by simp)
      · show (if a ∈ w.Fs i then w.H a else w.C a) = none
        rw [if_neg fun hm => hj (st.dj j i a ha hm)]
        exact st.op j a ha
      · cases h'
        exact ⟨rfl, dc⟩
  · exact h.elim
theorem rd_eMove {i : Nat} (h : tO L K E (eMove i) σ H Q) : tVar i σ H Q := by
  obtain ⟨w, δ, e, st, h⟩ := h
  subst e
  unfold eMove at h
  split at h
  · rename_i o ho
    obtain ⟨v, e1, e2⟩ := st.sl i o ho
    have hi := lt_of_get ho
    refine ⟨v, e1, h ⟨w.C, w.H, updF w.Fs i []⟩ (Stp.take w i) (st.take hi) v (w.Fs i) e2 ⟨st.nd i, st.op i, fun a ha j hj => ?_, fun a ha => .inl ⟨i, ha⟩⟩⟩
    have hj : a ∈ updF w.Fs i [] j := hj
    by_cases hji : j = i
    · rw [hji, updF_same] at hj; simp at hj
    · rw [updF_ne hji] at hj
      exact hji (st.dj j i a hj ha)
  · exact h.elim

/-! ### tests -/
theorem rd_tVal {f : EM} {Q : Bool → Hp → Prop} (h : tT L K E (tVal f) σ H Q) : tO L K E f σ H fun x H1 => ∃ c, x = .bl c ∧ Q c H1 := by
  obtain ⟨w, δ, e, st, h⟩ := h
  refine ⟨w, δ, e, st, (Fin.bind h).imp fun o w1 δ1 s1 k1 q => ?_⟩
  intro v F ho d
  unfold asBool at q
  split at q
  · rename_i b hb
    split at hb
    · cases hb
      exact ⟨b, ho.2, q w1 (Stp.refl w1) k1 s1⟩
    · cases hb
  · exact q.elim
theorem rd_tAnd {a b : TM} {Q : Bool → Hp → Prop} (h : tT L K E (tAndM a b) σ H Q) : tAnd (tT L K E a) (tT L K E b) σ H Q := by
  obtain ⟨w, δ, e, st, h⟩ := h
  refine ⟨w, δ, e, st, (Fin.bind h).imp fun c w1 δ1 s1 k1 q => ?_⟩
  cases c with
  | true =>
    rw [if_pos rfl] at q ⊢
    exact ⟨w1, δ1, rfl, k1, q.imp fun b w2 δ2 s2 k2 z => z (s1.trans s2)⟩
  | false =>
    rw [if_neg Bool.false_ne_true] at q ⊢
    exact q w1 (Stp.refl w1) k1 s1
theorem rd_tOr {a b : TM} {Q : Bool → Hp → Prop} (h : tT L K E (tOrM a b) σ H Q) : tOr (tT L K E a) (tT L K E b) σ H Q := by
  obtain ⟨w, δ, e, st, h⟩ := h
  refine ⟨w, δ, e, st, (Fin.bind h).imp fun c w1 δ1 s1 k1 q => ?_⟩
  cases c with
  | true =>
    rw [if_pos rfl] at q ⊢
    exact q w1 (Stp.refl w1) k1 s1
  | false =>
    rw [if_neg Bool.false_ne_true] at q ⊢
    exact ⟨w1, δ1, rfl, k1, q.imp fun b w2 δ2 s2 k2 z => z (s1.trans s2)⟩
theorem rd_tNot {a : TM} {Q : Bool → Hp → Prop} (h : tT L K E (tNotM a) σ H Q) : tNot (tT L K E a) σ H Q := by
  obtain ⟨w, δ, e, st, h⟩ := h
  refine ⟨w, δ, e, st, (Fin.bind h).imp fun c w1 δ1 s1 k1 q => ?_⟩
  exact q w1 (Stp.refl w1) k1 s1
/-- a result found later on is a result of the whole -/
theorem own_back {P : EM} {o : O} (s1 : Stp w w1) (q : Stp w1 w2 → ∀ v F, Own L K w2.C w2.H o v F → Dis w w2 F → Q v w2.H) (s2 : Stp w1 w2) : ∀ v F, Own L K w2.C w2.H o v F → Dis w1 w2 F → Q v w2.H :=
  fun v F ho d => q s2 v F ho (d.back s1)
theorem rd_eIf {c : TM} {a b : EM} (h : tO L K E (eIf c a b) σ H Q) : tIf (tT L K E c) (tO L K E a) (tO L K E b) σ H Q := by
  obtain ⟨w, δ, e, st, h⟩ := h
  refine ⟨w, δ, e, st, (Fin.bind h).imp fun c w1 δ1 s1 k1 q => ?_⟩
  cases c with
  | true =>
    rw [if_pos rfl] at q ⊢
    exact ⟨w1, δ1, rfl, k1, q.imp fun b w2 δ2 s2 k2 z v F ho d => z (s1.trans s2) v F ho (d.back s1)⟩
  | false =>
    rw [if_neg Bool.false_ne_true] at q ⊢
    exact ⟨w1, δ1, rfl, k1, q.imp fun b w2 δ2 s2 k2 z v F ho d => z (s1.trans s2) v F ho (d.back s1)⟩
theorem rd_eAnd {a b : EM} (h : tO L K E (eAnd a b) σ H Q) : tAndV (tO L K E a) (tO L K E b) σ H Q := by
  obtain ⟨w, δ, e, st, h⟩ := h
  refine ⟨w, δ, e, st, (Fin.bind h).imp fun o w1 δ1 s1 k1 q => ?_⟩
  intro v F ho d
  unfold asBool at q
  split at q
  · rename_i hb
    split at hb
    · cases hb
      refine ⟨true, ho.2, ?_⟩
      rw [if_pos rfl]
      exact ⟨w1, δ1, rfl, k1, q.imp fun b w2 δ2 s2 k2 z v F ho d => z (s1.trans s2) v F ho (d.back s1)⟩
    · cases hb
  · rename_i hb
    split at hb
    · cases hb
      refine ⟨false, ho.2, ?_⟩
      rw [if_neg Bool.false_ne_true]
      exact q w1 (Stp.refl w1) k1 s1 (.bl false) [] ⟨rfl, rfl⟩ (Dis.nil _ _)
    · cases hb
  · exact q.elim
theorem rd_eOr {a b : EM} (h : tO L K E (eOr a b) σ H Q) : tOrV (tO L K E a) (tO L K E b) σ H Q := by
  obtain ⟨w, δ, e, st, h⟩ := h
  refine ⟨w, δ, e, st, (Fin.bind h).imp fun o w1 δ1 s1 k1 q => ?_⟩
  intro v F ho d
  unfold asBool at q
  split at q
  · rename_i hb
    split at hb
    · cases hb
      refine ⟨true, ho.2, ?_⟩
      rw [if_pos rfl]
      exact q w1 (Stp.refl w1) k1 s1 (.bl true) [] ⟨rfl, rfl⟩ (Dis.nil _ _)
    · cases hb
  · rename_i hb
    split at hb
    · cases hb
      refine ⟨false, ho.2, ?_⟩
      rw [if_neg Bool.false_ne_true]
      exact ⟨w1, δ1, rfl, k1, q.imp fun b w2 δ2 s2 k2 z v F ho d => z (s1.trans s2) v F ho (d.back s1)⟩
    · cases hb
  · exact q.elim
theorem rd_eNot {a : EM} (h : tO L K E (eNot a) σ H Q) : tNotV (tO L K E a) σ H Q := by
  obtain ⟨w, δ, e, st, h⟩ := h
  refine ⟨w, δ, e, st, (Fin.bind h).imp fun o w1 δ1 s1 k1 q => ?_⟩
  intro v F ho d
  unfold asBool at q
  split at q
  · rename_i b hb
    split at hb
    · cases hb
      exact ⟨b, ho.2, q w1 (Stp.refl w1) k1 s1 (.bl (!b)) [] ⟨rfl, rfl⟩ (Dis.nil _ _)⟩
    · cases hb
  · exact q.elim
end

/-! ### statements -/
def LkOk (lk : Nat → Bool) (σ σ' : L2.St) : Prop := σ'.length = σ.length ∧ ∀ i, lk i = true → σ'[i]? = σ[i]?
theorem LkOk.refl (lk : Nat → Bool) (σ : L2.St) : LkOk lk σ σ := ⟨rfl, fun _ _ => rfl⟩
theorem LkOk.trans {lk : Nat → Bool} {σ σ1 σ2 : L2.St} (a : LkOk lk σ σ1) (b : LkOk lk σ1 σ2) : LkOk lk σ σ2 := ⟨b.1.trans a.1, fun i hi => (b.2 i hi).trans (a.2 i hi)⟩
section
variable (L : Lk) (K : PySem.W.Frag)
def FinS (E : XK) (D : Ends) (lk : Nat → Bool) (σ : L2.St) (w : Wl) (r : SR) : Prop := match r with
  | .bad => False
  | .exc c δ' => ∀ w' σ' ca, L.exc c = some ca → Stp w w' → StOk L K σ' w' δ' → LkOk lk σ σ' → E (.ref ca) none w'.H
  | .nx δ' => ∀ w' σ', Stp w w' → StOk L K σ' w' δ' → LkOk lk σ σ' → D.nx σ' w'.H
  | .bk δ' => ∀ w' σ', Stp w w' → StOk L K σ' w' δ' → LkOk lk σ σ' → D.bk σ' w'.H
  | .ct δ' => ∀ w' σ', Stp w w' → StOk L K σ' w' δ' → LkOk lk σ σ' → D.ct σ' w'.H
  | .rt o δ' => ∀ w' σ' v F, Stp w w' → StOk L K σ' w' δ' → LkOk lk σ σ' → Own L K w'.C w'.H o v F → Dis w w' F → D.rt v w'.H
def tSm (E : XK) (lk : Nat → Bool) (f : SM) : TS := fun D σ H => ∃ w δ, w.H = H ∧ StOk L K σ w δ ∧ FinS L K E D lk σ w (f lk δ)
end
section
variable {L : Lk} {K : PySem.W.Frag} {σ σ' σ1 : L2.St} {w w1 w2 : Wl} {δ δ1 δ2 : Sl} {E : XK} {H : Hp} {Q : VK} {D' : Ends} {lk : Nat → Bool}
theorem FinS.step {r : SR} (s : Stp w w1) (l : LkOk lk σ σ1) (h : FinS L K E D' lk σ w r) : FinS L K E D' lk σ1 w1 r := by
  cases r with
  | bad => exact h
  | exc c δ' => exact fun w' σ' ca hc s' k' l' => h w' σ' ca hc (s.trans s') k' (l.trans l')
  | nx δ' => exact fun w' σ' s' k' l' => h w' σ' (s.trans s') k' (l.trans l')
  | bk δ' => exact fun w' σ' s' k' l' => h w' σ' (s.trans s') k' (l.trans l')
  | ct δ' => exact fun w' σ' s' k' l' => h w' σ' (s.trans s') k' (l.trans l')
  | rt o δ' => exact fun w' σ' v F s' k' l' ho d => h w' σ' v F (s.trans s') k' (l.trans l') ho (d.back s)
theorem FinS.ofRes {α : Type} {r : Res α} {k : α → Sl → SR} (h : FinS L K E D' lk σ w (ofRes r k)) : Fin L K E σ w r fun a w1 δ1 => FinS L K E D' lk σ w (k a δ1) := by
  cases r with
  | bad => exact h
  | exc c δ' => exact fun w' ca hc s' k' => h w' σ ca hc s' k' (LkOk.refl _ _)
  | ok a δ' => exact fun w' _ _ => h
theorem rd_sNil (h : tSm L K E lk sNil D' σ H) : tNext D' σ H := by
  obtain ⟨w, δ, e, st, h⟩ := h
  subst e
  exact h w σ (Stp.refl w) st (LkOk.refl _ _)
theorem rd_sCons {a b : SM} (h : tSm L K E lk (sCons a b) D' σ H) : tSeq (tSm L K E lk a) (tSm L K E lk b) D' σ H := by
  obtain ⟨w, δ, e, st, h⟩ := h
  refine ⟨w, δ, e, st, ?_⟩
  unfold sCons at h
  cases e1 : a lk δ with
  | bad => rw [e1] at h; exact h
  | exc c δ' => rw [e1] at h; exact h
  | nx δ' =>
    rw [e1] at h
    exact fun w' σ' s' k' l' => ⟨w', δ', rfl, k', FinS.step s' l' h⟩
  | bk δ' => rw [e1] at h; exact h
  | ct δ' => rw [e1] at h; exact h
  | rt o δ' => rw [e1] at h; exact h
theorem rd_sExpr {f : EM} (h : tSm L K E lk (sExpr f) D' σ H) : tDrop (tO L K E f) D' σ H := by
  obtain ⟨w, δ, e, st, h⟩ := h
  refine ⟨w, δ, e, st, (FinS.ofRes h).imp fun o w1 δ1 s1 k1 q => ?_⟩
  exact fun v F ho d => q w1 σ s1 k1 (LkOk.refl _ _)
theorem put_end {i : Nat} {o : O} {v : V} {F : List Addr} {k : Sl → SR} (st : StOk L K σ w1 δ) (s : Stp w w1) (ho : Own L K w1.C w1.H o v F) (d : Dis w w1 F) (q : FinS L K E D' lk σ w (put lk δ i o k)) :
    ∃ w', w'.H = w1.H ∧ Stp w w' ∧ StOk L K (σ.set i (some v)) w' (δ.set i (some o)) ∧ LkOk lk σ (σ.set i (some v)) ∧ FinS L K E D' lk σ w (k (δ.set i (some o))) := by
  unfold put at q
  split at q
  · exact q.elim
  · rename_i hc
    have hi : i < δ.length := by omega
    have hl : ¬ lk i = true := fun z => hc (.inl z)
    refine ⟨⟨w1.C, w1.H, updF w1.Fs i F⟩, rfl, ⟨s.c, s.keep, s.live, s.newC, fun j a ha => ?_⟩, ?_, ⟨by simp, fun j hj => ?_⟩, q⟩
    · have ha : a ∈ updF w1.Fs i F j := ha
      by_cases hj : j = i
      · rw [hj, updF_same] at ha; exact d.og a ha
      · rw [updF_ne hj] at ha; exact s.newF j a ha
    · refine st.upd hi (by simp) Ext.rfl' st.le (fun _ _ _ _ _ h => h) (fun j _ a h => st.op j a h) (fun j hj => List.getElem?_set_ne (Ne.symm hj)) (fun o' h' => ?_) (fun h => by cases h) d.nd d.cn fun a ha j _ => d.fs a ha j
      cases h'
      exact ⟨v, List.getElem?_set_self (by rw [← st.len]; exact hi), ho⟩
    · exact List.getElem?_set_ne fun z => by subst z; exact hl hj
theorem rd_sSet {i : Nat} {f : EM} (h : tSm L K E lk (sSet i f) D' σ H) : tAsg (tO L K E f) (gName i) D' σ H := by
  obtain ⟨w, δ, e, st, h⟩ := h
  refine ⟨w, δ, e, st, (FinS.ofRes h).imp fun o w1 δ1 s1 k1 q => ?_⟩
  intro v F ho d
  obtain ⟨w', e', s', k', l', q'⟩ := put_end k1 s1 ho d q
  show D'.nx (σ.set i (some v)) w1.H
  rw [← e']
  exact q' w' _ s' k' l'
theorem rd_sRet {f : EM} (h : tSm L K E lk (sRet f) D' σ H) : tRet (tO L K E f) D' σ H := by
  obtain ⟨w, δ, e, st, h⟩ := h
  refine ⟨w, δ, e, st, (FinS.ofRes h).imp fun o w1 δ1 s1 k1 q => ?_⟩
  exact fun v F ho d => q w1 σ v F s1 k1 (LkOk.refl _ _) ho d
theorem rd_sRetN (h : tSm L K E lk sRetN D' σ H) : tRetN D' σ H := by
  obtain ⟨w, δ, e, st, h⟩ := h
  subst e
  exact h w σ .non [] (Stp.refl w) st (LkOk.refl _ _) ⟨rfl, rfl⟩ (Dis.nil _ _)
theorem rd_sRetV {i : Nat} (h : tSm L K E lk (sRetV i) D' σ H) : tRet (tVar i) D' σ H := by
  obtain ⟨w, δ, e, st, h⟩ := h
  unfold sRetV at h
  have h2 := FinS.ofRes h
  have fin : ∀ (f : EM), Fin L K E σ w (f δ) (fun o w1 δ1 => FinS L K E D' lk σ w (.rt o δ1)) → tO L K E f σ H D'.rt := fun f hf =>
    ⟨w, δ, e, st, hf.imp fun o w1 δ1 s1 k1 q v F ho d => q w1 σ v F s1 k1 (LkOk.refl _ _) ho d⟩
  by_cases hi : lk i = true
  · rw [if_pos hi] at h2
    exact rd_eVar (fin _ h2)
  · rw [if_neg hi] at h2
    exact rd_eMove (fin _ h2)
theorem rd_sIf {c : TM} {a b : SM} (h : tSm L K E lk (sIf c a b) D' σ H) : tIfS (tT L K E c) (tSm L K E lk a) (tSm L K E lk b) D' σ H := by
  obtain ⟨w, δ, e, st, h⟩ := h
  refine ⟨w, δ, e, st, (FinS.ofRes h).imp fun k w1 δ1 s1 k1 q => ?_⟩
  cases k with
  | true =>
    rw [if_pos rfl] at q ⊢
    exact ⟨w1, δ1, rfl, k1, q.step s1 (LkOk.refl _ _)⟩
  | false =>
    rw [if_neg Bool.false_ne_true] at q ⊢
    exact ⟨w1, δ1, rfl, k1, q.step s1 (LkOk.refl _ _)⟩
theorem rd_sBrk (h : tSm L K E lk sBrk D' σ H) : tBreak D' σ H := by
  obtain ⟨w, δ, e, st, h⟩ := h
  subst e
  exact h w σ (Stp.refl w) st (LkOk.refl _ _)
theorem rd_sCnt (h : tSm L K E lk sCnt D' σ H) : tCont D' σ H := by
  obtain ⟨w, δ, e, st, h⟩ := h
  subst e
  exact h w σ (Stp.refl w) st (LkOk.refl _ _)
end

/-! ### the judgements of a derivation -/
section
variable {X : Cx} {L : Lk} {E : XK} {lk : Nat → Bool}
abbrev PB (X : Cx) (L : Lk) (E : XK) (e : Expr) (f : BM) : Prop := PE X e (tB L X.K E f)
abbrev PV (X : Cx) (L : Lk) (E : XK) (e : Expr) (f : EM) : Prop := PE X e (tO L X.K E f)
abbrev PTt (X : Cx) (L : Lk) (E : XK) (e : Expr) (f : TM) : Prop := PT X e (tT L X.K E f)
abbrev PWt (X : Cx) (L : Lk) (E : XK) (e : Expr) (f : TM) : Prop := PW X e (tT L X.K E f)
abbrev PAs (X : Cx) (L : Lk) (E : XK) (es : List Expr) (f : AM) : Prop := PA X es (tAs L X.K E f)
abbrev PSt (X : Cx) (L : Lk) (E : XK) (lk : Nat → Bool) (s : Stmt) (f : SM) : Prop := PS X s (tSm L X.K E lk f)
abbrev PSts (X : Cx) (L : Lk) (E : XK) (lk : Nat → Bool) (s : List Stmt) (f : SM) : Prop := PSs X s (tSm L X.K E lk f)
theorem dvar (i : Nat) {x : Str} {pos : Pos} (hN : X.N[i]? = some x := by rfl) (hv : Vis X.env.scope x := by first | exact Or.inl rfl | exact Or.inr (Or.inl rfl) | exact Or.inr (Or.inr rfl)) (hd : (x == ("__debug__" : Str)) = false := by decide)
    (hcd : (x == ("__classdict__" : Str)) = false := by decide) : PB X L E (.Name x pos) (bVar i) := (pe_var hN hv hd hcd).imp' fun _ _ _ => rd_bVar
theorem dvarE (i : Nat) {x : Str} {pos : Pos} (hN : X.N[i]? = some x := by rfl) (hv : Vis X.env.scope x := by first | exact Or.inl rfl | exact Or.inr (Or.inl rfl) | exact Or.inr (Or.inr rfl)) (hd : (x == ("__debug__" : Str)) = false := by decide)
    (hcd : (x == ("__classdict__" : Str)) = false := by decide) : PV X L E (.Name x pos) (eVar i) := (pe_var hN hv hd hcd).imp' fun _ _ _ => rd_eVar
theorem dval {e : Expr} {f : EM} (h : PV X L E e f) : PB X L E e (bVal f) := h.imp' fun _ _ _ => rd_bVal
theorem dint {i j pos} : PV X L E (.Constant (.int i) j pos) (eC (.int i)) := pe_int.imp' fun _ _ _ => rd_eC fun _ => rfl
theorem dbl {b j pos} : PV X L E (.Constant (.bool b) j pos) (eC (.bl b)) := pe_bl.imp' fun _ _ _ => rd_eC fun _ => rfl
theorem dnon {j pos} : PV X L E (.Constant .none j pos) (eC .non) := pe_non.imp' fun _ _ _ => rd_eC fun _ => rfl
theorem dstr {x j pos} : PV X L E (.Constant (.str x) j pos) (eC (.str x)) := pe_str.imp' fun _ _ _ => rd_eC fun _ => rfl
theorem dglob {x : Str} {v : V} {d : D} {u : Value} {pos : Pos} (hm : X.mg x = some u) (r : RelV v u) (hv : ∀ C, Dat L X.K C d v) (hg : Gl X x := by rfl) (hd : (x == ("__debug__" : Str)) = false := by decide) : PV X L E (.Name x pos) (eC d) :=
  (pe_glob hg hm r hd).imp' fun _ _ _ => rd_eC hv
theorem dtst {e : Expr} {f : EM} (h : PV X L E e f) (he : ∀ whole, isTrue e X.env whole = (do let v ← whole; standAt e.pos; holding [v] (truthy v)) := by intro _; rfl) : PTt X L E e (tVal f) :=
  (pt_val h he).imp' fun _ _ _ => rd_tVal
variable {a b : Expr} {f g : EM} {p q : TM} {pos : Pos} {rest : List Expr}
theorem dandT1 (ha : PTt X L E a p) : PWt X L E (.BoolOp .And [a] pos) p := pw_and1 ha
theorem dorT1 (ha : PTt X L E a p) : PWt X L E (.BoolOp .Or [a] pos) p := pw_or1 ha
theorem dandT (ha : PTt X L E a p) (hb : PWt X L E (.BoolOp .And (b :: rest) pos) q) : PWt X L E (.BoolOp .And (a :: b :: rest) pos) (tAndM p q) :=
  ⟨fun wh pins s σ H Q I h => (pw_and ha hb).run wh pins s σ H Q I (rd_tAnd h)⟩
theorem dorT (ha : PTt X L E a p) (hb : PWt X L E (.BoolOp .Or (b :: rest) pos) q) : PWt X L E (.BoolOp .Or (a :: b :: rest) pos) (tOrM p q) :=
  ⟨fun wh pins s σ H Q I h => (pw_or ha hb).run wh pins s σ H Q I (rd_tOr h)⟩
theorem dnotT (ha : PTt X L E a p) : PTt X L E (.UnaryOp .Not a pos) (tNotM p) := (pt_not ha).imp' fun _ _ _ => rd_tNot
theorem dandV1 {op} (ha : PV X L E a f) : PV X L E (.BoolOp op [a] pos) f := pe_one ha
theorem dandV (ha : PV X L E a f) (hb : PV X L E (.BoolOp .And (b :: rest) pos) g) : PV X L E (.BoolOp .And (a :: b :: rest) pos) (eAnd f g) := (pe_and ha hb).imp' fun _ _ _ => rd_eAnd
theorem dorV (ha : PV X L E a f) (hb : PV X L E (.BoolOp .Or (b :: rest) pos) g) : PV X L E (.BoolOp .Or (a :: b :: rest) pos) (eOr f g) := (pe_or ha hb).imp' fun _ _ _ => rd_eOr
theorem dnotV (ha : PV X L E a f) : PV X L E (.UnaryOp .Not a pos) (eNot f) := (pe_not ha).imp' fun _ _ _ => rd_eNot
theorem difE {c : Expr} (hc : PTt X L E c p) (ha : PV X L E a f) (hb : PV X L E b g) : PV X L E (.IfExp c a b pos) (eIf p f g) := (pe_ifExp hc ha hb).imp' fun _ _ _ => rd_eIf
theorem dan : PAs X L E [] aNil := pa_nil.imp' fun _ _ _ => rd_aNil
theorem dac {e : Expr} {es : List Expr} {h : BM} {r : AM} (he : PB X L E e h) (hr : PAs X L E es r) (hs : starEach (e :: es) X.env = (false, eval e X.env) :: starEach es X.env := by rfl) : PAs X L E (e :: es) (aCons h r) :=
  (pa_cons he hr hs).imp' fun _ _ _ => rd_aCons
variable {st : Stmt} {sts : List Stmt} {s t : SM}
theorem dsn : PSts X L E lk [] sNil := pss_nil.imp' fun _ _ _ => rd_sNil
theorem dsc (h1 : PSt X L E lk st s) (h2 : PSts X L E lk sts t) : PSts X L E lk (st :: sts) (sCons s t) := (pss_cons h1 h2).imp' fun _ _ _ => rd_sCons
theorem ds1 (h1 : PSt X L E lk st s) : PSts X L E lk [st] s := pss_one h1
theorem dsx {e : Expr} (he : PV X L E e f) (hs : swapsWith e none pos.line X.env = pure false := by rfl) : PSt X L E lk (.Expr e pos) (sExpr f) := (ps_expr he hs).imp' fun _ _ _ => rd_sExpr
theorem dset (i : Nat) {x : Str} {e : Expr} {pos' : Pos} (hN : X.N.Nodup) (he : PV X L E e f) (hi : X.N[i]? = some x := by rfl) (hx : Loc X.env.scope x := by first | exact Or.inl rfl | exact Or.inr rfl) (hs : swapsWith e (some (.Name x pos')) pos.line X.env = pure false := by rfl)
    (hf : X.fn x = true ∨ X.env.scope.names.lookup x = some .local := by first | exact .inl rfl | exact .inr rfl | assumption) : PSt X L E lk (.Assign [.Name x pos'] e pos) (sSet i f) :=
  (ps_set hN hi hx he hs hf).imp' fun _ _ _ => rd_sSet
theorem dret {e : Expr} (he : PV X L E e f) : PSt X L E lk (.Return (some e) pos) (sRet f) := (ps_ret he).imp' fun _ _ _ => rd_sRet
theorem dretV (i : Nat) {x : Str} {p : Pos} (hN : X.N[i]? = some x := by rfl) (hv : Vis X.env.scope x := by first | exact Or.inl rfl | exact Or.inr (Or.inl rfl) | exact Or.inr (Or.inr rfl)) (hd : (x == ("__debug__" : Str)) = false := by decide)
    (hcd : (x == ("__classdict__" : Str)) = false := by decide) : PSt X L E lk (.Return (some (.Name x p)) pos) (sRetV i) := (ps_ret (pe_var hN hv hd hcd)).imp' fun _ _ _ => rd_sRetV
theorem dretN : PSt X L E lk (.Return none pos) sRetN := ps_retN.imp' fun _ _ _ => rd_sRetN
theorem dif {c : Expr} {as bs : List Stmt} (hc : PTt X L E c p) (ha : PSts X L E lk as s) (hb : PSts X L E lk bs t) : PSt X L E lk (.If c as bs pos) (sIf p s t) := (ps_if hc ha hb).imp' fun _ _ _ => rd_sIf
theorem dbrk : PSt X L E lk (.Break pos) sBrk := ps_break.imp' fun _ _ _ => rd_sBrk
theorem dcnt : PSt X L E lk (.Continue pos) sCnt := ps_continue.imp' fun _ _ _ => rd_sCnt
theorem dpass : PSt X L E lk (.Pass pos) sNil := ps_pass.imp' fun _ _ _ => rd_sNil
end
end Dn
set_option autoImplicit false
set_option Elab.async false
set_option linter.all false
set_option maxRecDepth 100000
/-! DenG: promises of defs where no repr is under way (the guards are known). -/
namespace Dn
open PySem PySem.Spec PyProof.Rows L2
structure RoomG (k : Nat) (A : Around) : Prop where
  r : Room k A
  g : A.guards = some []
theorem RoomG.mono {j k : Nat} {A : Around} (r : RoomG k A) (h : j ≤ k) : RoomG j A := ⟨r.r.mono h, r.g⟩
theorem RoomG.deeper {k : Nat} {A : Around} (r : RoomG (k + 1) A) (env : Env) : RoomG k (A.deeper env) := ⟨r.r.deeper env, r.g⟩
theorem RoomG.units {k : Nat} {A : Around} (r : RoomG k A) : A.units + 64 < cLine := r.r.units
theorem RoomG.make {k : Nat} {A : Around} (r : RoomG (k + 1) A) (C : Addr) (us : List Value) (kw : List (Str × Value)) : RoomG k (A.under (.builtin "type.__call__" ⟨.ref C :: us, kw⟩)) :=
  ⟨r.r.make C us kw, by first | exact r.g | (simpa [Around.under, Code.guards, Code.isGuard, guardIds, pushGuards] using r.g)⟩
structure FnG (P : Program) (w : World) (K : PySem.W.Frag) (mg : Str → Option Value) (base : Heap) (k : Nat) (f : Addr) (fd : FuncData) (ps : List Str) (sp : Sp) : Prop where
  len : ∀ vs H Q E, sp vs H Q E → vs.length = ps.length
  run : ∀ (A : Around) (outer : List Env) (s : Shared) (H : Hp) (args : Args) (us : List Value) (vs : List V) (Q : VK) (E : XK), RoomG k A → Env0 P w K mg base A outer s H → BindsTo s fd args (ps.zip us) → Vals vs us → sp vs H Q E →
    codeAny (model P w) A (.call (.ref f) args) (CR (L2.CX P w) outer P w H s Q E) s
section
variable {P : Program} {w : World} {K : PySem.W.Frag} {mg : Str → Option Value} {base : Heap} {k : Nat} {f : Addr}
theorem fnG_of {name qual : Str} {params : Arguments} {body : List Stmt} {scope : Scope} {dV kV doc pm cdv ct oc : Value} {an od : Option Addr}
    {osl : Array (Option Value)} {N ps : List Str} {sp : Sp} (lk : K.lookup f = some ⟨oc, od, .func (PySem.W.fnOf name qual params body scope dV kV doc pm an cdv ct), osl⟩) (hcd : PySem.W.codeIn K cdv qual = true) (S : FnScope N ps scope)
    (len : ∀ vs H Q E, sp vs H Q E → vs.length = ps.length)
    (hbody : ∀ (A : Around) (outer : List Env) (s : Shared) (H : Hp) (vs : List V) (Q : VK) (E : XK), RoomG k (A.deeper (envOfC qual scope s.heap.objs.size f cdv)) → sp vs H Q E →
      ∃ t, PSs (cxOf (L2.CX P w) P w K mg base N qual scope f cdv A outer s H E) body t ∧ t { nx := fun _ H' => Q .non H', rt := Q } (start N vs) H) :
    FnG P w K mg base (k + 1) f (PySem.W.fnOf name qual params body scope dV kV doc pm an cdv ct) ps sp := by
  refine ⟨len, fun A outer s H args us vs Q E hr e0 hb r hsp => ?_⟩
  have hl := len _ _ _ _ hsp
  have KX : K.In s.heap := e0.mod.kin.keeps fun b o e => (e0.bs b o e).1
  have lim : s.heap.NoLimit := e0.mod.nolimit.keeps fun b o e => (e0.bs b o e).1
  have hkind : ∀ y ∈ ps.zip us, scope.names.lookup y.1 = some .local ∨ (scope.names.lookup y.1 = some .cell ∧ ((cellsFrom (s.heap.objs.size + 1) scope.names []).lookup y.1).isSome = true) := fun ⟨n, v⟩ hy => by
    rcases S.par n (List.of_mem_zip hy).1 with q | q
    · exact .inl q
    · exact .inr ⟨q, PySem.W.cellsFrom_some _ _ _ (.inl q)⟩
  refine codeAny_call_function hr.r.depth (KX _ _ lk) rfl S.co S.gen rfl (PySem.W.codeRec_of KX hcd) (hb _ _ _ _ ?_)
  refine wpAny_newFunctionEnv_cells S.kind hkind fun env he s1 x => ?_
  subst he
  refine ⟨lim.keeps x.toInCall.keep, codeAny_func ?_⟩
  obtain ⟨t, ht, hq⟩ := hbody A outer s H vs Q E (hr.deeper _) hsp
  have I : Inv (cxOf (L2.CX P w) P w K mg base N qual scope f cdv A outer s H E) [] (start N vs) H s1 := inv_start S hr.r.hd e0 hl r x
  refine wpAny_mono (ht.run [] s1 (start N vs) H _ I hq) (fun fl s' hs => ?_) fun e s' hs => hs
  have fin : ∀ {σ' : L2.St} {H' : Hp} {v : V} {u : Value}, Inv (cxOf (L2.CX P w) P w K mg base N qual scope f cdv A outer s H E) [] σ' H' s' → RelV v u → Q v H' → CE outer P w H s Q u s' :=
    fun {σ' H' v u} J rv q => ⟨v, H', J.os, J.bare, J.base, J.hok, rv, q⟩
  cases fl with
  | ret u =>
    obtain ⟨v, σ', H', J, rv, q⟩ := hs
    exact fin J rv q
  | next =>
    obtain ⟨σ', H', J, q⟩ := hs
    exact fin (v := V.non) (u := Value.none) J rfl q
  | brk =>
    obtain ⟨_, _, _, q⟩ := hs
    exact False.elim q
  | cont =>
    obtain ⟨_, _, _, q⟩ := hs
    exact False.elim q
theorem fnG_ok {x qual : Str} {st : Stmt} {fd : FuncData} {N ps : List Str} {sp : Sp} (F : Fun K x qual st f fd) (S : FnScope N ps (defScope st)) (len : ∀ vs H Q E, sp vs H Q E → vs.length = ps.length)
    (hbody : ∀ (cdv : Value) (A : Around) (outer : List Env) (s : Shared) (H : Hp) (vs : List V) (Q : VK) (E : XK), RoomG k (A.deeper (envOfC qual (defScope st) s.heap.objs.size f cdv)) → sp vs H Q E →
      ∃ t, PSs (cxOf (L2.CX P w) P w K mg base N qual (defScope st) f cdv A outer s H E) (defBody st) t ∧ t { nx := fun _ H' => Q .non H', rt := Q } (start N vs) H) : FnG P w K mg base (k + 1) f fd ps sp := by
  obtain ⟨oc, od, kV, doc, pm, an, cdv, ct, osl, rfl, lk, hcd⟩ := F.ex
  exact fnG_of lk hcd S len fun A outer s H vs Q E hr hsp => hbody cdv A outer s H vs Q E hr hsp
end
section
variable {X : Cx} {k : Nat} {f C : Addr} {fd : FuncData} {ps ks : List Str} {sp : Sp} {E : XK} {x m : Str} {p pos apos : Pos} {e o fe : Expr} {es : List Expr} {ta tf : TE} {t tk : TA} {kws : List Keyword}
/-- the callee runs: args holds what is bound, us is in the parameters' order -/
theorem run_fnG {pins : List (Addr × Obj)} {σ : L2.St} {H : Hp} {s : Shared} {Q : VK} {args : List Value} {kw : List (Str × Value)} {us : List Value} {vs : List V} (F : FnG X.prog X.w X.K X.mg X.base k f fd ps sp) (hr : RoomG k X.A) (hb : BindsTo s fd ⟨args, kw⟩ (ps.zip us)) (hx : Passes (L2.CX X.prog X.w) X E)
    (I : Inv X pins σ H s) (r : Vals vs us) (h : sp vs H Q E) : wpAny (model X.prog X.w) X.A (call (.ref f) args kw) (EP X pins σ Q) X.xe s := by
  refine wpAny_call (codeAny_mono (F.run X.A X.stack s H ⟨args, kw⟩ us vs Q E hr I.env0 hb r h) fun r s' hq => ?_)
  cases r with
  | error e => exact hx pins σ H s e s' I hq
  | ok fl =>
    cases fl with
    | ret u => exact I.after hq
    | next => exact False.elim hq
    | brk => exact False.elim hq
    | cont => exact False.elim hq
theorem bindsG {K : PySem.W.Frag} {s : Shared} {us : List Value} (hb : Binds K fd ps []) (kin : K.In s.heap) (hl : us.length = ps.length) : BindsTo s fd ⟨us, []⟩ (ps.zip us) := by
  have := hb s us kin (by rw [List.append_nil]; exact hl)
  rwa [List.append_nil] at this
/-- f(e, ..) -/
theorem pe_callG (F : FnG X.prog X.w X.K X.mg X.base k f fd ps sp) (hr : RoomG k X.A) (hg : Gl X x) (hm : X.mg x = some (.ref f)) (hk : PySem.W.keepIn X.K (.ref f) = true) (hb : Binds X.K fd ps []) (hx : Passes (L2.CX X.prog X.w) X E)
    (ha : PA X (e :: es) t) (hdb : (x == ("__debug__" : Str)) = false := by decide) (he : starEach (e :: es) X.env = (false, eval e X.env) :: starEach es X.env := by rfl) (hpl : (backTo pos (starEach es X.env)).any (·.1) = false := by rfl) :
    PE X (.Call (.Name x p) (e :: es) [] pos) (fun σ H Q => t σ H fun vs H1 => sp vs H1 Q E) := by
  refine ⟨fun pins s σ H Q I h => ?_⟩
  refine wpAny_Call_Name_kw (ld_glob I hg hm ?_ hdb)
  refine PySem.W.callWith_K (h₀ := X.base) I.ok.mod.kin hk (thn (ha.run pos pins s σ H _ I h) fun us s1 ⟨vs, H1, I1, r, q⟩ => ⟨I1.kIn, ?_⟩) he hpl
  exact run_fnG F hr (bindsG (us := us) hb I1.kIn (by rw [← r.length]; exact F.len _ _ _ _ q)) hx I1 r q
theorem pe_callG0 (F : FnG X.prog X.w X.K X.mg X.base k f fd ps sp) (hr : RoomG k X.A) (hg : Gl X x) (hm : X.mg x = some (.ref f)) (hk : PySem.W.keepIn X.K (.ref f) = true) (hb : Binds X.K fd ps []) (hx : Passes (L2.CX X.prog X.w) X E)
    (hdb : (x == ("__debug__" : Str)) = false := by decide) : PE X (.Call (.Name x p) [] [] pos) (fun _ H Q => sp [] H Q E) := by
  refine ⟨fun pins s σ H Q I h => ?_⟩
  refine wpAny_Call_Name_kw (ld_glob I hg hm ?_ hdb)
  exact PySem.W.callWith_K0 I.kIn hk (run_fnG F hr (bindsG (us := []) hb I.kIn (F.len _ _ _ _ h)) hx I .nil h)
/-- how keywords alone bind: perm puts the keywords' values in the parameters' order -/
structure KwB (K : PySem.W.Frag) (fd : FuncData) (ps ks : List Str) (perm : List Nat) : Prop where
  to : ∀ (s : Shared) (ws : List Value), K.In s.heap → ws.length = ks.length → BindsTo s fd ⟨[], ks.zip ws⟩ (ps.zip (perm.map fun i => ws.getD i .none))
  lt : ∀ i ∈ perm, i < ks.length
theorem vals_perm {vs : List V} {us : List Value} (r : Vals vs us) : ∀ {perm : List Nat}, (∀ i ∈ perm, i < vs.length) → Vals (perm.map fun i => vs.getD i .non) (perm.map fun i => us.getD i .none)
  | [], _ => .nil
  | i :: perm, h => by
    have hi : i < vs.length := h i (by simp)
    have hi2 : i < us.length := by rw [← r.length]; exact hi
    obtain ⟨u, hu, ru⟩ := r.get (List.getElem?_eq_getElem hi)
    refine .cons ?_ (vals_perm r fun j hj => h j (by simp [hj]))
    rw [List.getElem?_eq_getElem hi2] at hu
    cases hu
    simpa [List.getD, hi, hi2] using ru
/-- f(k = e, ..) -/
theorem pe_callGk {perm : List Nat} (F : FnG X.prog X.w X.K X.mg X.base k f fd ps sp) (hr : RoomG k X.A) (hg : Gl X x) (hm : X.mg x = some (.ref f)) (hk : PySem.W.keepIn X.K (.ref f) = true) (hb : KwB X.K fd ps ks perm) (hx : Passes (L2.CX X.prog X.w) X E)
    (ha : PK X kws t) (hall : (backToKw pos (keywordEach kws X.env)).all (·.1.isSome) = true := by rfl) (hks : (backToKw pos (keywordEach kws X.env)).filterMap (·.1) = ks := by rfl)
    (hpl : ((backTo pos (starEach [] X.env)).any (·.1) || (backToKw pos (keywordEach kws X.env)).any (·.1.isNone)) = false := by rfl) (hdb : (x == ("__debug__" : Str)) = false := by decide) :
    PE X (.Call (.Name x p) [] kws pos) (fun σ H Q => t σ H fun vs H1 => vs.length = ks.length ∧ sp (perm.map fun i => vs.getD i .non) H1 Q E) := by
  refine ⟨fun pins s σ H Q I h => ?_⟩
  refine wpAny_Call_Name_kw (ld_glob I hg hm ?_ hdb)
  refine PySem.W.callWith_KW0 (h₀ := X.base) I.ok.mod.kin hk hall (thn (ha.run pos pins s σ H _ I h) fun ws s2 ⟨zs, H2, I2, rz, hl, q2⟩ => ⟨I2.kIn, ?_⟩) hpl
  rw [hks]
  have hl2 : ws.length = ks.length := rz.length.symm.trans hl
  exact run_fnG F hr (hb.to s2 ws I2.kIn hl2) hx I2 (vals_perm rz fun i hi => by rw [hl]; exact hb.lt i hi) q2
/-- a def that a value stands for -/
def IsFn (X : Cx) (k : Nat) (f : Addr) (sp : Sp) : Prop := ∃ fd ps, FnG X.prog X.w X.K X.mg X.base k f fd ps sp ∧ PySem.W.keepIn X.K (.ref f) = true ∧ Binds X.K fd ps []
/-- fe(e, ..), fe an expression that gives a def -/
theorem pe_callGx (hf : PE X fe tf) (hr : RoomG k X.A) (hx : Passes (L2.CX X.prog X.w) X E) (ha : PA X (e :: es) t)
    (ht : eval (.Call fe (e :: es) [] pos) X.env = (do callWith pos (← eval fe X.env) [] (backTo pos (starEach (e :: es) X.env)) (backToKw pos (keywordEach [] X.env))) := by rfl)
    (he : starEach (e :: es) X.env = (false, eval e X.env) :: starEach es X.env := by rfl) (hpl : (backTo pos (starEach es X.env)).any (·.1) = false := by rfl) :
    PE X (.Call fe (e :: es) [] pos) (fun σ H Q => tf σ H fun y H1 => ∃ f sp, y = .ref f ∧ IsFn X k f sp ∧ t σ H1 fun vs H2 => sp vs H2 Q E) := by
  refine ⟨fun pins s σ H Q I h => ?_⟩
  refine Call_ (thn (hf.run pins s σ H _ I h) fun u s1 ⟨y, H1, I1, ry, f, sp, ey, ⟨fd, ps, F, hk, hb⟩, q⟩ => ?_) ht
  subst ey
  obtain rfl : u = Value.ref f := ry
  refine PySem.W.callWith_K (h₀ := X.base) I.ok.mod.kin hk (thn (ha.run pos pins s1 σ H1 _ I1 q) fun us s2 ⟨vs, H2, I2, r, q2⟩ => ⟨I2.kIn, ?_⟩) he hpl
  exact run_fnG F hr (bindsG (us := us) hb I2.kIn (by rw [← r.length]; exact F.len _ _ _ _ q2)) hx I2 r q2
def IsFnK (X : Cx) (k : Nat) (f : Addr) (ks : List Str) (perm : List Nat) (sp : Sp) : Prop := ∃ fd ps, FnG X.prog X.w X.K X.mg X.base k f fd ps sp ∧ PySem.W.keepIn X.K (.ref f) = true ∧ KwB X.K fd ps ks perm
/-- fe(k = e, ..) -/
theorem pe_callGxk {perm : List Nat} (hf : PE X fe tf) (hr : RoomG k X.A) (hx : Passes (L2.CX X.prog X.w) X E) (ha : PK X kws t)
    (ht : eval (.Call fe [] kws pos) X.env = (do callWith pos (← eval fe X.env) [] (backTo pos (starEach [] X.env)) (backToKw pos (keywordEach kws X.env))) := by rfl)
    (hall : (backToKw pos (keywordEach kws X.env)).all (·.1.isSome) = true := by rfl) (hks : (backToKw pos (keywordEach kws X.env)).filterMap (·.1) = ks := by rfl)
    (hpl : ((backTo pos (starEach [] X.env)).any (·.1) || (backToKw pos (keywordEach kws X.env)).any (·.1.isNone)) = false := by rfl) :
    PE X (.Call fe [] kws pos) (fun σ H Q => tf σ H fun y H1 => ∃ f sp, y = .ref f ∧ IsFnK X k f ks perm sp ∧ t σ H1 fun vs H2 => vs.length = ks.length ∧ sp (perm.map fun i => vs.getD i .non) H2 Q E) := by
  refine ⟨fun pins s σ H Q I h => ?_⟩
  rw [ht]
  refine wpAny_bind (thn (hf.run pins s σ H _ I h) fun u s1 ⟨y, H1, I1, ry, f, sp, ey, ⟨fd, ps, F, hk, hb⟩, q⟩ => ?_)
  subst ey
  obtain rfl : u = Value.ref f := ry
  refine PySem.W.callWith_KW0 (h₀ := X.base) I.ok.mod.kin hk hall (thn (ha.run pos pins s1 σ H1 _ I1 q) fun ws s2 ⟨zs, H2, I2, rz, hl, q2⟩ => ⟨I2.kIn, ?_⟩) hpl
  rw [hks]
  have hl2 : ws.length = ks.length := rz.length.symm.trans hl
  exact run_fnG F hr (hb.to s2 ws I2.kIn hl2) hx I2 (vals_perm rz fun i hi => by rw [hl]; exact hb.lt i hi) q2
end
/-- THE HEAD -/
theorem law_callG {P : Program} {w : World} {K : PySem.W.Frag} {mg mb : Str → Option Value} {k : Nat} {fa a : Addr} {fd : FuncData} {x : Str} {sp : Sp} {s₁ : Shared} {vs : List Value} {ns : List Int}
    (KX : K.In s₁.heap) (hns : s₁.heap.Ns mainGlobals mg) (hb : s₁.heap.Ns builtinsNs mb) (hbb : ∀ x : Str, x ≠ "__name__" → mb x = bootBuiltins x) (hlim : s₁.heap.NoLimit) (hg : s₁.gens = #[])
    (ha : s₁.heap.get? a = some { cls := .type "list", data := .seq vs.toArray }) (hi : IntsAre vs ns) (hl : ns.length ≤ sizeLine) (hr : RoomG k callerA)
    (F : ∀ base : Heap, K.In base → base.Ns mainGlobals mg → FnG P w K mg base k fa fd [x] sp) (hbind : ∀ (s : Shared) (u : Value), BindsTo s fd ⟨[u], []⟩ [(x, u)])
    (hsp : ∀ H : Hp, Only H → SqL K H a (ns.map V.int) → sp [.ref a] H (fun v _ => v = .bl true) fun _ _ _ => False)
    (hCX : ∀ H e s', L2.CX P w [] H s₁ (fun _ _ _ => False) e s' → False) :
    codeAny (model P w) callerA (.call (.ref fa) ⟨[.ref a], []⟩) (fun r s' => r = .ok (.ret (.bool true)) ∧ OldK s₁.heap s'.heap ∧ s'.os = s₁.os ∧ AllBare s'.gens) s₁ := by
  have rv := vals_ints hi
  have lenV := hi.length
  have core : ∀ H : Hp, Only H → SqL K H a (ns.map V.int) → HOk P w H s₁.heap → (∀ b, H b ≠ none → b = a) → (H a ≠ none → K.lookup a = none) →
      codeAny (model P w) callerA (.call (.ref fa) ⟨[.ref a], []⟩) (fun r s' => r = .ok (.ret (.bool true)) ∧ OldK s₁.heap s'.heap ∧ s'.os = s₁.os ∧ AllBare s'.gens) s₁ := by
    intro H hO hS hok hA hK
    have base_of : ∀ {b : Addr} {o : Obj}, s₁.heap.get? b = some o → H b = none → (hidT s₁.heap H).get? b = some o := fun e n => hidT_get e n
    have noA : ∀ {b : Addr} {o : Obj} {es : Array DictEntry} {ep : Nat}, s₁.heap.get? b = some o → o.data = .dict es ep → H b = none := fun {b o es ep} e d => by
      cases q : H b with
      | none => rfl
      | some u =>
        have e' : b = a := hA b (by rw [q]; simp)
        subst e'
        rw [ha] at e; cases e
        have d' : Data.seq vs.toArray _ = Data.dict es ep := d
        cases d'
    have nsK : ∀ {b : Addr} {m : Str → Option Value}, s₁.heap.Ns b m → (hidT s₁.heap H).Ns b m := fun {b m} ⟨o, es, ep, e, d, r⟩ => ⟨o, es, ep, base_of e (noA e d), d, r⟩
    have hKb : K.In (hidT s₁.heap H) := fun b o e => base_of (KX b o e) (by
      cases q : H b with
      | none => rfl
      | some u =>
        have e' : b = a := hA b (by rw [q]; simp)
        subst e'
        rw [hK (by rw [q]; simp)] at e; cases e)
    have hM : Mod K mg (hidT s₁.heap H) := ⟨hKb, nsK hns, ⟨mb, nsK hb, hbb⟩, let ⟨mc, h1, h2⟩ := hlim; ⟨mc, nsK h1, h2⟩⟩
    have e0 : Env0 P w K mg (hidT s₁.heap H) callerA [] s₁ H := ⟨rfl, hM, fun b o e => of_hidT e, Nat.le_of_eq (hidT_size _ _), trivial, fun b hb => absurd (show b ∈ ([] : List Addr) from hb) (by simp), hok, .of_eq hg⟩
    refine codeAny_mono ((F _ hKb (nsK hns)).run callerA [] s₁ H ⟨[.ref a], []⟩ [.ref a] [.ref a] _ _ hr e0 (hbind s₁ (.ref a)) (.cons rfl .nil) (hsp H hO hS)) fun r s' h => ?_
    cases r with
    | error e => exact (hCX H e s' h).elim
    | ok fl =>
      cases fl with
      | next => exact False.elim h
      | brk => exact False.elim h
      | cont => exact False.elim h
      | ret u =>
        obtain ⟨v, H', os, bare, un, hok', r', q⟩ := h
        have q' : v = .bl true := q
        subst q'
        obtain rfl : u = Value.bool true := r'
        refine ⟨rfl, OldK.of_keep fun b o e => ?_, os, bare⟩
        cases q : H b with
        | none => exact un.keep b o e q (by intro z; exact absurd (show b ∈ ([] : List Addr) from z) (by simp)) (by simp)
        | some u =>
          rcases hO b with z | ⟨ob, xs, z⟩
          · rw [q] at z; cases z
          · have z2 := un.frzs b ob _ z
            obtain ⟨e1, _⟩ := hok b _ z
            obtain ⟨e2, _⟩ := hok' b _ z2
            rw [e] at e1; cases e1
            exact e2
  cases hk : K.lookup a with
  | some o =>
    have e := KX a o hk
    rw [ha] at e
    cases e
    refine core (fun _ => none) (fun _ => .inl rfl) (.inr ⟨_, vs.toArray, _, hk, rfl, rfl, rfl, by rw [List.size_toArray, lenV]; exact hl, by simpa using rv⟩) (fun b u z => by have z' : (none : Option HO) = some u := z; cases z') (fun b z => absurd rfl z) fun z => absurd rfl z
  | none =>
    refine core (fun b => if b = a then some (.frz { cls := .type "list", data := .seq vs.toArray } (.lst (ns.map V.int))) else none) (fun b => ?_) (.inl (.inr ⟨{ cls := .type "list", data := .seq vs.toArray }, if_pos rfl⟩)) (fun b u z => ?_) (fun b z => ?_) fun _ => hk
    · by_cases hb : b = a
      · exact .inr ⟨_, _, if_pos hb⟩
      · exact .inl (if_neg hb)
    · by_cases hb : b = a
      · have z' := (if_pos hb).symm.trans z
        cases z'
        subst hb
        exact ⟨ha, by rw [List.length_map]; exact hl, vs, _, rv, ha⟩
      · have z' := (if_neg hb).symm.trans z
        cases z'
    · by_cases hb : b = a
      · exact hb
      · exact absurd (if_neg hb) z
theorem walk_ofG {l : PySem.W.OpenLaw} {n k : Nat} {q : Program} {loose : List Str} {XP : (Str → Option Value) → Heap → Prop} {YP : World → Heap → Prop} {d : DefRec} {K : Params → PySem.W.Frag} {sp : World → PySem.W.Frag → (Str → Option Value) → Sp} {x : Str}
    (hn : l.most = some n) (hn2 : n ≤ sizeLine) (hdf : d.params.defaults = []) (hr : RoomG k callerA)
    (hY : ∀ (w : World) (h : Heap), YP w h → (K w.params).In h)
    (F : ∀ (w : World) (mg : Str → Option Value) (fa : Addr) (h : Heap), (K w.params).In h → h.Ns mainGlobals mg → mg d.name = some (.ref fa) →
      ∃ fd : FuncData, (∀ (s : Shared) (u : Value), BindsTo s fd ⟨[u], []⟩ [(x, u)]) ∧
        ∀ base : Heap, (K w.params).In base → base.Ns mainGlobals mg → FnG l.prog w (K w.params) mg base k fa fd [x] (sp w (K w.params) mg))
    (hsp : ∀ (w : World) (mg : Str → Option Value) (h : Heap) (H : Hp) (a : Addr) (ns : List Int), ns.length ≤ n → (∀ z ∈ ns, Builtin.Int.intBits z ≤ 1048576) → Only H → SqL (K w.params) H a (ns.map V.int) → sp w (K w.params) mg [.ref a] H (fun v _ => v = .bl true) fun _ _ _ => False)
    (hCX : ∀ (w : World) (H : Hp) (s : Shared) (e : Value) (s' : Shared), L2.CX l.prog w [] H s (fun _ _ _ => False) e s' → False) :
    PySem.W.WalkO q loose XP YP l.row.toRowW d [] (fun f vs => PySem.call f vs) := by
  refine Att.attach_callB hn hdf fun w s₀ s₁ mg mb fa o pm cd doc a vs ns G Y ho hd hcd hmg hobj hints hlen hbits hg => ?_
  have KX := hY w _ Y
  obtain ⟨fd, hb, hF⟩ := F w mg fa _ KX G.T.g hmg
  exact law_callG KX G.T.g G.T.b G.T.builtins G.T.nolimit hg hobj hints (Nat.le_trans hlen hn2) hr hF hb (fun H hO hS => hsp w mg s₁.heap H a ns hlen hbits hO hS) fun H e s' => hCX w H s₁ e s'
end Dn
set_option autoImplicit false
set_option Elab.async false
set_option linter.all false
set_option maxRecDepth 100000
/-! DenV: defs and their calls. -/
namespace Dn
open PySem PySem.Spec PyProof.Rows L2

/-- what a def promises: m, run at what the arguments stand for -/
def spD (L : Lk) (K : PySem.W.Frag) (np : Nat) (m : Fn) : Sp := fun vs H Q E => vs.length = np ∧ ∃ w os, w.H = H ∧ StOk L K (vs.map some) w (os.map some) ∧ match m os with
  | .bad => False
  | .exc c outs => ∀ w' ca, L.exc c = some ca → Stp w w' → StOk L K (vs.map some) w' outs → E (.ref ca) none w'.H
  | .ret o outs => ∀ w' v F, Stp w w' → StOk L K (vs.map some) w' outs → Own L K w'.C w'.H o v F → Dis w w' F → Q v w'.H
theorem getD_lt {α : Type} {l : List α} {i : Nat} {d : α} (h : i < l.length) : l.getD i d = l[i] := by simp [List.getD, h]
theorem getD_ge {α : Type} {l : List α} {i : Nat} {d : α} (h : l.length ≤ i) : l.getD i d = d := by simp [List.getD, h]
section
variable {L : Lk} {K : PySem.W.Frag} {σ σ' : L2.St} {w w1 w2 : Wl} {δ δ1 δ2 : Sl} {E : XK} {H : Hp} {Q : VK}
theorem outsL_len : ∀ (os : List O) (δ : Sl), (outsL os δ).length = os.length
  | [], _ => by unfold outsL; rfl
  | o :: os, [] => by unfold outsL; rw [List.length_cons, List.length_cons, outsL_len os []]
  | o :: os, s :: δ => by unfold outsL; rw [List.length_cons, List.length_cons, outsL_len os δ]
theorem outsL_get : ∀ (os : List O) (δ : Sl) (i : Nat) (o : O), (outsL os δ)[i]? = some (some o) → lent os i = true ∧ δ[i]? = some (some o)
  | [], _, i, o, h => by unfold outsL at h; simp at h
  | p :: os, [], 0, o, h => by unfold outsL at h; simp at h
  | p :: os, [], i + 1, o, h => by
    unfold outsL at h
    rw [List.getElem?_cons_succ] at h
    have := (outsL_get os [] i o h).2
    simp at this
  | p :: os, s :: δ, 0, o, h => by
    unfold outsL at h
    rw [List.getElem?_cons_zero] at h
    by_cases hp : isOpen p = true
    · rw [if_pos hp] at h
      exact ⟨hp, by rw [List.getElem?_cons_zero]; exact h⟩
    · rw [if_neg hp] at h; cases h
  | p :: os, s :: δ, i + 1, o, h => by
    unfold outsL at h
    rw [List.getElem?_cons_succ] at h
    obtain ⟨a, b⟩ := outsL_get os δ i o h
    exact ⟨by unfold lent at a ⊢; rw [List.getElem?_cons_succ]; exact a, by rw [List.getElem?_cons_succ]; exact b⟩
/-- a state seen at fewer slots -/
theorem outs_ok {vs : List V} {n : Nat} {os : List O} (st : StOk L K σ' w δ) (l : LkOk (lent os) (vs.map some ++ List.replicate n none) σ') (hl : vs.length = os.length) :
    StOk L K (vs.map some) ⟨w.C, w.H, fun i => if ((outsL os δ)[i]?.bind id).isSome then w.Fs i else []⟩ (outsL os δ) := by
  refine ⟨by rw [outsL_len, List.length_map, hl], st.le, fun i o h => ?_, fun i h => ?_, fun i => ?_, fun i j a h1 h2 => ?_, fun i a h => ?_⟩
  · obtain ⟨a, b⟩ := outsL_get os δ i o h
    obtain ⟨v, e1, e2⟩ := st.sl i o b
    rw [l.2 i a] at e1
    have hi : i < vs.length := by
      have := lt_of_get h
      rw [outsL_len] at this; omega
    rw [List.getElem?_append_left (by simpa using hi)] at e1
    refine ⟨v, e1, ?_⟩
    have e3 : (if ((outsL os δ)[i]?.bind id).isSome then w.Fs i else []) = w.Fs i := by rw [h]; rfl
    show Own L K w.C w.H o v (if ((outsL os δ)[i]?.bind id).isSome then w.Fs i else [])
    rw [e3]; exact e2
  · show (if ((outsL os δ)[i]?.bind id).isSome then w.Fs i else []) = []
    split
    · rename_i hh
      cases e : (outsL os δ)[i]? with
      | none => rw [e] at hh; simp at hh
      | some p =>
        cases p with
        | none => rw [e] at hh; simp at hh
        | some o => exact absurd e (h o)
    · rfl
  · show (if ((outsL os δ)[i]?.bind id).isSome then w.Fs i else []).Nodup
    split
    · exact st.nd i
    · exact List.nodup_nil
  · have h1 : a ∈ (if ((outsL os δ)[i]?.bind id).isSome then w.Fs i else []) := h1
    have h2 : a ∈ (if ((outsL os δ)[j]?.bind id).isSome then w.Fs j else []) := h2
    split at h1
    · split at h2
      · exact st.dj i j a h1 h2
      · simp at h2
    · simp at h1
  · have h : a ∈ (if ((outsL os δ)[i]?.bind id).isSome then w.Fs i else []) := h
    split at h
    · exact st.op i a h
    · simp at h
theorem Stp.sub (s : Stp w w1) {f : Nat → Bool} : Stp w ⟨w1.C, w1.H, fun i => if f i then w1.Fs i else []⟩ :=
  ⟨s.c, s.keep, s.live, s.newC, fun i a h => by
    have h : a ∈ (if f i then w1.Fs i else []) := h
    split at h
    · exact s.newF i a h
    · simp at h⟩
theorem Dis.sub {F : List Addr} (d : Dis w w1 F) {f : Nat → Bool} : Dis w ⟨w1.C, w1.H, fun i => if f i then w1.Fs i else []⟩ F :=
  ⟨d.nd, d.cn, fun a ha i h => by
    have h : a ∈ (if f i then w1.Fs i else []) := h
    split at h
    · exact d.fs a ha i h
    · simp at h, d.og⟩
/-- the entry: further names -/
theorem StOk.entry {vs : List V} {os : List O} {n : Nat} (st : StOk L K (vs.map some) w (os.map some)) : StOk L K (vs.map some ++ List.replicate n none) w (os.map some ++ List.replicate n none) := by
  have hl : os.length = vs.length := by simpa using st.len
  refine ⟨by simp [hl], st.le, fun i o h => ?_, fun i h => ?_, st.nd, st.dj, st.op⟩
  · by_cases hi : i < os.length
    · rw [List.getElem?_append_left (by simpa using hi)] at h
      obtain ⟨v, e1, e2⟩ := st.sl i o h
      exact ⟨v, by rw [List.getElem?_append_left (by simp; omega)]; exact e1, e2⟩
    · rw [List.getElem?_append_right (by simpa using hi), List.getElem?_replicate] at h
      split at h <;> cases h
  · refine st.nil i fun p hp => ?_
    have hi : i < os.length := by simpa using lt_of_get hp
    exact h p (by rw [List.getElem?_append_left (by simpa using hi)]; exact hp)
end
section
variable {P : Program} {w : World} {K : PySem.W.Frag} {mg : Str → Option Value} {base : Heap} {L : Lk}
/-- THE RULE: a def whose body is what Den says -/
theorem fn_run {x qual : Str} {st : Stmt} {f : Addr} {fd : FuncData} {N ps : List Str} {k : Nat} {body : SM} (F : Fun K x qual st f fd) (S : FnScope N ps (defScope st))
    (hb : ∀ (cdv : Value) (A : Around) (outer : List Env) (s : Shared) (H : Hp) (E : XK) (lk : Nat → Bool), RoomG k (A.deeper (envOfC qual (defScope st) s.heap.objs.size f cdv)) → XOk (cxOf (L2.CX P w) P w K mg base N qual (defScope st) f cdv A outer s H E) E →
      PSts (cxOf (L2.CX P w) P w K mg base N qual (defScope st) f cdv A outer s H E) L E lk (defBody st) body) :
    FnG P w K mg base (k + 1) f fd ps (spD L K ps.length (run ps.length (N.length - ps.length) body)) := by
  refine fnG_ok F S (fun vs H Q E h => h.1) (fun cdv A outer s H vs Q E hr h => ?_)
  obtain ⟨hl, wl, os, eH, st0, hm⟩ := h
  have hos : os.length = vs.length := by simpa using st0.len
  have tk : Takes (cxOf (L2.CX P w) P w K mg base N qual (defScope st) f cdv A outer s H E) (fun cls d _ H => E cls d H) := takes_of rfl rfl rfl rfl
  refine ⟨_, hb cdv A outer s H E (lent os) hr ⟨passes_call tk fun _ _ _ _ h => h, tk, passes_of rfl, rfl⟩, ?_⟩
  have hN : N.length - vs.length = N.length - ps.length := by rw [hl]
  refine ⟨wl, os.map some ++ List.replicate (N.length - ps.length) none, eH, ?_, ?_⟩
  · show StOk L K (vs.map some ++ List.replicate (N.length - vs.length) none) _ _
    rw [hN]
    exact st0.entry
  · show FinS L K E _ (lent os) (vs.map some ++ List.replicate (N.length - vs.length) none) wl _
    unfold run at hm
    rw [if_neg (by simpa using hos.trans hl)] at hm
    cases e : body (lent os) (os.map some ++ List.replicate (N.length - ps.length) none) with
    | bad => rw [e] at hm; exact hm
    | bk δ => rw [e] at hm; exact hm.elim
    | ct δ => rw [e] at hm; exact hm.elim
    | exc c δ =>
      rw [e] at hm
      exact fun w' σ' ca hc s' k' l' => hm ⟨w'.C, w'.H, fun i => if ((outsL os δ)[i]?.bind id).isSome then w'.Fs i else []⟩ ca hc s'.sub (outs_ok k' l' hos.symm)
    | nx δ =>
      rw [e] at hm
      exact fun w' σ' s' k' l' => hm ⟨w'.C, w'.H, fun i => if ((outsL os δ)[i]?.bind id).isSome then w'.Fs i else []⟩ .non [] s'.sub (outs_ok k' l' hos.symm) ⟨rfl, rfl⟩ (Dis.nil _ _)
    | rt o δ =>
      rw [e] at hm
      exact fun w' σ' v F s' k' l' ho d => hm ⟨w'.C, w'.H, fun i => if ((outsL os δ)[i]?.bind id).isSome then w'.Fs i else []⟩ v F s'.sub (outs_ok k' l' hos.symm) ho d.sub
end

/-! ### calls -/
section
variable {L : Lk} {K : PySem.W.Frag} {σ σ' : L2.St} {w w0 w1 w2 : Wl} {δ δ1 δ2 : Sl} {E : XK} {H : Hp} {Q : VK}
/-- values in hand, one by one -/
def OwnL (L : Lk) (K : PySem.W.Frag) (C H : Hp) : List O → List V → List (List Addr) → Prop
  | [], vs, Gs => vs = [] ∧ Gs = []
  | o :: os, vs, Gs => ∃ v vs' G Gs', vs = v :: vs' ∧ Gs = G :: Gs' ∧ Own L K C H o v G ∧ OwnL L K C H os vs' Gs'
theorem OwnL.len : ∀ {os : List O} {vs : List V} {Gs : List (List Addr)} {C H : Hp}, OwnL L K C H os vs Gs → os.length = vs.length ∧ os.length = Gs.length
  | [], _, _, _, _, h => by obtain ⟨rfl, rfl⟩ := h; exact ⟨rfl, rfl⟩
  | o :: os, _, _, _, _, h => by
    obtain ⟨v, vs', G, Gs', rfl, rfl, _, h4⟩ := h
    have := OwnL.len h4
    simp only [List.length_cons]; omega
theorem OwnL.get : ∀ {os : List O} {vs : List V} {Gs : List (List Addr)} {C H : Hp} {i : Nat} {o : O}, OwnL L K C H os vs Gs → os[i]? = some o → ∃ v, vs[i]? = some v ∧ Own L K C H o v (Gs.getD i [])
  | [], _, _, _, _, _, _, _, e => by simp at e
  | o :: os, _, _, _, _, 0, p, h, e => by
    obtain ⟨v, vs', G, Gs', rfl, rfl, h3, h4⟩ := h
    cases e
    exact ⟨v, rfl, h3⟩
  | o :: os, _, _, _, _, i + 1, p, h, e => by
    obtain ⟨v, vs', G, Gs', rfl, rfl, h3, h4⟩ := h
    obtain ⟨v', a, b⟩ := OwnL.get (i := i) h4 e
    exact ⟨v', a, b⟩
theorem lend_ok : ∀ {hs : List Hd} {δ δt : Sl} {w1 : Wl} {vs : List V} {F : List Addr} {os : List O}, StOk L K σ w1 δ → HdsOk L K σ w1 hs vs F → F.Nodup → (∀ a ∈ F, w1.C a = none) → (∀ a ∈ F, ∀ i, a ∉ w1.Fs i) → lend δ hs = some (os, δt) →
    ∃ (Fs : Nat → List Addr) (Gs : List (List Addr)), StOk L K σ ⟨w1.C, w1.H, Fs⟩ δt ∧ OwnL L K w1.C w1.H os vs Gs ∧ Gs.flatten.Nodup ∧ (∀ a ∈ Gs.flatten, w1.C a = none ∧ (∀ i, a ∉ Fs i) ∧ ((∃ i, a ∈ w1.Fs i) ∨ a ∈ F)) ∧ (∀ i a, a ∈ Fs i → a ∈ w1.Fs i)
  | [], δ, δt, w1, vs, F, os, st, hk, nd, cn, fs, e => by
    unfold lend at e
    cases e
    exact ⟨w1.Fs, [], st, ⟨hk.1, rfl⟩, List.nodup_nil, by simp, fun _ _ h => h⟩
  | .tm o :: r, δ, δt, w1, vs, F, os, st, hk, nd, cn, fs, e => by
    obtain ⟨v, vs', F1, F2, rfl, rfl, h3, h4⟩ := hk
    unfold lend at e
    split at e
    · rename_i os' δ' e2
      cases e
      have n12 := List.nodup_append.mp nd
      obtain ⟨Fs, Gs, a1, a2, a3, a4, a5⟩ := lend_ok st h4 n12.2.1 (fun a ha => cn a (by simp [ha])) (fun a ha => fs a (by simp [ha])) e2
      refine ⟨Fs, F1 :: Gs, a1, ⟨v, vs', F1, Gs, rfl, rfl, h3, a2⟩, ?_, fun a ha => ?_, a5⟩
      · rw [List.flatten_cons]
        refine List.nodup_append.mpr ⟨n12.1, a3, fun a ha b hb z => ?_⟩
        subst z
        rcases (a4 a hb).2.2 with ⟨i, q⟩ | q
        · exact fs a (by simp [ha]) i q
        · exact n12.2.2 a ha a q rfl
      · rw [List.flatten_cons] at ha
        rcases List.mem_append.mp ha with h | h
        · exact ⟨cn a (by simp [h]), fun i hi => fs a (by simp [h]) i (a5 i a hi), .inr (by simp [h])⟩
        · obtain ⟨b1, b2, b3⟩ := a4 a h
          refine ⟨b1, b2, ?_⟩
          rcases b3 with q | q
          · exact .inl q
          · exact .inr (by simp [q])
    · cases e
  | .sl i :: r, δ, δt, w1, vs, F, os, st, hk, nd, cn, fs, e => by
    obtain ⟨v, vs', F1, F2, rfl, rfl, h3, h4⟩ := hk
    obtain ⟨h3, rfl⟩ := h3
    rw [List.nil_append] at nd cn fs ⊢
    unfold lend at e
    split at e
    · rename_i o ho
      obtain ⟨v', e1, e2⟩ := st.sl i o ho
      rw [h3] at e1
      cases e1
      have hi := lt_of_get ho
      split at e
      · rename_i os' δ' e3
        cases e
        by_cases hop : isOpen o = true
        · rw [if_pos hop] at e3
          have st2 := st.take hi
          have fs2 : ∀ a ∈ F2, ∀ j, a ∉ (⟨w1.C, w1.H, updF w1.Fs i []⟩ : Wl).Fs j := fun a ha j hj => by
            have hj : a ∈ updF w1.Fs i [] j := hj
            by_cases hji : j = i
            · rw [hji, updF_same] at hj; simp at hj
            · rw [updF_ne hji] at hj; exact fs a ha j hj
          have h4' : HdsOk L K σ (⟨w1.C, w1.H, updF w1.Fs i []⟩ : Wl) r vs' F2 := by
            have : ∀ {hs : List Hd} {vs : List V} {F : List Addr}, HdsOk L K σ w1 hs vs F → HdsOk L K σ (⟨w1.C, w1.H, updF w1.Fs i []⟩ : Wl) hs vs F := by
              intro hs
              induction hs with
              | nil => intro vs F h; exact h
              | cons h r ih =>
                intro vs F q
                obtain ⟨v, vs', F1, F2, q1, q2, q3, q4⟩ := q
                refine ⟨v, vs', F1, F2, q1, q2, ?_, ih q4⟩
                cases h <;> exact q3
            exact this h4
          obtain ⟨Fs, Gs, a1, a2, a3, a4, a5⟩ := lend_ok st2 h4' nd cn fs2 e3
          have a5' : ∀ j a, a ∈ Fs j → a ∈ w1.Fs j ∧ j ≠ i := fun j a ha => by
            have q : a ∈ updF w1.Fs i [] j := a5 j a ha
            by_cases hji : j = i
            · rw [hji, updF_same] at q; simp at q
            · rw [updF_ne hji] at q; exact ⟨q, hji⟩
          refine ⟨Fs, w1.Fs i :: Gs, a1, ⟨v, vs', w1.Fs i, Gs, rfl, rfl, e2, a2⟩, ?_, fun a ha => ?_, fun j a ha => (a5' j a ha).1⟩
          · rw [List.flatten_cons]
            refine List.nodup_append.mpr ⟨st.nd i, a3, fun a ha b hb z => ?_⟩
            subst z
            rcases (a4 a hb).2.2 with ⟨j, q⟩ | q
            · have q : a ∈ updF w1.Fs i [] j := q
              by_cases hji : j = i
              · rw [hji, updF_same] at q; simp at q
              · rw [updF_ne hji] at q
                exact hji (st.dj j i a q ha)
            · exact fs a q i ha
          · rw [List.flatten_cons] at ha
            rcases List.mem_append.mp ha with h | h
            · exact ⟨st.op i a h, fun j hj => (a5' j a hj).2 (st.dj j i a (a5' j a hj).1 h), .inl ⟨i, h⟩⟩
            · obtain ⟨b1, b2, b3⟩ := a4 a h
              refine ⟨b1, b2, ?_⟩
              rcases b3 with ⟨j, q⟩ | q
              · have q : a ∈ updF w1.Fs i [] j := q
                by_cases hji : j = i
                · rw [hji, updF_same] at q; simp at q
                · rw [updF_ne hji] at q; exact .inl ⟨j, q⟩
              · exact .inr q
        · rw [if_neg hop] at e3
          obtain ⟨Fs, Gs, a1, a2, a3, a4, a5⟩ := lend_ok st h4 nd cn fs e3
          have hd : ∃ x, o = .d x := by cases o <;> first | exact ⟨_, rfl⟩ | exact absurd rfl hop
          obtain ⟨x, rfl⟩ := hd
          have e0 : w1.Fs i = [] := e2.1
          refine ⟨Fs, [] :: Gs, a1, ⟨v, vs', [], Gs, rfl, rfl, ⟨rfl, e2.2⟩, a2⟩, ?_, fun a ha => ?_, a5⟩
          · rw [List.flatten_cons, List.nil_append]; exact a3
          · rw [List.flatten_cons, List.nil_append] at ha
            exact a4 a ha
      · cases e
    · cases e
/-- what the callee sees -/
theorem callee_ok {os : List O} {vs : List V} {Gs : List (List Addr)} (le : Ext w1.C w1.H) (h : OwnL L K w1.C w1.H os vs Gs) (nd : Gs.flatten.Nodup) (cn : ∀ a ∈ Gs.flatten, w1.C a = none) :
    StOk L K (vs.map some) ⟨w1.C, w1.H, fun i => Gs.getD i []⟩ (os.map some) := by
  have hm : ∀ i a, a ∈ Gs.getD i [] → a ∈ Gs.flatten := fun i a ha => by
    by_cases hi : i < Gs.length
    · rw [getD_lt hi] at ha
      exact List.mem_flatten.mpr ⟨_, List.getElem_mem hi, ha⟩
    · rw [getD_ge (by omega)] at ha; simp at ha
  have ln := h.len
  refine ⟨by simp [ln.1], le, fun i o e => ?_, fun i e => ?_, fun i => ?_, fun i j a h1 h2 => ?_, fun i a ha => cn a (hm i a ha)⟩
  · rw [List.getElem?_map] at e
    cases e1 : os[i]? with
    | none => rw [e1] at e; cases e
    | some p =>
      rw [e1] at e
      cases e
      obtain ⟨v, a, b⟩ := h.get e1
      exact ⟨v, by rw [List.getElem?_map, a]; rfl, b⟩
  · show Gs.getD i [] = []
    refine getD_ge ?_
    refine Nat.le_of_not_lt fun hi => ?_
    have hi' : i < os.length := by omega
    exact e os[i] (by rw [List.getElem?_map, List.getElem?_eq_getElem hi']; rfl)
  · show (Gs.getD i []).Nodup
    by_cases hi : i < Gs.length
    · rw [getD_lt hi]
      exact (List.pairwise_flatten.mp nd).1 _ (List.getElem_mem hi)
    · rw [getD_ge (by omega)]; exact List.nodup_nil
  · have h1 : a ∈ Gs.getD i [] := h1
    have h2 : a ∈ Gs.getD j [] := h2
    have hi : i < Gs.length := Nat.lt_of_not_le fun z => by rw [getD_ge z] at h1; simp at h1
    have hj : j < Gs.length := Nat.lt_of_not_le fun z => by rw [getD_ge z] at h2; simp at h2
    rw [getD_lt hi] at h1
    rw [getD_lt hj] at h2
    have pw := List.pairwise_iff_getElem.mp (List.pairwise_flatten.mp nd).2
    rcases Nat.lt_trichotomy i j with z | z | z
    · exact absurd rfl (pw i j hi hj z a h1 a h2)
    · exact z
    · exact absurd rfl (pw j i hj hi z a h2 a h1)
end
end Dn
set_option autoImplicit false
set_option Elab.async false
set_option linter.all false
set_option maxRecDepth 100000
/-! DenW: calls. -/
namespace Dn
open PySem PySem.Spec PyProof.Rows L2
section
variable {L : Lk} {K : PySem.W.Frag} {σ σ' : L2.St} {w w0 w1 w2 : Wl} {δ δ1 δ2 : Sl} {E : XK} {H : Hp} {Q : VK}
theorem HdsOk.cons_inv {h : Hd} {r : List Hd} {vs : List V} {F : List Addr} (q : HdsOk L K σ w (h :: r) vs F) : ∃ v vs' F1 F2, vs = v :: vs' ∧ F = F1 ++ F2 ∧ HdOk L K σ w h v F1 ∧ HdsOk L K σ w r vs' F2 := q
theorem giveBack_ok {C H : Hp} {Ws : Nat → List Addr} {w1 : Wl} (nd : ∀ k, (Ws k).Nodup) (dj : ∀ i k a, a ∈ Ws i → a ∈ Ws k → i = k) (cn : ∀ k a, a ∈ Ws k → C a = none) :
    ∀ {hs : List Hd} {os : List O} {vs : List V} {F : List Addr} {outs δ : Sl} {Fs : Nat → List Addr} (j : Nat), StOk L K σ ⟨C, H, Fs⟩ δ → HdsOk L K σ w1 hs vs F →
      (∀ k o, outs[k]? = some (some o) → ∃ v, vs[k]? = some v ∧ Own L K C H o v (Ws (j + k))) → (∀ k a, j ≤ k → a ∈ Ws k → ∀ i, a ∉ Fs i) →
      ∃ Fs' : Nat → List Addr, StOk L K σ ⟨C, H, Fs'⟩ (giveBack δ hs os outs) ∧ ∀ i a, a ∈ Fs' i → (∃ i', a ∈ Fs i') ∨ ∃ k, a ∈ Ws k
  | [], os, vs, F, outs, δ, Fs, j, st, hk, ho, fr => by
    have e : giveBack δ [] os outs = δ := by unfold giveBack; rfl
    exact ⟨Fs, by rw [e]; exact st, fun i a h => .inl ⟨i, h⟩⟩
  | .tm o :: r, [], vs, F, outs, δ, Fs, j, st, hk, ho, fr => by
    have e : giveBack δ (.tm o :: r) [] outs = δ := by unfold giveBack; rfl
    exact ⟨Fs, by rw [e]; exact st, fun i a h => .inl ⟨i, h⟩⟩
  | .tm o :: r, p :: os, vs, F, [], δ, Fs, j, st, hk, ho, fr => by
    have e : giveBack δ (.tm o :: r) (p :: os) [] = δ := by unfold giveBack; rfl
    exact ⟨Fs, by rw [e]; exact st, fun i a h => .inl ⟨i, h⟩⟩
  | .tm o :: r, p :: os, vs, F, s :: outs, δ, Fs, j, st, hk, ho, fr => by
    obtain ⟨v, vs', F1, F2, rfl, rfl, h3, h4⟩ := hk.cons_inv
    have e : giveBack δ (.tm o :: r) (p :: os) (s :: outs) = giveBack δ r os outs := by rw [giveBack]
    rw [e]
    refine giveBack_ok nd dj cn (j + 1) st h4 (fun k o' hk' => ?_) fun k a hjk ha i => fr k a (by omega) ha i
    obtain ⟨v', a, b⟩ := ho (k + 1) o' (by rw [List.getElem?_cons_succ]; exact hk')
    exact ⟨v', by rw [List.getElem?_cons_succ] at a; exact a, by rw [show j + 1 + k = j + (k + 1) by omega]; exact b⟩
  | .sl i :: r, [], vs, F, outs, δ, Fs, j, st, hk, ho, fr => by
    have e : giveBack δ (.sl i :: r) [] outs = δ := by unfold giveBack; rfl
    exact ⟨Fs, by rw [e]; exact st, fun i a h => .inl ⟨i, h⟩⟩
  | .sl i :: r, p :: os, vs, F, [], δ, Fs, j, st, hk, ho, fr => by
    have e : giveBack δ (.sl i :: r) (p :: os) [] = δ := by unfold giveBack; rfl
    exact ⟨Fs, by rw [e]; exact st, fun i a h => .inl ⟨i, h⟩⟩
  | .sl i :: r, p :: os, vs, F, s :: outs, δ, Fs, j, st, hk, ho, fr => by
    obtain ⟨v, vs', F1, F2, rfl, rfl, h3, h4⟩ := hk.cons_inv
    obtain ⟨h3, rfl⟩ := h3
    have e : giveBack δ (.sl i :: r) (p :: os) (s :: outs) = giveBack (if isOpen p = true then δ.set i s else δ) r os outs := by rw [giveBack]
    rw [e]
    have ho' : ∀ k o, outs[k]? = some (some o) → ∃ v, vs'[k]? = some v ∧ Own L K C H o v (Ws (j + 1 + k)) := fun k o' hk' => by
      obtain ⟨v', a, b⟩ := ho (k + 1) o' (by rw [List.getElem?_cons_succ]; exact hk')
      exact ⟨v', by rw [List.getElem?_cons_succ] at a; exact a, by rw [show j + 1 + k = j + (k + 1) by omega]; exact b⟩
    by_cases hop : isOpen p = true
    · rw [if_pos hop]
      have hi : i < δ.length := by rw [st.len]; exact (List.getElem?_eq_some_iff.mp h3).1
      have st2 : ∃ G : List Addr, StOk L K σ ⟨C, H, updF Fs i G⟩ (δ.set i s) ∧ ∀ a ∈ G, a ∈ Ws j := by
        cases s with
        | none => exact ⟨[], st.take hi, by simp⟩
        | some o =>
          obtain ⟨v', a, b⟩ := ho 0 o rfl
          cases a
          refine ⟨Ws j, st.upd hi rfl Ext.rfl' st.le (fun _ _ _ _ _ h => h) (fun k _ a h => st.op k a h) (fun _ _ => rfl) (fun o' h' => ?_) (fun h => by cases h) (nd j) (cn j) (fun a ha k _ => fr j a (Nat.le_refl _) ha k), fun _ h => h⟩
          cases h'
          exact ⟨v, h3, b⟩
      obtain ⟨G, st2, hG⟩ := st2
      obtain ⟨Fs', q1, q2⟩ := giveBack_ok nd dj cn (w1 := w1) (hs := r) (os := os) (outs := outs) (j + 1) st2 h4 ho' fun k a hjk ha i' hi' => by
        have hi' : a ∈ updF Fs i G i' := hi'
        by_cases hii : i' = i
        · rw [hii, updF_same] at hi'
          have := dj k j a ha (hG a hi')
          omega
        · rw [updF_ne hii] at hi'
          exact fr k a (by omega) ha i' hi'
      refine ⟨Fs', q1, fun i' a ha => ?_⟩
      rcases q2 i' a ha with ⟨k, z⟩ | z
      · have z : a ∈ updF Fs i G k := z
        by_cases hii : k = i
        · rw [hii, updF_same] at z
          exact .inr ⟨j, hG a z⟩
        · rw [updF_ne hii] at z
          exact .inl ⟨k, z⟩
      · exact .inr z
    · rw [if_neg hop]
      exact giveBack_ok nd dj cn (j + 1) st h4 ho' fun k a hjk ha i' => fr k a (by omega) ha i'
/-- a call, by the values in hand -/
theorem call_ok {m : Fn} {np : Nat} {hs : List Hd} {vs : List V} {F : List Addr} (hl : hs.length = np) (s1 : Stp w w1) (st : StOk L K σ w1 δ) (hk : HdsOk L K σ w1 hs vs F) (d : Dis w w1 F)
    (h : Fin L K E σ w1 (callF m hs δ) fun o w2 _ => Stp w w2 → ∀ v F, Own L K w2.C w2.H o v F → Dis w w2 F → Q v w2.H) (he : ∀ c δ', callF m hs δ = .exc c δ' → ∀ w2 ca, L.exc c = some ca → Stp w w2 → StOk L K σ w2 δ' → E (.ref ca) none w2.H)
    (h2 : ∀ o δ', callF m hs δ = .ok o δ' → ∀ w2, Stp w w2 → StOk L K σ w2 δ' → ∀ v F, Own L K w2.C w2.H o v F → Dis w w2 F → Q v w2.H) : spD L K np m vs w1.H Q E := by
  have hvl : ∀ {hs : List Hd} {vs : List V} {F : List Addr}, HdsOk L K σ w1 hs vs F → vs.length = hs.length := by
    intro hs
    induction hs with
    | nil => intro vs F q; rw [q.1]; rfl
    | cons a r ih =>
      intro vs F q
      obtain ⟨v, vs', F1, F2, rfl, _, _, q4⟩ := q.cons_inv
      simp [ih q4]
  refine ⟨(hvl hk).trans hl, ?_⟩
  unfold callF at h he h2
  cases e : lend δ hs with
  | none => rw [e] at h; exact h.elim
  | some p =>
    obtain ⟨os, δt⟩ := p
    rw [e] at h he h2
    simp only at h he h2
    obtain ⟨Fs, Gs, a1, a2, a3, a4, a5⟩ := lend_ok st hk d.nd d.cn d.fs e
    refine ⟨⟨w1.C, w1.H, fun i => Gs.getD i []⟩, os, rfl, callee_ok st.le a2 a3 fun a ha => (a4 a ha).1, ?_⟩
    have hmem : ∀ i a, a ∈ Gs.getD i [] → a ∈ Gs.flatten := fun i a ha => by
      by_cases hi : i < Gs.length
      · rw [getD_lt hi] at ha
        exact List.mem_flatten.mpr ⟨_, List.getElem_mem hi, ha⟩
      · rw [getD_ge (by omega)] at ha; simp at ha
    -- the caller's state behind the call
    have back : ∀ (w' : Wl) (outs : Sl), Stp ⟨w1.C, w1.H, fun i => Gs.getD i []⟩ w' → StOk L K (vs.map some) w' outs →
        ∃ Fs' : Nat → List Addr, StOk L K σ ⟨w'.C, w'.H, Fs'⟩ (giveBack δt hs os outs) ∧ Stp w ⟨w'.C, w'.H, Fs'⟩ ∧ ∀ i a, a ∈ Fs' i → (∃ i', a ∈ Fs i') ∨ ∃ k, a ∈ w'.Fs k := by
      intro w' outs s' k'
      have thF : ∀ i a, a ∈ Fs i → ∃ u, w1.H a = some u := fun i a ha => StOk.there a1 (i := i) ha
      have nF : ∀ i a, a ∈ Fs i → ∀ k, a ∉ Gs.getD k [] := fun i a ha k hk' => (a4 a (hmem k a hk')).2.1 i ha
      have stt : StOk L K σ ⟨w'.C, w'.H, Fs⟩ δt := by
        refine ⟨a1.len, k'.le, fun i o h => ?_, a1.nil, a1.nd, a1.dj, fun i a ha => ?_⟩
        · obtain ⟨v, e1, e2⟩ := a1.sl i o h
          exact ⟨v, e1, Own.ext s'.c o v _ (fun a ha u hu => s'.keep a u hu (nF i a ha)) e2⟩
        · show w'.C a = none
          cases q : w'.C a with
          | none => rfl
          | some u =>
            rcases s'.newC a (by rw [q]; simp) with z | ⟨k, z⟩ | z
            · exact absurd (a1.op i a ha) z
            · exact absurd z (nF i a ha k)
            · obtain ⟨u', hu'⟩ := thF i a ha
              have z : w1.H a = none := z
              rw [hu'] at z; cases z
      have frW : ∀ k a, 0 ≤ k → a ∈ w'.Fs k → ∀ i, a ∉ Fs i := fun k a _ ha i hi => by
        rcases s'.newF k a ha with ⟨j, z⟩ | z
        · exact nF i a hi j z
        · obtain ⟨u', hu'⟩ := thF i a hi
          have z : w1.H a = none := z
          rw [hu'] at z; cases z
      obtain ⟨Fs', q1, q2⟩ := giveBack_ok (C := w'.C) (H := w'.H) (Ws := w'.Fs) (w1 := w1) (os := os) (outs := outs) k'.nd k'.dj k'.op 0 stt hk (fun k o ho => by
        obtain ⟨v, e1, e2⟩ := k'.sl k o ho
        rw [List.getElem?_map] at e1
        cases q : vs[k]? with
        | none => rw [q] at e1; cases e1
        | some v' =>
          rw [q] at e1
          cases e1
          exact ⟨v, rfl, by rw [Nat.zero_add]; exact e2⟩) frW
      have orig : ∀ a, a ∈ Gs.flatten → (∃ i, a ∈ w.Fs i) ∨ w.H a = none := fun a ha => by
        rcases (a4 a ha).2.2 with ⟨i, z⟩ | z
        · exact s1.newF i a z
        · exact d.og a z
      refine ⟨Fs', q1, ⟨s1.c.tr s'.c, fun a o ha n => ?_, fun a ha => s1.live a (s'.live a ha), fun a ha => ?_, fun i a ha => ?_⟩, q2⟩
      · refine s'.keep a o (s1.keep a o ha n) fun k hk' => ?_
        rcases orig a (hmem k a hk') with ⟨i, z⟩ | z
        · exact n i z
        · rw [ha] at z; cases z
      · rcases s'.newC a ha with z | ⟨k, z⟩ | z
        · exact s1.newC a z
        · rcases orig a (hmem k a z) with q | q
          · exact .inr (.inl q)
          · exact .inr (.inr q)
        · exact .inr (.inr (s1.live a z))
      · rcases q2 i a ha with ⟨i', z⟩ | ⟨k, z⟩
        · exact s1.newF i' a (a5 i' a z)
        · rcases s'.newF k a z with ⟨j, y⟩ | y
          · exact orig a (hmem j a y)
          · exact .inr (s1.live a y)
    cases em : m os with
    | bad => rw [em] at h; exact h.elim
    | exc c outs =>
      rw [em] at he
      intro w' ca hc s' k'
      obtain ⟨Fs', q1, q2, q3⟩ := back w' outs s' k'
      exact he c _ rfl ⟨w'.C, w'.H, Fs'⟩ ca hc q2 q1
    | ret o outs =>
      rw [em] at h2
      intro w' v F' s' k' ho d'
      obtain ⟨Fs', q1, q2, q3⟩ := back w' outs s' k'
      refine h2 o _ rfl ⟨w'.C, w'.H, Fs'⟩ q2 q1 v F' ho ⟨d'.nd, d'.cn, fun a ha i hi => ?_, fun a ha => ?_⟩
      · rcases q3 i a hi with ⟨i', z⟩ | ⟨k, z⟩
        · rcases d'.og a ha with ⟨j, y⟩ | y
          · exact (a4 a (hmem j a y)).2.1 i' z
          · obtain ⟨u', hu'⟩ := StOk.there a1 (i := i') z
            have y : w1.H a = none := y
            have hu' : w1.H a = some u' := hu'
            rw [hu'] at y; cases y
        · exact d'.fs a ha k z
      · rcases d'.og a ha with ⟨j, y⟩ | y
        · rcases (a4 a (hmem j a y)).2.2 with ⟨i, z⟩ | z
          · exact s1.newF i a z
          · exact d.og a z
        · exact .inr (s1.live a y)
theorem rd_eCall {m : Fn} {np : Nat} {as : AM} (h : tO L K E (eCall np m as) σ H Q) : tAs L K E as σ H fun vs H1 => spD L K np m vs H1 Q E := by
  obtain ⟨w, δ, e, st, h⟩ := h
  refine ⟨w, δ, e, st, ?_⟩
  unfold eCall at h
  cases ea : as δ with
  | bad => rw [ea] at h; exact h
  | exc c δ' => rw [ea] at h; exact h
  | ok hs δ1 =>
    rw [ea] at h
    intro w1 s1 k1 vs F hk d
    show spD L K np m vs w1.H Q E
    have h : Fin L K E σ w (if hs.length = np then callF m hs δ1 else .bad) fun o w' _ => ∀ v F, Own L K w'.C w'.H o v F → Dis w w' F → Q v w'.H := h
    by_cases hl : hs.length = np
    · rw [if_pos hl] at h
      refine call_ok hl s1 k1 hk d ?_ (fun c δ' e2 w2 ca hc s2 k2 => ?_) fun o δ' e2 w2 s2 k2 => ?_
      · cases e2 : callF m hs δ1 with
        | bad => rw [e2] at h; exact h
        | exc c δ' => rw [e2] at h; exact fun w2 ca hc s2 k2 => h w2 ca hc (s1.trans s2) k2
        | ok o δ' => rw [e2] at h; exact fun w2 s2 k2 s3 v F => h w2 s3 k2 v F
      · rw [e2] at h; exact h w2 ca hc s2 k2
      · rw [e2] at h; exact h w2 s2 k2
    · rw [if_neg hl] at h
      exact h.elim
end
/-- a def of the module, by its name -/
structure FnD (P : Program) (w : World) (K : PySem.W.Frag) (mg : Str → Option Value) (base : Heap) (L : Lk) (x : Str) (np : Nat) (m : Fn) (k : Nat) : Prop where
  ex : ∃ (f : Addr) (fd : FuncData) (ps : List Str), FnG P w K mg base k f fd ps (spD L K np m) ∧ mg x = some (.ref f) ∧ PySem.W.keepIn K (.ref f) = true ∧ Binds K fd ps []
section
variable {X : Cx} {L : Lk} {E : XK} {x : Str} {p pos : Pos} {e : Expr} {es : List Expr} {as : AM} {m : Fn} {np k j : Nat}
theorem dcall (G : FnD X.prog X.w X.K X.mg X.base L x np m k) (xo : XOk X E) (hr : RoomG j X.A) (hkj : k ≤ j) (ha : PAs X L E (e :: es) as) (hg : Gl X x := by rfl) (hdb : (x == ("__debug__" : Str)) = false := by decide)
    (he : starEach (e :: es) X.env = (false, eval e X.env) :: starEach es X.env := by rfl) (hpl : (backTo pos (starEach es X.env)).any (·.1) = false := by rfl) : PV X L E (.Call (.Name x p) (e :: es) [] pos) (eCall np m as) := by
  obtain ⟨f, fd, ps, F, hm, hk, hb⟩ := G.ex
  exact (pe_callG F (hr.mono hkj) hg hm hk hb xo.pass ha hdb he hpl).imp' fun _ _ _ => rd_eCall
theorem dcall0 (G : FnD X.prog X.w X.K X.mg X.base L x 0 m k) (xo : XOk X E) (hr : RoomG j X.A) (hkj : k ≤ j) (hg : Gl X x := by rfl) (hdb : (x == ("__debug__" : Str)) = false := by decide) : PV X L E (.Call (.Name x p) [] [] pos) (eCall 0 m aNil) := by
  obtain ⟨f, fd, ps, F, hm, hk, hb⟩ := G.ex
  refine (pe_callG0 F (hr.mono hkj) hg hm hk hb xo.pass hdb).imp' fun σ H Q h => ?_
  have q := rd_eCall h
  exact rd_aNil q
end
end Dn
set_option autoImplicit false
set_option Elab.async false
set_option linter.all false
set_option maxRecDepth 100000
/-! DenL: targets, loops, comprehensions. -/
namespace Dn
open PySem PySem.Spec PyProof.Rows L2
section
variable (L : Lk) (K : PySem.W.Frag)
/-- the heap has grown by closed things alone -/
structure Grow (C H C' H' : Hp) : Prop where
  c : Ext C C'
  h : Ext H H'
  le : Ext C' H'
  newC : ∀ a, C' a ≠ none → C a ≠ none ∨ H a = none
/-- an iterator that yields the data ds, as long as P holds (P lasts over steps) -/
structure Yld (J : It) (ds : List D) (P : Wl → Prop) : Prop where
  pres : ∀ w w', P w → Stp w w' → P w'
  stop : ∀ w, P w → Ext w.C w.H → J.stop ds.length w.H
  go : ∀ i d w, ds[i]? = some d → P w → Ext w.C w.H → J.go i w.H ∧ ∀ x H', J.yld i w.H x H' → ∃ C', Grow w.C w.H C' H' ∧ Dat L K C' d x
def tI (E : XK) (it : IM) : TI := fun σ H R => ∃ w δ, w.H = H ∧ StOk L K σ w δ ∧ Fin L K E σ w (it δ) fun ds w1 _ => ∀ J P, Yld L K J ds P → P w1 → R J w1.H
def tG (lk : Nat → Bool) (g : GM) : TG := fun v σ H Q => ∃ w δ d, w.H = H ∧ StOk L K σ w δ ∧ Dat L K w.C d v ∧ match g lk d δ with
  | none => False
  | some δ' => ∀ w' σ', w'.H = H → Stp w w' → StOk L K σ' w' δ' → LkOk lk σ σ' → Q σ' H
def tGs (lk : Nat → Bool) (g : GMs) : TGs := fun vs σ H Q => ∃ w δ ds, w.H = H ∧ StOk L K σ w δ ∧ DatL L K w.C ds vs ∧ match g lk ds δ with
  | none => False
  | some δ' => ∀ w' σ', w'.H = H → Stp w w' → StOk L K σ' w' δ' → LkOk lk σ σ' → Q σ' H
end
section
variable {L : Lk} {K : PySem.W.Frag} {σ σ' σ0 : L2.St} {w w0 w1 w2 : Wl} {δ δ1 δ2 : Sl} {E : XK} {H : Hp} {Q : VK} {lk : Nat → Bool} {D' : Ends}
theorem DatL.len : ∀ {ds : List D} {vs : List V} {C : Hp}, DatL L K C ds vs → ds.length = vs.length
  | [], _, _, h => by rw [show _ = [] from h]; rfl
  | d :: ds, _, _, h => by
    obtain ⟨v, r, rfl, _, h3⟩ := h
    simp [DatL.len h3]
theorem DatL.get : ∀ {ds : List D} {vs : List V} {C : Hp} {i : Nat} {d : D}, DatL L K C ds vs → ds[i]? = some d → ∃ v, vs[i]? = some v ∧ Dat L K C d v
  | [], _, _, _, _, _, e => by simp at e
  | d :: ds, _, _, 0, _, h, e => by
    obtain ⟨v, r, rfl, h2, h3⟩ := h
    cases e
    exact ⟨v, rfl, h2⟩
  | d :: ds, _, _, i + 1, _, h, e => by
    obtain ⟨v, r, rfl, h2, h3⟩ := h
    exact DatL.get (i := i) h3 e
/-- a state over a grown heap -/
theorem StOk.grow (st : StOk L K σ w δ) {C' H' : Hp} (g : Grow w.C w.H C' H') : StOk L K σ ⟨C', H', w.Fs⟩ δ ∧ Stp w ⟨C', H', w.Fs⟩ := by
  refine ⟨⟨st.len, g.le, fun i o h => ?_, st.nil, st.nd, st.dj, fun i a ha => ?_⟩, ⟨g.c, fun a o h _ => g.h a o h, fun a h => ?_, fun a h => ?_, fun i a h => .inl ⟨i, h⟩⟩⟩
  · obtain ⟨v, e1, e2⟩ := st.sl i o h
    exact ⟨v, e1, Own.ext g.c o v _ (fun a _ u hu => g.h a u hu) e2⟩
  · show C' a = none
    cases e : C' a with
    | none => rfl
    | some u =>
      rcases g.newC a (by rw [e]; simp) with z | z
      · exact absurd (st.op i a ha) z
      · obtain ⟨u', hu'⟩ := st.there (i := i) ha
        rw [hu'] at z; cases z
  · cases e : w.H a with
    | none => rfl
    | some u =>
      have h : H' a = none := h
      rw [g.h a u e] at h; cases h
  · rcases g.newC a h with z | z
    · exact .inl z
    · exact .inr (.inr z)
theorem rd_gN {i : Nat} {v : V} {Q : L2.St → Hp → Prop} (h : tG L K lk (gN i) v σ H Q) : gName i v σ H Q := by
  obtain ⟨w, δ, d, e, st, hd, h⟩ := h
  subst e
  unfold gN at h
  by_cases hc : lk i = true ∨ δ.length ≤ i
  · rw [if_pos hc] at h; exact h.elim
  · rw [if_neg hc] at h
    obtain ⟨w', e', s', k', l', q'⟩ := put_end (D' := { nx := fun _ _ => True, rt := fun _ _ => True }) (lk := lk) (i := i) (o := .d d) (E := fun _ _ _ => True) (k := .nx) st (Stp.refl w) ⟨rfl, hd⟩ (Dis.nil _ _) (by unfold put; rw [if_neg hc]; exact fun _ _ _ _ _ => trivial)
    exact h w' _ e' s' k' l'
theorem rd_gsN {vs : List V} {Q : L2.St → Hp → Prop} (h : tGs L K lk gsN vs σ H Q) : gNil vs σ H Q := by
  obtain ⟨w, δ, d, e, st, hd, h⟩ := h
  cases d with
  | nil => exact ⟨hd, h w σ e (Stp.refl w) st (LkOk.refl _ _)⟩
  | cons a b => exact h.elim
theorem rd_gsC {g : GM} {r : GMs} {vs : List V} {Q : L2.St → Hp → Prop} (h : tGs L K lk (gsC g r) vs σ H Q) : gCons (tG L K lk g) (tGs L K lk r) vs σ H Q := by
  obtain ⟨w, δ, d, e, st, hd, h⟩ := h
  cases d with
  | nil => exact h.elim
  | cons d ds =>
    obtain ⟨v, r', rfl, h2, h3⟩ := hd
    refine ⟨v, r', rfl, w, δ, d, e, st, h2, ?_⟩
    unfold gsC at h
    simp only at h
    cases eg : g lk d δ with
    | none => rw [eg] at h; exact h.elim
    | some δ1 =>
      rw [eg] at h
      simp only [Option.bind_some] at h
      intro w1 σ1 e1 s1 k1 l1
      refine ⟨w1, δ1, ds, e1, k1, DatL.ext s1.c ds r' h3, ?_⟩
      cases er : r lk ds δ1 with
      | none => rw [er] at h; exact h.elim
      | some δ2 =>
        rw [er] at h
        exact fun w2 σ2 e2 s2 k2 l2 => h w2 σ2 e2 (s1.trans s2) k2 (l1.trans l2)
theorem rd_gT {n : Nat} {g : GMs} {v : V} {Q : L2.St → Hp → Prop} (h : tG L K lk (gT n g) v σ H Q) : gTup K n (tGs L K lk g) v σ H Q := by
  obtain ⟨w, δ, d, e, st, hd, h⟩ := h
  subst e
  cases d <;> first | exact h.elim | skip
  rename_i xs
  obtain ⟨a, vs, rfl, h2, h3⟩ := hd
  unfold gT at h
  simp only at h
  by_cases hl : xs.length = n
  · rw [if_pos hl] at h
    exact ⟨a, vs, rfl, sqT_ext st.le h2, h3.len.symm.trans hl, w, δ, xs, rfl, st, h3, h⟩
  · rw [if_neg hl] at h; exact h.elim
theorem rd_sAsgT {f : EM} {g : GM} (h : tSm L K E lk (sAsgT f g) D' σ H) : tAsg (tO L K E f) (tG L K lk g) D' σ H := by
  obtain ⟨w, δ, e, st, h⟩ := h
  refine ⟨w, δ, e, st, (FinS.ofRes h).imp fun o w1 δ1 s1 k1 q => ?_⟩
  intro v F ho d
  cases o <;> first | exact q.elim | skip
  rename_i x
  refine ⟨w1, δ1, x, rfl, k1, ho.2, ?_⟩
  simp only at q
  cases eg : g lk x δ1 with
  | none => rw [eg] at q; exact q.elim
  | some δ2 =>
    rw [eg] at q
    intro w2 σ2 e2 s2 k2 l2
    rw [← e2]
    exact q w2 σ2 (s1.trans s2) k2 l2

/-! ### for -/
theorem forL_ok {ds : List D} {J : It} {P : Wl → Prop} {g : GM} {b : SM} (Y : Yld L K J ds P) (p1 : P w1) (s01 : Stp w0 w1) (st : StOk L K σ w1 δ1) (h : FinS L K E D' lk σ w0 (forL (fun d lk δ => ofG (g lk d δ) (b lk)) lk ds δ1)) :
    ∃ W : Nat → Nat → L2.St → Hp → Prop, (∃ m, W 0 m σ w1.H) ∧ ∀ i m σ H, W i m σ H →
      (J.stop i H ∧ D'.nx σ H) ∨ (J.go i H ∧ ∃ N : L2.St → Hp → Prop, (∀ σ' H', N σ' H' → ∃ m', m' < m ∧ W (i + 1) m' σ' H') ∧ ∀ x H', J.yld i H x H' → tG L K lk g x σ H' fun σ2 H2 => tSm L K E lk b { D' with nx := N, ct := N, bk := D'.nx } σ2 H2) := by
  refine ⟨fun i m σ' H => ∃ w δ, w.H = H ∧ StOk L K σ' w δ ∧ i ≤ ds.length ∧ m = ds.length - i ∧ P w ∧ Stp w0 w ∧ LkOk lk σ σ' ∧ FinS L K E D' lk σ w0 (forL (fun d lk δ => ofG (g lk d δ) (b lk)) lk (ds.drop i) δ),
    ⟨_, w1, δ1, rfl, st, Nat.zero_le _, rfl, p1, s01, LkOk.refl _ _, h⟩, ?_⟩
  rintro i m σ1 H ⟨w, δ, e, k, hi, hm, hc, s0, l0, q⟩
  subst e
  by_cases hlt : i < ds.length
  · right
    have hd : ds[i]? = some ds[i] := List.getElem?_eq_getElem hlt
    rw [List.drop_eq_getElem_cons hlt] at q
    obtain ⟨hgo, hy⟩ := Y.go i ds[i] w hd hc k.le
    refine ⟨hgo, fun σ' H' => ∃ w δ, w.H = H' ∧ StOk L K σ' w δ ∧ P w ∧ Stp w0 w ∧ LkOk lk σ σ' ∧ FinS L K E D' lk σ w0 (forL (fun d lk δ => ofG (g lk d δ) (b lk)) lk (ds.drop (i + 1)) δ), ?_, fun x H' yx => ?_⟩
    · rintro σ' H' ⟨w', δ', e', k', c', s', l', q'⟩
      exact ⟨ds.length - (i + 1), by omega, w', δ', e', k', hlt, rfl, c', s', l', q'⟩
    · obtain ⟨C', G, dx⟩ := hy x H' yx
      obtain ⟨k2, s2⟩ := k.grow G
      refine ⟨⟨C', H', w.Fs⟩, δ, ds[i], rfl, k2, dx, ?_⟩
      unfold forL at q
      cases eg : g lk ds[i] δ with
      | none =>
        rw [eg] at q
        exact q.elim
      | some δ2 =>
        rw [eg] at q
        have q : FinS L K E D' lk σ w0 (turnEnd (b lk δ2) (forL (fun d lk δ => ofG (g lk d δ) (b lk)) lk (ds.drop (i + 1)))) := q
        simp only
        intro w3 σ3 e3 s3 k3 l3
        refine ⟨w3, δ2, e3, k3, ?_⟩
        have c3 : P w3 := Y.pres _ _ hc (s2.trans s3)
        have s03 : Stp w0 w3 := s0.trans (s2.trans s3)
        have l03 : LkOk lk σ σ3 := l0.trans l3
        cases eb : b lk δ2 with
        | bad => rw [eb] at q; exact q
        | exc c δ4 => rw [eb] at q; exact fun w' σ' ca hca s' k' l' => q w' σ' ca hca (s03.trans s') k' (l03.trans l')
        | rt o δ4 => rw [eb] at q; exact fun w' σ' v F s' k' l' ho d => q w' σ' v F (s03.trans s') k' (l03.trans l') ho (d.back s03)
        | bk δ4 => rw [eb] at q; exact fun w' σ' s' k' l' => q w' σ' (s03.trans s') k' (l03.trans l')
        | nx δ4 => rw [eb] at q; exact fun w' σ' s' k' l' => ⟨w', δ4, rfl, k', Y.pres _ _ c3 s', s03.trans s', l03.trans l', q⟩
        | ct δ4 => rw [eb] at q; exact fun w' σ' s' k' l' => ⟨w', δ4, rfl, k', Y.pres _ _ c3 s', s03.trans s', l03.trans l', q⟩
  · left
    have e : i = ds.length := by omega
    subst e
    rw [List.drop_length] at q
    exact ⟨Y.stop w hc k.le, q w σ1 s0 k l0⟩
theorem rd_sFor {it : IM} {g : GM} {b : SM} (h : tSm L K E lk (sFor it g b) D' σ H) : tFor (tI L K E it) (tG L K lk g) (tSm L K E lk b) D' σ H := by
  obtain ⟨w, δ, e, st, h⟩ := h
  refine ⟨w, δ, e, st, (FinS.ofRes h).imp fun ds w1 δ1 s1 k1 q => ?_⟩
  intro J P Y p1
  exact forL_ok Y p1 s1 k1 q
theorem rd_sWhile {fu : Sl → Nat} {c : TM} {b : SM} (h : tSm L K E lk (sWhile fu c b) D' σ H) : tWhile (tT L K E c) (tSm L K E lk b) D' σ H := by
  obtain ⟨w0, δ, e, st, h⟩ := h
  refine ⟨fun m σ' H => ∃ w δ, w.H = H ∧ StOk L K σ' w δ ∧ Stp w0 w ∧ LkOk lk σ σ' ∧ FinS L K E D' lk σ w0 (whileL c b lk m δ), ⟨fu δ, w0, δ, e, st, Stp.refl _, LkOk.refl _ _, h⟩, ?_⟩
  rintro m σ1 H1 ⟨w, δ1, e1, k, s0, l0, q⟩
  cases m with
  | zero => unfold whileL at q; exact q.elim
  | succ m =>
    unfold whileL at q
    refine ⟨w, δ1, e1, k, ?_⟩
    have q' := FinS.ofRes q
    have q2 : Fin L K E σ1 w (c δ1) fun kk w2 δ2 => FinS L K E D' lk σ w0 (if kk = true then turnEnd (b lk δ2) (whileL c b lk m) else .nx δ2) := by
      cases ec : c δ1 with
      | bad => rw [ec] at q; exact q
      | exc cc δ2 => rw [ec] at q; exact fun w' ca hca s' k' => q w' σ1 ca hca (s0.trans s') k' l0
      | ok kk δ2 => rw [ec] at q; exact fun w' s' k' => q
    refine q2.imp fun kk w2 δ2 s2 k2 z => ?_
    cases kk with
    | false =>
      rw [if_neg Bool.false_ne_true] at z ⊢
      exact z w2 σ1 (s0.trans s2) k2 l0
    | true =>
      rw [if_pos rfl] at z ⊢
      refine ⟨fun σ' H' => ∃ w δ, w.H = H' ∧ StOk L K σ' w δ ∧ Stp w0 w ∧ LkOk lk σ σ' ∧ FinS L K E D' lk σ w0 (whileL c b lk m δ), ?_, ?_⟩
      · rintro σ' H' ⟨w', δ', r⟩
        exact ⟨m, Nat.lt_succ_self m, w', δ', r⟩
      · refine ⟨w2, δ2, rfl, k2, ?_⟩
        have s02 := s0.trans s2
        cases eb : b lk δ2 with
        | bad => rw [eb] at z; exact z
        | exc c δ4 => rw [eb] at z; exact fun w' σ' ca hca s' k' l' => z w' σ' ca hca (s02.trans s') k' (l0.trans l')
        | rt o δ4 => rw [eb] at z; exact fun w' σ' v F s' k' l' ho d => z w' σ' v F (s02.trans s') k' (l0.trans l') ho (d.back s02)
        | bk δ4 => rw [eb] at z; exact fun w' σ' s' k' l' => z w' σ' (s02.trans s') k' (l0.trans l')
        | nx δ4 => rw [eb] at z; exact fun w' σ' s' k' l' => ⟨w', δ4, rfl, k', s02.trans s', l0.trans l', z⟩
        | ct δ4 => rw [eb] at z; exact fun w' σ' s' k' l' => ⟨w', δ4, rfl, k', s02.trans s', l0.trans l', z⟩
end
theorem _root_.L2.PG.imp' {X : Cx} {tg : Expr} {t t' : TG} (h : PG X tg t) (f : ∀ v σ H Q, t' v σ H Q → t v σ H Q) : PG X tg t' := ⟨fun pins s σ H v u Q I r q => h.run pins s σ H v u Q I r (f v σ H Q q)⟩
theorem _root_.L2.PGs.imp' {X : Cx} {tg : List Expr} {t t' : TGs} (h : PGs X tg t) (f : ∀ v σ H Q, t' v σ H Q → t v σ H Q) : PGs X tg t' := ⟨fun pins s σ H v u Q I r q => h.run pins s σ H v u Q I r (f v σ H Q q)⟩
theorem _root_.L2.PI.imp' {X : Cx} {tg it : Expr} {t t' : TI} (h : PI X tg it t) (f : ∀ σ H R, t' σ H R → t σ H R) : PI X tg it t' := ⟨fun pins s σ H R I q => h.run pins s σ H R I (f σ H R q)⟩
section
variable {X : Cx} {L : Lk} {E : XK} {lk : Nat → Bool}
abbrev PGt (X : Cx) (L : Lk) (lk : Nat → Bool) (e : Expr) (g : GM) : Prop := PG X e (tG L X.K lk g)
abbrev PGst (X : Cx) (L : Lk) (lk : Nat → Bool) (es : List Expr) (g : GMs) : Prop := PGs X es (tGs L X.K lk g)
abbrev PIt (X : Cx) (L : Lk) (E : XK) (tg e : Expr) (it : IM) : Prop := PI X tg e (tI L X.K E it)
theorem dgN (i : Nat) {x : Str} {pos : Pos} (hN : X.N.Nodup) (hi : X.N[i]? = some x := by rfl) (hx : Loc X.env.scope x := by first | exact Or.inl rfl | exact Or.inr rfl) (hf : X.fn x = true ∨ X.env.scope.names.lookup x = some .local := by first | exact .inl rfl | exact .inr rfl | assumption) :
    PGt X L lk (.Name x pos) (gN i) := (pg_name hN hi hx hf).imp' fun _ _ _ _ => rd_gN
theorem dgsN : PGst X L lk [] gsN := pgs_nil.imp' fun _ _ _ _ => rd_gsN
theorem dgsC {e : Expr} {es : List Expr} {g : GM} {r : GMs} (h1 : PGt X L lk e g) (h2 : PGst X L lk es r) (hs : (assignEach (e :: es) X.env).map (·.2) = assign e X.env :: (assignEach es X.env).map (·.2) := by rfl) : PGst X L lk (e :: es) (gsC g r) :=
  (pgs_cons h1 h2 hs).imp' fun _ _ _ _ => rd_gsC
theorem dgT {es : List Expr} {k : Nat} {pos : Pos} {g : GMs} (n : Nat) (hc : X.calm = true) (h : PGst X L lk es g) (hn : (assignEach es X.env).length = n := by rfl) (hst : (assignEach es X.env).findIdx? (·.1) = none := by rfl) : PGt X L lk (.Tuple es k pos) (gT n g) :=
  (pg_tup hc h hn hst).imp' fun _ _ _ _ => rd_gT
theorem dasg {tg e : Expr} {f : EM} {g : GM} {pos : Pos} (he : PV X L E e f) (hg : PGt X L lk tg g) (hs : swapsWithSole [tg] e pos.line X.env = pure false := by rfl) (hw : swappedStores [tg] e X.env = pure none := by rfl)
    (h1 : (assignEach [tg] X.env).map (·.2) = [assign tg X.env] := by rfl) : PSt X L E lk (.Assign [tg] e pos) (sAsgT f g) := (ps_asg he hg hs hw h1).imp' fun _ _ _ => rd_sAsgT
theorem dfor {tg iter : Expr} {body : List Stmt} {it : IM} {g : GM} {b : SM} {pos : Pos} (xo : XOk X E) (hi : PIt X L E tg iter it) (hg : PGt X L lk tg g) (hb : PSts X L E lk body b) (hs : ∀ x, foldedSetIterable iter X.env x = pure x := by intro _; rfl) :
    PSt X L E lk (.For tg iter body [] pos) (sFor it g b) := (ps_for xo.own xo.calm hi hg hb hs).imp' fun _ _ _ => rd_sFor
theorem dwhile {c : Expr} {body : List Stmt} {t : TM} {b : SM} {pos : Pos} (fu : Sl → Nat) (xo : XOk X E) (hc : PTt X L E c t) (hb : PSts X L E lk body b) : PSt X L E lk (.While c body [] pos) (sWhile fu t b) :=
  (ps_while xo.own hc hb).imp' fun _ _ _ => rd_sWhile
end
end Dn
set_option autoImplicit false
set_option Elab.async false
set_option linter.all false
set_option maxRecDepth 100000
/-! DenC: list comprehensions. -/
namespace Dn
open PySem PySem.Spec PyProof.Rows L2
section
variable {L : Lk} {K : PySem.W.Frag} {σ σ' σ0 : L2.St} {w w0 w1 w2 : Wl} {δ δ1 δ2 : Sl} {E : XK} {H : Hp} {Q : VK} {lk : Nat → Bool} {D' : Ends}
abbrev compl (vs : List Nat) : Nat → Bool := fun i => !vs.contains i
theorem wipeS_len (δ : Sl) : ∀ vs : List Nat, (wipeS δ vs).length = δ.length
  | [] => rfl
  | v :: vs => by unfold wipeS; rw [List.length_set, wipeS_len δ vs]
theorem wipeS_in {i : Nat} (o : O) : ∀ {vs : List Nat}, i ∈ vs → (wipeS δ vs)[i]? ≠ some (some o)
  | [], h => by simp at h
  | v :: vs, h => by
    unfold wipeS
    by_cases hv : v = i
    · subst hv
      by_cases hl : v < (wipeS δ vs).length
      · rw [List.getElem?_set_self hl]; simp
      · rw [List.getElem?_eq_none (by rw [List.length_set]; omega)]; simp
    · rw [List.getElem?_set_ne hv]
      rcases List.mem_cons.mp h with e | h
      · exact absurd e.symm hv
      · exact wipeS_in o h
theorem wipeS_out {i : Nat} : ∀ {vs : List Nat}, i ∉ vs → (wipeS δ vs)[i]? = δ[i]?
  | [], _ => rfl
  | v :: vs, h => by
    unfold wipeS
    simp only [List.mem_cons, not_or] at h
    rw [List.getElem?_set_ne (Ne.symm h.1)]
    exact wipeS_out h.2
theorem wipe_out' {i : Nat} : ∀ {vs : List Nat}, i ∉ vs → (wipe σ vs)[i]? = σ[i]?
  | [], _ => rfl
  | v :: vs, h => by
    unfold wipe
    simp only [List.mem_cons, not_or] at h
    rw [List.getElem?_set_ne (Ne.symm h.1)]
    exact wipe_out' h.2
theorem backS_len (δ0 δ : Sl) : ∀ vs : List Nat, (backS δ0 δ vs).length = δ.length
  | [] => rfl
  | v :: vs => by unfold backS; rw [List.length_set, backS_len δ0 δ vs]
theorem backS_in {i : Nat} (hi : i < δ.length) : ∀ {vs : List Nat}, i ∈ vs → (backS δ1 δ vs)[i]? = some (δ1.getD i none)
  | [], h => by simp at h
  | v :: vs, h => by
    unfold backS
    by_cases hv : v = i
    · subst hv
      rw [List.getElem?_set_self (by rw [backS_len]; exact hi)]
    · rw [List.getElem?_set_ne hv]
      rcases List.mem_cons.mp h with e | h
      · exact absurd e.symm hv
      · exact backS_in hi h
theorem backS_out {i : Nat} : ∀ {vs : List Nat}, i ∉ vs → (backS δ1 δ vs)[i]? = δ[i]?
  | [], _ => rfl
  | v :: vs, h => by
    unfold backS
    simp only [List.mem_cons, not_or] at h
    rw [List.getElem?_set_ne (Ne.symm h.1)]
    exact backS_out h.2
/-- without the slots vs -/
def wipeW (w : Wl) (vs : List Nat) : Wl := ⟨w.C, w.H, fun i => if i ∈ vs then [] else w.Fs i⟩
theorem wipe_ok (st : StOk L K σ w δ) (vs : List Nat) : StOk L K (wipe σ vs) (wipeW w vs) (wipeS δ vs) := by
  have f : ∀ i a, a ∈ (wipeW w vs).Fs i → i ∉ vs ∧ a ∈ w.Fs i := fun i a h => by
    have h : a ∈ (if i ∈ vs then [] else w.Fs i) := h
    by_cases hv : i ∈ vs
    · rw [if_pos hv] at h; simp at h
    · rw [if_neg hv] at h; exact ⟨hv, h⟩
  refine ⟨by rw [wipeS_len, wipe_length, st.len], st.le, fun i o h => ?_, fun i h => ?_, fun i => ?_, fun i j a h1 h2 => st.dj i j a (f i a h1).2 (f j a h2).2, fun i a h => st.op i a (f i a h).2⟩
  · have hv : i ∉ vs := fun z => wipeS_in o z h
    rw [wipeS_out hv] at h
    obtain ⟨v, e1, e2⟩ := st.sl i o h
    refine ⟨v, by rw [wipe_out' hv]; exact e1, ?_⟩
    show Own L K w.C w.H o v (if i ∈ vs then [] else w.Fs i)
    rw [if_neg hv]; exact e2
  · show (if i ∈ vs then [] else w.Fs i) = []
    by_cases hv : i ∈ vs
    · rw [if_pos hv]
    · rw [if_neg hv]
      exact st.nil i fun p hp => h p (by rw [wipeS_out hv]; exact hp)
  · show (if i ∈ vs then [] else w.Fs i).Nodup
    by_cases hv : i ∈ vs
    · rw [if_pos hv]; exact List.nodup_nil
    · rw [if_neg hv]; exact st.nd i
theorem Stp.wipe (w : Wl) (vs : List Nat) : Stp w (wipeW w vs) := ⟨Ext.rfl', fun _ _ h _ => h, fun _ h => h, fun _ h => .inl h, fun i a h => .inl ⟨i, by
  have h : a ∈ (if i ∈ vs then [] else w.Fs i) := h
  by_cases hv : i ∈ vs
  · rw [if_pos hv] at h; simp at h
  · rw [if_neg hv] at h; exact h⟩⟩
theorem lcL_le {vs : List Nat} {g : GM} {t : TM} {e : EM} {accF : List D} {δF : Sl} : ∀ {ds : List D} {δ : Sl} {acc : List D}, lcL vs g t e ds δ acc = .ok accF δF → acc.length ≤ accF.length
  | [], δ, acc, h => by
    unfold lcL at h
    cases h
    exact Nat.le_refl _
  | d :: ds, δ, acc, h => by
    unfold lcL at h
    split at h
    · cases h
    · rename_i δ2 _
      cases et : (t δ2).noexc with
      | bad => rw [et] at h; cases h
      | exc c δ => rw [et] at h; cases h
      | ok b δ3 =>
        rw [et] at h
        simp only [Res.bind_ok] at h
        split at h
        · cases ee : (e δ3).noexc with
          | bad => rw [ee] at h; cases h
          | exc c δ => rw [ee] at h; cases h
          | ok o δ4 =>
            rw [ee] at h
            simp only [Res.bind_ok] at h
            have := lcL_le h
            rw [List.length_append] at this
            simp at this
            omega
        · exact lcL_le h
theorem noexc_ok_inv {α : Type} {r : Res α} {a : α} {δ : Sl} (h : r.noexc = .ok a δ) : r = .ok a δ := by
  cases r with
  | bad => cases h
  | exc c δ => cases h
  | ok a δ => exact h
theorem DatL.snoc : ∀ {ds : List D} {vs : List V} {C : Hp} {d : D} {v : V}, DatL L K C ds vs → Dat L K C d v → DatL L K C (ds ++ [d]) (vs ++ [v])
  | [], _, _, d, v, h, hd => by
    rw [show _ = [] from h]
    exact ⟨v, [], rfl, hd, rfl⟩
  | x :: ds, _, _, d, v, h, hd => by
    obtain ⟨y, r, rfl, h2, h3⟩ := h
    exact ⟨y, r ++ [v], rfl, h2, DatL.snoc h3 hd⟩
/-- a value in hand is closed -/
theorem close_ok {o : O} {v : V} {F : List Addr} (st : StOk L K σ w1 δ) (ho : Own L K w1.C w1.H o v F) (d : Dis w w1 F) : StOk L K σ ⟨clo w1.C w1.H F, w1.H, w1.Fs⟩ δ ∧ Dat L K (clo w1.C w1.H F) (view o) v := by
  refine ⟨⟨st.len, clo_le st.le, fun i o' h => ?_, st.nil, st.nd, st.dj, fun i a ha => ?_⟩, Own.close o v F F ho (fun _ h => h) d.cn⟩
  · obtain ⟨v', e1, e2⟩ := st.sl i o' h
    exact ⟨v', e1, Own.ext (clo_ext d.cn) o' v' _ (fun _ _ _ h => h) e2⟩
  · show (if a ∈ F then w1.H a else w1.C a) = none
    rw [if_neg fun z => d.fs a z i ha]
    exact st.op i a ha
abbrev E00 : XK := fun _ _ _ => False
def lcF (vs : List Nat) (g : GM) (t : TM) (e : EM) (ds : List D) (δ1 : Sl) : Res O := (lcL vs g t e ds (wipeS δ1 vs) []).noexc.bind fun acc δ2 => if acc.length ≤ 1000000 then .ok (.lst acc) (backS δ1 δ2 vs) else .bad
theorem lc_ok {ds : List D} {J : It} {P : Wl → Prop} {vs : List Nat} {g : GM} {t : TM} {e : EM} (s1 : Stp w w1) (k1 : StOk L K σ w1 δ1) (Y : Yld L K J ds P) (p1 : P w1)
    (q : Fin L K E σ w1 (lcF vs g t e ds δ1) fun o w2 _ => Stp w w2 → ∀ v F, Own L K w2.C w2.H o v F → Dis w w2 F → Q v w2.H) :
    tLc (fun _ H1 R => R J H1) (tG L K (compl vs) g) (tT L K E00 t) (tO L K E00 e) vs σ w1.H Q := by
  intro D hD
  unfold lcF at q
  cases eR : lcL vs g t e ds (wipeS δ1 vs) [] with
  | bad => rw [eR] at q; exact q.elim
  | exc c δ2 => rw [eR] at q; exact q.elim
  | ok accF δF =>
    rw [eR] at q
    simp only [Res.noexc_ok, Res.bind_ok] at q
    by_cases hlen : accF.length ≤ 1000000
    · rw [if_pos hlen] at q
      have kv := wipe_ok k1 vs
      -- the world with the new list
      have dne : ∀ a o, (wipeW w1 vs).H a = some o → a ≠ D := fun a o ha z => by
        subst z
        have ha : w1.H a = some o := ha
        rw [hD] at ha; cases ha
      have cD : ∀ C, Ext C w1.H → C D = none := fun C hc => by
        cases z : C D with
        | none => rfl
        | some o => rw [hc D o z] at hD; cases hD
      have G0 : Grow (wipeW w1 vs).C (wipeW w1 vs).H (wipeW w1 vs).C (upd (wipeW w1 vs).H D (.lst [])) := ⟨Ext.rfl', ext_new hD, k1.le.tr (ext_new hD), fun _ h => .inl h⟩
      obtain ⟨kd, sd⟩ := kv.grow G0
      refine ⟨fun i m H => ∃ w' δ' acc vacc, w'.H = H ∧ StOk L K (wipe σ vs) w' δ' ∧ i ≤ ds.length ∧ m = ds.length - i ∧ Ext w1.C w'.C ∧ Stp (wipeW w1 vs) w' ∧ H D = some (.lst vacc) ∧ DatL L K w'.C acc vacc ∧ w'.C D = none ∧ (∀ i, D ∉ w'.Fs i) ∧ lcL vs g t e (ds.drop i) δ' acc = .ok accF δF,
        ⟨_, _, wipeS δ1 vs, [], [], rfl, kd, Nat.zero_le _, rfl, Ext.rfl', sd, upd_same, rfl, cD _ k1.le, fun i hi => ?_, eR⟩, ?_⟩
      · obtain ⟨u, hu⟩ := kv.there (i := i) hi
        exact dne D u hu rfl
      rintro i m H1 ⟨w', δ', acc, vacc, e1, k, hi, hm, hc, s', hacc, hda, hcd, hfd, hr⟩
      subst e1
      have pw : P w' := Y.pres _ _ p1 ((Stp.wipe w1 vs).trans s')
      by_cases hlt : i < ds.length
      · right
        have hd : ds[i]? = some ds[i] := List.getElem?_eq_getElem hlt
        obtain ⟨hgo, hy⟩ := Y.go i ds[i] w' hd pw k.le
        refine ⟨hgo, fun H' => ∃ w' δ' acc vacc, w'.H = H' ∧ StOk L K (wipe σ vs) w' δ' ∧ Ext w1.C w'.C ∧ Stp (wipeW w1 vs) w' ∧ H' D = some (.lst vacc) ∧ DatL L K w'.C acc vacc ∧ w'.C D = none ∧ (∀ i, D ∉ w'.Fs i) ∧ lcL vs g t e (ds.drop (i + 1)) δ' acc = .ok accF δF, ?_, fun x H' yx => ?_⟩
        · rintro H' ⟨w2, δ2, acc2, vacc2, r1, r2, r3, r4⟩
          exact ⟨ds.length - (i + 1), by omega, w2, δ2, acc2, vacc2, r1, r2, hlt, rfl, r3, r4⟩
        · obtain ⟨C', G, dx⟩ := hy x H' yx
          obtain ⟨k2, s2⟩ := k.grow G
          have hD2 : H' D = some (.lst vacc) := G.h D _ hacc
          have hC2 : C' D = none := by
            cases z : C' D with
            | none => rfl
            | some u =>
              rcases G.newC D (by rw [z]; simp) with y | y
              · exact absurd hcd y
              · rw [hacc] at y; cases y
          rw [List.drop_eq_getElem_cons hlt] at hr
          unfold lcL at hr
          refine ⟨⟨C', H', w'.Fs⟩, δ', ds[i], rfl, k2, dx, ?_⟩
          cases eg : g (compl vs) ds[i] δ' with
          | none =>
            rw [show (fun i => !vs.contains i) = compl vs from rfl, eg] at hr
            cases hr
          | some δ2 =>
            rw [show (fun i => !vs.contains i) = compl vs from rfl, eg] at hr
            simp only at hr ⊢
            intro w3 σ3 e3 s3 k3 l3
            have wp : wipe σ3 vs = wipe σ vs := by
              refine List.ext_getElem? fun j => ?_
              by_cases hj : j ∈ vs
              · have a1 : ∀ τ : L2.St, ∀ v, (wipe τ vs)[j]? ≠ some (some v) := fun τ v z => (wipe_some z).2 hj
                have len : (wipe σ3 vs).length = (wipe σ vs).length := by rw [wipe_length]; exact l3.1
                by_cases hjl : j < (wipe σ vs).length
                · have b1 := List.getElem?_eq_getElem (l := wipe σ vs) hjl
                  have b2 := List.getElem?_eq_getElem (l := wipe σ3 vs) (i := j) (by omega)
                  rw [b1, b2]
                  cases c1 : (wipe σ vs)[j] with
                  | some v => rw [c1] at b1; exact absurd b1 (a1 σ v)
                  | none =>
                    cases c2 : (wipe σ3 vs)[j] with
                    | some v => rw [c2] at b2; exact absurd b2 (a1 σ3 v)
                    | none => rfl
                · rw [show (wipe σ3 vs)[j]? = none from List.getElem?_eq_none (by omega), show (wipe σ vs)[j]? = none from List.getElem?_eq_none (by omega)]
              · rw [wipe_out' hj, l3.2 j (by simp [compl, hj]), wipe_out' hj]
            have hD3 : w3.H D = some (.lst vacc) := by rw [e3]; exact hD2
            have hC3 : w3.C D = none := by
              cases z : w3.C D with
              | none => rfl
              | some u =>
                rcases s3.newC D (by rw [z]; simp) with y | ⟨j, y⟩ | y
                · exact absurd hC2 y
                · exact absurd y (hfd j)
                · have y : H' D = none := y
                  rw [hD2] at y; cases y
            have hF3 : ∀ j, D ∉ w3.Fs j := fun j hj => by
              rcases s3.newF j D hj with ⟨j', y⟩ | y
              · exact hfd j' y
              · have y : H' D = none := y
                rw [hD2] at y; cases y
            have c3 : Ext w1.C w3.C := hc.tr (G.c.tr s3.c)
            have s03 : Stp (wipeW w1 vs) w3 := s'.trans (s2.trans s3)
            refine ⟨wp, w3, δ2, e3, k3, ?_⟩
            cases et : (t δ2).noexc with
            | bad => rw [et] at hr; cases hr
            | exc c δ4 => rw [et] at hr; cases hr
            | ok b δ3 =>
              rw [noexc_ok_inv et]
              rw [et] at hr
              simp only [Res.bind_ok] at hr
              intro w4 s4 k4
              have pers : ∀ w5, Stp w3 w5 → w5.H D = some (.lst vacc) ∧ w5.C D = none ∧ ∀ j, D ∉ w5.Fs j := fun w5 s5 => by
                refine ⟨s5.keep D _ hD3 hF3, ?_, fun j hj => ?_⟩
                · cases z : w5.C D with
                  | none => rfl
                  | some u =>
                    rcases s5.newC D (by rw [z]; simp) with y | ⟨j, y⟩ | y
                    · exact absurd hC3 y
                    · exact absurd y (hF3 j)
                    · rw [hD3] at y; cases y
                · rcases s5.newF j D hj with ⟨j', y⟩ | y
                  · exact hF3 j' y
                  · rw [hD3] at y; cases y
              cases b with
              | false =>
                dsimp only
                rw [if_neg Bool.false_ne_true] at hr ⊢
                obtain ⟨p1, p2, p3⟩ := pers w4 s4
                have kw := wipe_ok k4 vs
                rw [wp] at kw
                have sw := Stp.wipe w4 vs
                refine ⟨wipeW w4 vs, wipeS δ3 vs, acc, vacc, rfl, kw, c3.tr s4.c, (s03.trans s4).trans sw, p1, DatL.ext (G.c.tr (s3.c.tr s4.c)) acc vacc hda, p2, fun j hj => ?_, hr⟩
                rcases sw.newF j D hj with ⟨j', y⟩ | y
                · exact p3 j' y
                · rw [p1] at y; cases y
              | true =>
                dsimp only
                rw [if_pos rfl] at hr ⊢
                refine ⟨w4, δ3, rfl, k4, ?_⟩
                cases ee : (e δ3).noexc with
                | bad => rw [ee] at hr; cases hr
                | exc c δ5 => rw [ee] at hr; cases hr
                | ok o δ4 =>
                  rw [noexc_ok_inv ee]
                  rw [ee] at hr
                  simp only [Res.bind_ok] at hr
                  intro w5 s5 k5 v F ho d
                  obtain ⟨p1, p2, p3⟩ := pers w5 (s4.trans s5)
                  have hDF : D ∉ F := fun z => by
                    rcases d.og D z with ⟨j, y⟩ | y
                    · exact (pers w4 s4).2.2 j y
                    · rw [(pers w4 s4).1] at y; cases y
                  obtain ⟨k6, dv⟩ := close_ok k5 ho d
                  have kw := wipe_ok k6 vs
                  rw [wp] at kw
                  have hlacc : acc.length + 1 ≤ accF.length := by
                    have := lcL_le hr
                    rw [List.length_append] at this
                    simpa using this
                  have hvl : vacc.length = acc.length := hda.len.symm
                  refine ⟨vacc, p1, by rw [sizeLine_eq]; omega, ⟨clo w5.C w5.H F, upd w5.H D (.lst (vacc ++ [v])), fun i => if i ∈ vs then [] else w5.Fs i⟩, wipeS δ4 vs, acc ++ [view o], vacc ++ [v], rfl, ?_, ?_, ?_, upd_same, ?_, ?_, fun j hj => ?_, hr⟩
                  · -- the state over the longer list
                    have cDn : clo w5.C w5.H F D = none := by
                      show (if D ∈ F then w5.H D else w5.C D) = none
                      rw [if_neg hDF]; exact p2
                    refine ⟨kw.len, fun a u ha => ?_, fun i o' h' => ?_, kw.nil, kw.nd, kw.dj, kw.op⟩
                    · have ha2 : clo w5.C w5.H F a = some u := ha
                      have : a ≠ D := fun z => by rw [z, cDn] at ha2; cases ha2
                      show (upd w5.H D (.lst (vacc ++ [v]))) a = some u
                      rw [upd_ne this]
                      exact kw.le a u ha
                    · obtain ⟨v', y1, y2⟩ := kw.sl i o' h'
                      refine ⟨v', y1, Own.ext Ext.rfl' o' v' _ (fun a ha u hu => ?_) y2⟩
                      have : a ≠ D := fun z => by
                        subst z
                        have ha : a ∈ (if i ∈ vs then [] else w5.Fs i) := ha
                        by_cases hv : i ∈ vs
                        · rw [if_pos hv] at ha; simp at ha
                        · rw [if_neg hv] at ha; exact p3 i ha
                      show (upd w5.H D (.lst (vacc ++ [v]))) a = some u
                      rw [upd_ne this]; exact hu
                  · exact c3.tr (s4.c.tr (s5.c.tr (clo_ext d.cn)))
                  · -- the step from the block's start
                    have s05 : Stp (wipeW w1 vs) w5 := s03.trans (s4.trans s5)
                    refine ⟨s05.c.tr (clo_ext d.cn), fun a u ha n => ?_, fun a ha => ?_, fun a ha => ?_, fun j a ha => ?_⟩
                    · show (upd w5.H D _) a = some u
                      rw [upd_ne (dne a u ha)]
                      exact s05.keep a u ha n
                    · have ha : (upd w5.H D (.lst (vacc ++ [v]))) a = none := ha
                      by_cases hz : a = D
                      · rw [hz, upd_same] at ha; cases ha
                      · rw [upd_ne hz] at ha; exact s05.live a ha
                    · have ha : clo w5.C w5.H F a ≠ none := ha
                      by_cases hz : a ∈ F
                      · rcases d.og a hz with ⟨j, y⟩ | y
                        · rcases (s03.trans s4).newF j a y with y | y
                          · exact .inr (.inl y)
                          · exact .inr (.inr y)
                        · exact .inr (.inr ((s03.trans s4).live a y))
                      · refine s05.newC a fun z => ha ?_
                        show (if a ∈ F then w5.H a else w5.C a) = none
                        rw [if_neg hz]; exact z
                    · have ha : a ∈ (if j ∈ vs then [] else w5.Fs j) := ha
                      by_cases hv : j ∈ vs
                      · rw [if_pos hv] at ha; simp at ha
                      · rw [if_neg hv] at ha; exact s05.newF j a ha
                  · exact DatL.snoc (DatL.ext (G.c.tr (s3.c.tr (s4.c.tr (s5.c.tr (clo_ext d.cn))))) acc vacc hda) dv
                  · show (if D ∈ F then w5.H D else w5.C D) = none
                    rw [if_neg hDF]; exact p2
                  · have hj : D ∈ (if j ∈ vs then [] else w5.Fs j) := hj
                    by_cases hv : j ∈ vs
                    · rw [if_pos hv] at hj; simp at hj
                    · rw [if_neg hv] at hj; exact p3 j hj
      · left
        have ei : i = ds.length := by omega
        subst ei
        rw [List.drop_length] at hr
        unfold lcL at hr
        cases hr
        refine ⟨Y.stop w' pw k.le, ?_⟩
        have keepv : ∀ j, j ∈ vs → ∀ a ∈ w1.Fs j, ∀ u, w1.H a = some u → w'.H a = some u := fun j hj a ha u hu => s'.keep a u hu fun i' z => by
          have z : a ∈ (if i' ∈ vs then [] else w1.Fs i') := z
          by_cases hv : i' ∈ vs
          · rw [if_pos hv] at z; simp at z
          · rw [if_neg hv] at z
            exact hv (k1.dj i' j a z ha ▸ hj)
        have fv : ∀ j a, a ∈ w'.Fs j → (∃ i', i' ∉ vs ∧ a ∈ w1.Fs i') ∨ w1.H a = none := fun j a ha => by
          rcases s'.newF j a ha with ⟨i', z⟩ | z
          · have z : a ∈ (if i' ∈ vs then [] else w1.Fs i') := z
            by_cases hv : i' ∈ vs
            · rw [if_pos hv] at z; simp at z
            · rw [if_neg hv] at z; exact .inl ⟨i', hv, z⟩
          · exact .inr z
        have nv : ∀ j j' a, j ∈ vs → a ∈ w1.Fs j → a ∉ w'.Fs j' := fun j j' a hj ha z => by
          rcases fv j' a z with ⟨i', hv, y⟩ | y
          · exact hv (k1.dj i' j a y ha ▸ hj)
          · obtain ⟨u, hu⟩ := k1.there (i := j) ha
            rw [hu] at y; cases y
        have len' : δF.length = δ1.length := by rw [k.len, wipe_length, ← k1.len]
        refine q ⟨w'.C, w'.H, fun i => if i ∈ vs then w1.Fs i else w'.Fs i⟩ ⟨s'.c, fun a u ha n => ?_, fun a ha => s'.live a ha, fun a ha => ?_, fun j a ha => ?_⟩ ?_ ?_ (.ref D) [D] ⟨D, vacc, rfl, rfl, hacc, hda⟩ ⟨by simp, fun a ha => ?_, fun a ha j hj => ?_, fun a ha => ?_⟩
        · exact s'.keep a u ha fun i' z => by
            have z : a ∈ (if i' ∈ vs then [] else w1.Fs i') := z
            by_cases hv : i' ∈ vs
            · rw [if_pos hv] at z; simp at z
            · rw [if_neg hv] at z; exact n i' z
        · rcases s'.newC a ha with z | ⟨i', z⟩ | z
          · exact .inl z
          · have z : a ∈ (if i' ∈ vs then [] else w1.Fs i') := z
            by_cases hv : i' ∈ vs
            · rw [if_pos hv] at z; simp at z
            · rw [if_neg hv] at z; exact .inr (.inl ⟨i', z⟩)
          · exact .inr (.inr z)
        · have ha : a ∈ (if j ∈ vs then w1.Fs j else w'.Fs j) := ha
          by_cases hv : j ∈ vs
          · rw [if_pos hv] at ha; exact .inl ⟨j, ha⟩
          · rw [if_neg hv] at ha
            rcases fv j a ha with ⟨i', _, y⟩ | y
            · exact .inl ⟨i', y⟩
            · exact .inr y
        · -- the state behind
          refine ⟨by rw [backS_len, len', k1.len], k.le, fun j o h' => ?_, fun j h' => ?_, fun j => ?_, fun i' j a h1 h2 => ?_, fun j a ha => ?_⟩
          · show ∃ v, σ[j]? = some (some v) ∧ Own L K w'.C w'.H o v (if j ∈ vs then w1.Fs j else w'.Fs j)
            by_cases hv : j ∈ vs
            · rw [if_pos hv]
              have hj : j < δF.length := by
                have := lt_of_get h'
                rwa [backS_len] at this
              rw [backS_in hj hv] at h'
              have hj1 : j < δ1.length := by omega
              have h1 : δ1[j]? = some (some o) := by
                rw [getD_lt hj1] at h'
                rw [List.getElem?_eq_getElem hj1]; exact h'
              obtain ⟨v, y1, y2⟩ := k1.sl j o h1
              exact ⟨v, y1, Own.ext hc o v _ (keepv j hv) y2⟩
            · rw [if_neg hv]
              rw [backS_out hv] at h'
              obtain ⟨v, y1, y2⟩ := k.sl j o h'
              exact ⟨v, by rw [wipe_out' hv] at y1; exact y1, y2⟩
          · show (if j ∈ vs then w1.Fs j else w'.Fs j) = []
            by_cases hv : j ∈ vs
            · rw [if_pos hv]
              refine k1.nil j fun p hp => ?_
              have hj1 : j < δ1.length := lt_of_get hp
              refine h' p ?_
              rw [backS_in (by omega) hv, getD_lt hj1]
              rw [List.getElem?_eq_getElem hj1] at hp; exact hp
            · rw [if_neg hv]
              exact k.nil j fun p hp => h' p (by rw [backS_out hv]; exact hp)
          · show (if j ∈ vs then w1.Fs j else w'.Fs j).Nodup
            by_cases hv : j ∈ vs
            · rw [if_pos hv]; exact k1.nd j
            · rw [if_neg hv]; exact k.nd j
          · have h1 : a ∈ (if i' ∈ vs then w1.Fs i' else w'.Fs i') := h1
            have h2 : a ∈ (if j ∈ vs then w1.Fs j else w'.Fs j) := h2
            by_cases hv : i' ∈ vs
            · rw [if_pos hv] at h1
              by_cases hv2 : j ∈ vs
              · rw [if_pos hv2] at h2; exact k1.dj i' j a h1 h2
              · rw [if_neg hv2] at h2; exact absurd h2 (nv i' j a hv h1)
            · rw [if_neg hv] at h1
              by_cases hv2 : j ∈ vs
              · rw [if_pos hv2] at h2; exact absurd h1 (nv j i' a hv2 h2)
              · rw [if_neg hv2] at h2; exact k.dj i' j a h1 h2
          · have ha : a ∈ (if j ∈ vs then w1.Fs j else w'.Fs j) := ha
            show w'.C a = none
            by_cases hv : j ∈ vs
            · rw [if_pos hv] at ha
              cases z : w'.C a with
              | none => rfl
              | some u =>
                rcases s'.newC a (by rw [z]; simp) with y | ⟨i', y⟩ | y
                · exact absurd (k1.op j a ha) y
                · have y : a ∈ (if i' ∈ vs then [] else w1.Fs i') := y
                  by_cases hv2 : i' ∈ vs
                  · rw [if_pos hv2] at y; simp at y
                  · rw [if_neg hv2] at y
                    exact absurd (k1.dj i' j a y ha ▸ hv) hv2
                · obtain ⟨u', hu'⟩ := k1.there (i := j) ha
                  have y : w1.H a = none := y
                  rw [hu'] at y; cases y
            · rw [if_neg hv] at ha; exact k.op j a ha
        · exact s1.trans ⟨s'.c, fun a u ha n => s'.keep a u ha fun i' z => by
            have z : a ∈ (if i' ∈ vs then [] else w1.Fs i') := z
            by_cases hv : i' ∈ vs
            · rw [if_pos hv] at z; simp at z
            · rw [if_neg hv] at z; exact n i' z, fun a ha => s'.live a ha, fun a ha => by
            rcases s'.newC a ha with z | ⟨i', z⟩ | z
            · exact .inl z
            · have z : a ∈ (if i' ∈ vs then [] else w1.Fs i') := z
              by_cases hv : i' ∈ vs
              · rw [if_pos hv] at z; simp at z
              · rw [if_neg hv] at z; exact .inr (.inl ⟨i', z⟩)
            · exact .inr (.inr z), fun j a ha => by
            have ha : a ∈ (if j ∈ vs then w1.Fs j else w'.Fs j) := ha
            by_cases hv : j ∈ vs
            · rw [if_pos hv] at ha; exact .inl ⟨j, ha⟩
            · rw [if_neg hv] at ha
              rcases fv j a ha with ⟨i', _, y⟩ | y
              · exact .inl ⟨i', y⟩
              · exact .inr y⟩
        · have e : a = D := by simpa using ha
          subst e; exact hcd
        · have e : a = D := by simpa using ha
          subst e
          have hj : a ∈ (if j ∈ vs then w1.Fs j else w'.Fs j) := hj
          by_cases hv : j ∈ vs
          · rw [if_pos hv] at hj
            obtain ⟨u, hu⟩ := k1.there (i := j) hj
            rw [hD] at hu; cases hu
          · rw [if_neg hv] at hj; exact hfd j hj
        · have e : a = D := by simpa using ha
          subst e
          exact .inr (s1.live a hD)
    · rw [if_neg hlen] at q; exact q.elim
theorem rd_eLc {it : IM} {vs : List Nat} {g : GM} {t : TM} {e : EM} (h : tO L K E (eLc it vs g t e) σ H Q) :
    tLc (tI L K E it) (tG L K (compl vs) g) (tT L K E00 t) (tO L K E00 e) vs σ H Q := by
  obtain ⟨w, δ, eH, st, h⟩ := h
  exact ⟨w, δ, eH, st, (Fin.bind h).imp fun ds w1 δ1 s1 k1 q => fun J P Y p1 => lc_ok s1 k1 Y p1 q⟩
theorem rd_tYes {Q : Bool → Hp → Prop} (h : tT L K E tYesM σ H Q) : tYes σ H Q := by
  obtain ⟨w, δ, e, st, h⟩ := h
  subst e
  exact h w (Stp.refl w) st
end
theorem _root_.L2.PTs.imp' {X : Cx} {ifs : List Expr} {t t' : TT} (h : PTs X ifs t) (f : ∀ σ H Q, t' σ H Q → t σ H Q) : PTs X ifs t' := ⟨fun pins s σ H Q I q => h.run pins s σ H Q I (f σ H Q q)⟩
/-- within a comprehension's block nothing is raised -/
theorem xo_blk {X : Cx} {s : Shared} {H : Hp} {scope : Scope} {env : Env} {fp : List Addr} (hc : X.calm = true) : XOk (X.blk s H scope env fp) E00 :=
  ⟨fun _ _ _ _ _ _ _ h => by
    obtain ⟨_, _, _, _, _, _, _, _, _, _, _, _, z⟩ := h
    exact z.elim, takes0, PassesOwn.never, hc⟩
section
variable {X : Cx} {L : Lk} {E : XK} {lk : Nat → Bool}
abbrev PTst (X : Cx) (L : Lk) (E : XK) (es : List Expr) (t : TM) : Prop := PTs X es (tT L X.K E t)
theorem dts0 : PTst X L E [] tYesM := pts_nil.imp' fun _ _ _ => rd_tYes
theorem dts1 {c : Expr} {t : TM} (h : PTt X L E c t) : PTst X L E [c] t := pts_one h
theorem dlc {elt tg iter : Expr} {ifs : List Expr} {scope : Scope} (own : List (Str × Nat)) {pos : Pos} {it : IM} {g : GM} {t : TM} {e : EM} (hc : X.calm = true) (hN : X.N.Nodup) (hi : PIt X L E tg iter it) (ok : blkC X.N X.env.scope scope own = true)
    (hg : ∀ (s : Shared) (H : Hp) (C : Addr) (cl : List (Str × Addr)) (fp : List Addr), PGt (X.blk s H scope (compEnvC scope cl C X.env) fp) L (compl (own.map (·.2))) tg g) (ht : ∀ (s : Shared) (H : Hp) (C : Addr) (cl : List (Str × Addr)) (fp : List Addr), PTst (X.blk s H scope (compEnvC scope cl C X.env) fp) L E00 ifs t)
    (he : ∀ (s : Shared) (H : Hp) (C : Addr) (cl : List (Str × Addr)) (fp : List Addr), PV (X.blk s H scope (compEnvC scope cl C X.env) fp) L E00 elt e) (hs : ∀ x, foldedSetIterable iter X.env x = pure x := by intro _; rfl) :
    PV X L E (.ListComp elt [⟨tg, iter, ifs, 0⟩] scope pos) (eLc it (own.map (·.2)) g t e) :=
  (pe_lc hc hN hi (blkOk_by ok) hg ht he hs).imp' fun _ _ _ => rd_eLc
theorem dsetLc (i : Nat) {y : Str} {py : Pos} {elt tg iter : Expr} {ifs : List Expr} {scope : Scope} (own : List (Str × Nat)) {pos spos : Pos} {it : IM} {g : GM} {t : TM} {e : EM} (hc : X.calm = true) (hN : X.N.Nodup)
    (hi : PIt X L E tg iter it) (ok : blkC X.N X.env.scope scope own = true)
    (hg : ∀ (s : Shared) (H : Hp) (C : Addr) (cl : List (Str × Addr)) (fp : List Addr), PGt (X.blk s H scope (compEnvC scope cl C X.env) fp) L (compl (own.map (·.2))) tg g) (ht : ∀ (s : Shared) (H : Hp) (C : Addr) (cl : List (Str × Addr)) (fp : List Addr), PTst (X.blk s H scope (compEnvC scope cl C X.env) fp) L E00 ifs t)
    (he : ∀ (s : Shared) (H : Hp) (C : Addr) (cl : List (Str × Addr)) (fp : List Addr), PV (X.blk s H scope (compEnvC scope cl C X.env) fp) L E00 elt e)
    (hy : X.N[i]? = some y := by rfl) (hyl : X.env.scope.names.lookup y = some .local := by rfl)
    (hsw : swapsWith (.ListComp elt [⟨tg, iter, ifs, 0⟩] scope pos) (some (.Name y py)) spos.line X.env = pure true := by exact sw_true rfl rfl rfl (by decide +kernel)) (hs : ∀ x, foldedSetIterable iter X.env x = pure x := by intro _; rfl) :
    PSt X L E lk (.Assign [.Name y py] (.ListComp elt [⟨tg, iter, ifs, 0⟩] scope pos) spos) (sSet i (eLc it (own.map (·.2)) g t e)) :=
  (ps_setLc hc hN hy hyl hsw hi (blkOk_by ok) hg ht he hs).imp' fun D σ H h => by
    obtain ⟨w, δ, e, st, h⟩ := rd_sSet h
    exact rd_eLc (Q := fun x H1 => gName i x σ H1 D.nx) ⟨w, δ, e, st, h⟩
end
end Dn
set_option autoImplicit false
set_option Elab.async false
set_option linter.all false
set_option maxRecDepth 100000
/-! DenI: what is walked. -/
namespace Dn
open PySem PySem.Spec PyProof.Rows L2
section
variable {L : Lk} {K : PySem.W.Frag} {σ σ' σ0 : L2.St} {w w0 w1 w2 : Wl} {δ δ1 δ2 : Sl} {E : XK} {H : Hp} {Q : VK} {lk : Nat → Bool} {D' : Ends}
/-! ### a list, a tuple, a text -/
def iAny (K : PySem.W.Frag) (te : TE) : TI := fun σ H R => te σ H fun x H1 => (∃ a xs, x = .ref a ∧ SqL K H1 a xs ∧ R (Itl K a) H1) ∨ (∃ a xs, x = .ref a ∧ SqT K H1 a xs ∧ R (Itt K a) H1) ∨ ∃ z, x = .str z ∧ R (Its z) H1
theorem pi_any {X : Cx} {tg e : Expr} {te : TE} (he : PE X e te) : PI X tg e (iAny X.K te) := by
  refine ⟨fun pins s σ H R I h => ?_⟩
  refine thn (he.run pins s σ H _ I h) fun v s1 ⟨x, H1, I1, r1, q1⟩ => ?_
  rcases q1 with ⟨a, xs, e, hq, q⟩ | ⟨a, xs, e, hq, q⟩ | ⟨z, e, q⟩
  · subst e
    cases (show v = Value.ref a from r1)
    obtain ⟨its, rv, p, hz⟩ := I1.list hq
    exact wpAny_pyIter_list p.isList (pi_one (tk := s1.toks) I1 _ (turn_list a _) ⟨_, Heap.get?_push_size _ rfl, rfl, rfl⟩ q)
  · subst e
    cases (show v = Value.ref a from r1)
    obtain ⟨its, rv, p, hz⟩ := I1.tuple hq
    exact wpAny_pyIter_tuple (show s1.heap.IsTuple a its.toArray from p) (pi_one (tk := s1.toks) I1 _ (turn_tuple a _) ⟨_, Heap.get?_push_size _ rfl, rfl, rfl⟩ q)
  · subst e
    obtain ⟨t, rfl⟩ := (show ∃ t, v = Value.str z t from r1)
    cases ha : z.cps.all (· < 128)
    · exact wpAny_pyIter_wide ha (pi_one (tk := s1.toks) I1 _ (turn_str _ z t "str_iterator" (.inr rfl)) ⟨_, Heap.get?_push_size _ rfl, rfl, rfl⟩ q)
    · exact wpAny_pyIter_ascii ha (pi_one (tk := s1.toks) I1 _ (turn_str _ z t "str_ascii_iterator" (.inl rfl)) ⟨_, Heap.get?_push_size _ rfl, rfl, rfl⟩ q)
theorem atK {H : Hp} {a : Addr} {xs ys : List V} (h1 : H a = some (.lst xs)) (h2 : SqL K H a ys) (hn : ∀ o, K.lookup a = some o → False) : True := trivial
/-! yields -/
theorem grow_refl (le : Ext w.C w.H) : Grow w.C w.H w.C w.H := ⟨Ext.rfl', Ext.rfl', le, fun _ h => .inl h⟩
theorem len_lt {α : Type} {l : List α} {i : Nat} {d : α} (h : l[i]? = some d) : i < l.length := (List.getElem?_eq_some_iff.mp h).1
/-- a closed or held list -/
theorem yld_l {a : Addr} {vs : List V} {ds : List D} {P : Wl → Prop} (pres : ∀ w w', P w → Stp w w' → P w') (hp : ∀ w, P w → Ext w.C w.H → SqL K w.H a vs ∧ DatL L K w.C ds vs) : Yld L K (Itl K a) ds P where
  pres := pres
  stop := fun w p le => ⟨vs, (hp w p le).1, by rw [(hp w p le).2.len]; exact Nat.le_refl _⟩
  go := fun i d w e p le => by
    obtain ⟨h1, h2⟩ := hp w p le
    obtain ⟨v, hv, dv⟩ := h2.get e
    refine ⟨⟨vs, v, h1, hv⟩, fun x H' y => ?_⟩
    obtain ⟨rfl, y2⟩ := y
    have := y2 vs h1
    rw [hv] at this
    cases this
    exact ⟨w.C, grow_refl le, dv⟩
theorem yld_t {a : Addr} {vs : List V} {ds : List D} {P : Wl → Prop} (pres : ∀ w w', P w → Stp w w' → P w') (hp : ∀ w, P w → Ext w.C w.H → SqT K w.H a vs ∧ DatL L K w.C ds vs) : Yld L K (Itt K a) ds P where
  pres := pres
  stop := fun w p le => ⟨vs, (hp w p le).1, by rw [(hp w p le).2.len]; exact Nat.le_refl _⟩
  go := fun i d w e p le => by
    obtain ⟨h1, h2⟩ := hp w p le
    obtain ⟨v, hv, dv⟩ := h2.get e
    refine ⟨⟨vs, v, h1, hv⟩, fun x H' y => ?_⟩
    obtain ⟨rfl, y2⟩ := y
    have := y2 vs h1
    rw [hv] at this
    cases this
    exact ⟨w.C, grow_refl le, dv⟩
theorem yld_s (z : Str) : Yld L K (Its z) (z.cps.toList.map fun c => .str (sign c)) (fun _ => True) where
  pres := fun _ _ _ _ => trivial
  stop := fun w _ _ => by
    show z.cps.size ≤ _
    simp
  go := fun i d w e _ le => by
    have hl := len_lt e
    simp only [List.length_map, Array.length_toList] at hl
    refine ⟨hl, fun x H' y => ?_⟩
    obtain ⟨rfl, c, hc, rfl⟩ := y
    refine ⟨w.C, grow_refl le, ?_⟩
    rw [List.getElem?_map, Array.getElem?_toList, hc] at e
    cases e
    exact rfl
theorem ext_pres (C0 : Hp) : ∀ w w' : Wl, Ext C0 w.C → Stp w w' → Ext C0 w'.C := fun _ _ p s => p.tr s.c
theorem dat_ints {C : Hp} : ∀ xs : List Int, DatL L K C (xs.map .int) (xs.map V.int)
  | [] => rfl
  | x :: xs => ⟨V.int x, _, rfl, rfl, dat_ints xs⟩
/-- what a closed sequence gives -/
theorem seq_any {R : It → Hp → Prop} {d : D} {v : V} {ds : List D} {C0 : Hp} (hd : Dat L K C0 d v) (e : seqOf d = some ds) (hc : Ext C0 w.C) (le : Ext w.C w.H) (q : ∀ J P, Yld L K J ds P → P w → R J w.H) :
    (∃ a xs, v = .ref a ∧ SqL K w.H a xs ∧ R (Itl K a) w.H) ∨ (∃ a xs, v = .ref a ∧ SqT K w.H a xs ∧ R (Itt K a) w.H) ∨ ∃ z, v = .str z ∧ R (Its z) w.H := by
  cases d <;> first | (cases e; done) | skip
  · rename_i z
    cases e
    rw [show v = V.str z from hd]
    exact .inr (.inr ⟨z, rfl, q _ _ (yld_s z) trivial⟩)
  · rename_i xs
    cases e
    obtain ⟨a, vs, rfl, h2, h3⟩ := hd
    refine .inr (.inl ⟨a, vs, rfl, sqT_ext (hc.tr le) h2, q _ _ (yld_t (vs := vs) (ext_pres C0) fun w' p le' => ⟨sqT_ext (p.tr le') h2, DatL.ext p _ _ h3⟩) hc⟩)
  · rename_i xs
    cases e
    obtain ⟨a, vs, rfl, h2, h3⟩ := hd
    refine .inl ⟨a, vs, rfl, SqL.of (le _ _ (hc _ _ h2)), q _ _ (yld_l (vs := vs) (ext_pres C0) fun w' p le' => ⟨SqL.of (le' _ _ (p _ _ h2)), DatL.ext p _ _ h3⟩) hc⟩
  · rename_i xs
    cases e
    obtain ⟨a, rfl, h2⟩ := hd
    refine .inl ⟨a, _, rfl, sqL_ext (hc.tr le) h2, q _ _ (yld_l (vs := xs.map V.int) (ext_pres C0) fun w' p le' => ⟨sqL_ext (p.tr le') h2, dat_ints xs⟩) hc⟩
/-- a value in hand is closed: a step from where it began -/
theorem close_stp {F : List Addr} (s1 : Stp w w1) (d : Dis w w1 F) : Stp w ⟨clo w1.C w1.H F, w1.H, w1.Fs⟩ := by
  refine ⟨s1.c.tr (clo_ext d.cn), s1.keep, s1.live, fun a ha => ?_, s1.newF⟩
  have ha : clo w1.C w1.H F a ≠ none := ha
  by_cases hz : a ∈ F
  · exact .inr (d.og a hz)
  · refine s1.newC a fun z => ha ?_
    show (if a ∈ F then w1.H a else w1.C a) = none
    rw [if_neg hz]; exact z
/-- closing what was just made, or shared -/
theorem rd_iSeq {f : EM} {R : It → Hp → Prop} (h : tI L K E (iSeq f) σ H R) : iAny K (tO L K E f) σ H R := by
  obtain ⟨w, δ, e, st, h⟩ := h
  refine ⟨w, δ, e, st, ?_⟩
  unfold iSeq at h
  cases ef : f δ with
  | bad => rw [ef] at h; exact h
  | exc c δ1 => rw [ef] at h; exact h
  | ok o δ1 =>
    rw [ef] at h
    intro w1 s1 k1 v F ho d
    simp only [Res.bind_ok] at h
    cases es : seqOf (view o) with
    | none => rw [es] at h; exact h.elim
    | some ds =>
      rw [es] at h
      obtain ⟨k2, dv⟩ := close_ok k1 ho d
      exact seq_any (w := ⟨clo w1.C w1.H F, w1.H, w1.Fs⟩) dv es Ext.rfl' k2.le fun J P Y p => h _ (close_stp s1 d) k2 J P Y p
/-! ### a name's list, held -/
theorem hold_world {i : Nat} {o : O} {v : V} (st : StOk L K σ w δ) (hi : i < δ.length) (hv : σ[i]? = some (some v)) (ho : Own L K w.C w.H o v (w.Fs i)) {lk' : Nat → Bool} (hlk : lk' i = true)
    {w' : Wl} {δ' : Sl} (s' : Stp ⟨w.C, w.H, updF w.Fs i []⟩ w') (k' : StOk L K σ' w' δ') (l' : LkOk lk' σ σ') :
    Stp w ⟨w'.C, w'.H, updF w'.Fs i (w.Fs i)⟩ ∧ StOk L K σ' ⟨w'.C, w'.H, updF w'.Fs i (w.Fs i)⟩ (δ'.set i (some o)) ∧ ∀ F0, Dis ⟨w.C, w.H, updF w.Fs i []⟩ w' F0 → Dis w ⟨w'.C, w'.H, updF w'.Fs i (w.Fs i)⟩ F0 := by
  have dis : Dis w ⟨w.C, w.H, updF w.Fs i []⟩ (w.Fs i) := ⟨st.nd i, st.op i, fun a ha j hj => by
    have hj : a ∈ updF w.Fs i [] j := hj
    by_cases hji : j = i
    · rw [hji, updF_same] at hj; simp at hj
    · rw [updF_ne hji] at hj
      exact hji (st.dj j i a hj ha), fun a ha => .inl ⟨i, ha⟩⟩
  obtain ⟨p1, p2⟩ := Own.pend (w1 := ⟨w.C, w.H, updF w.Fs i []⟩) (w2 := w') ho dis s'
  have sw : Stp w w' := (Stp.take w i).trans s'
  have hl : i < δ'.length := by rw [k'.len, l'.1, ← st.len]; exact hi
  have hv' : σ'[i]? = some (some v) := (l'.2 i hlk).trans hv
  refine ⟨⟨sw.c, sw.keep, sw.live, sw.newC, fun j a ha => ?_⟩, k'.upd hl rfl Ext.rfl' k'.le (fun _ _ _ _ _ h => h) (fun j _ a h => k'.op j a h) (fun _ _ => rfl) (fun o' h' => ?_) (fun h => by cases h) (st.nd i) p2.cn (fun a ha j _ => p2.fs a ha j), fun F0 d0 => ⟨d0.nd, d0.cn, fun a ha j hj => ?_, fun a ha => ?_⟩⟩
  · have ha : a ∈ updF w'.Fs i (w.Fs i) j := ha
    by_cases hji : j = i
    · rw [hji, updF_same] at ha; exact .inl ⟨i, ha⟩
    · rw [updF_ne hji] at ha; exact sw.newF j a ha
  · cases h'
    exact ⟨v, hv', p1⟩
  · have hj : a ∈ updF w'.Fs i (w.Fs i) j := hj
    by_cases hji : j = i
    · rw [hji, updF_same] at hj
      rcases d0.og a ha with ⟨k, z⟩ | z
      · exact dis.fs a hj k z
      · obtain ⟨u, hu⟩ := st.there (i := i) hj
        have z : w.H a = none := z
        rw [hu] at z; cases z
    · rw [updF_ne hji] at hj; exact d0.fs a ha j hj
  · rcases d0.og a ha with ⟨k, z⟩ | z
    · exact (Stp.take w i).newF k a z
    · exact .inr z
theorem hold_fin {i : Nat} {o : O} {v : V} {r : SR} (st : StOk L K σ w δ) (hi : i < δ.length) (hv : σ[i]? = some (some v)) (ho : Own L K w.C w.H o v (w.Fs i)) {lk' : Nat → Bool} (hlk : lk' i = true) (hle : ∀ j, lk j = true → lk' j = true)
    (h : FinS L K E D' lk σ w (SR.back i o r)) : FinS L K E D' lk' σ ⟨w.C, w.H, updF w.Fs i []⟩ r := by
  have lko : ∀ σ', LkOk lk' σ σ' → LkOk lk σ σ' := fun σ' l => ⟨l.1, fun j hj => l.2 j (hle j hj)⟩
  cases r with
  | bad => exact h
  | exc c δ' => exact fun w' σ' ca hc s' k' l' => let ⟨a, b, _⟩ := hold_world st hi hv ho hlk s' k' l'; h ⟨w'.C, w'.H, updF w'.Fs i (w.Fs i)⟩ σ' ca hc a b (lko _ l')
  | nx δ' => exact fun w' σ' s' k' l' => let ⟨a, b, _⟩ := hold_world st hi hv ho hlk s' k' l'; h ⟨w'.C, w'.H, updF w'.Fs i (w.Fs i)⟩ σ' a b (lko _ l')
  | bk δ' => exact fun w' σ' s' k' l' => let ⟨a, b, _⟩ := hold_world st hi hv ho hlk s' k' l'; h ⟨w'.C, w'.H, updF w'.Fs i (w.Fs i)⟩ σ' a b (lko _ l')
  | ct δ' => exact fun w' σ' s' k' l' => let ⟨a, b, _⟩ := hold_world st hi hv ho hlk s' k' l'; h ⟨w'.C, w'.H, updF w'.Fs i (w.Fs i)⟩ σ' a b (lko _ l')
  | rt x δ' =>
    intro w' σ' y F s' k' l' hy d
    obtain ⟨a, b, c⟩ := hold_world st hi hv ho hlk s' k' l'
    exact h ⟨w'.C, w'.H, updF w'.Fs i (w.Fs i)⟩ σ' y F a b (lko _ l') hy (c F d)
theorem hold_finE {i : Nat} {o : O} {v : V} {r : Res O} (st : StOk L K σ w δ) (hi : i < δ.length) (hv : σ[i]? = some (some v)) (ho : Own L K w.C w.H o v (w.Fs i))
    (h : Fin L K E σ w (Res.back i o r) fun x w2 _ => ∀ y F, Own L K w2.C w2.H x y F → Dis w w2 F → Q y w2.H) : Fin L K E σ ⟨w.C, w.H, updF w.Fs i []⟩ r fun x w2 _ => ∀ y F, Own L K w2.C w2.H x y F → Dis ⟨w.C, w.H, updF w.Fs i []⟩ w2 F → Q y w2.H := by
  cases r with
  | bad => exact h
  | exc c δ' => exact fun w' ca hc s' k' => let ⟨a, b, _⟩ := hold_world (lk' := fun j => decide (j = i)) st hi hv ho (by simp) s' k' (LkOk.refl _ _); h ⟨w'.C, w'.H, updF w'.Fs i (w.Fs i)⟩ ca hc a b
  | ok x δ' =>
    intro w' s' k' y F hy d
    obtain ⟨a, b, c⟩ := hold_world (lk' := fun j => decide (j = i)) st hi hv ho (by simp) s' k' (LkOk.refl _ _)
    exact h ⟨w'.C, w'.H, updF w'.Fs i (w.Fs i)⟩ a b y F hy (c F d)
/-- the held list is walked -/
theorem held_any {R : It → Hp → Prop} {i : Nat} {o : O} {v : V} {ds : List D} (st : StOk L K σ w δ) (hop : isOpen o = true) (ho : Own L K w.C w.H o v (w.Fs i)) (e : seqOf (view o) = some ds)
    (q : ∀ J P, Yld L K J ds P → P ⟨w.C, w.H, updF w.Fs i []⟩ → R J w.H) : (∃ a xs, v = .ref a ∧ SqL K w.H a xs ∧ R (Itl K a) w.H) ∨ (∃ a xs, v = .ref a ∧ SqT K w.H a xs ∧ R (Itt K a) w.H) ∨ ∃ z, v = .str z ∧ R (Its z) w.H := by
  cases o <;> first | (cases hop; done) | (cases e; done) | skip
  rename_i xs
  cases e
  obtain ⟨p, vs, rfl, e2, e3, e4⟩ := ho
  have hp0 : ∀ j, p ∉ updF w.Fs i [] j := fun j hj => by
    by_cases hji : j = i
    · rw [hji, updF_same] at hj; simp at hj
    · rw [updF_ne hji] at hj
      exact hji (st.dj j i p hj (by rw [e2]; simp))
  refine .inl ⟨p, vs, rfl, SqL.of e3, q (Itl K p) (fun w' => Ext w.C w'.C ∧ w'.H p = some (.lst vs) ∧ ∀ j, p ∉ w'.Fs j) (yld_l (vs := vs) (fun w1 w2 P s => ⟨P.1.tr s.c, s.keep p _ P.2.1 P.2.2, fun j hj => ?_⟩) fun w' P le => ⟨SqL.of P.2.1, DatL.ext P.1 _ _ e4⟩) ⟨Ext.rfl', e3, hp0⟩⟩
  rcases s.newF j p hj with ⟨k, z⟩ | z
  · exact P.2.2 k z
  · rw [P.2.1] at z; cases z
theorem rd_sForH {i : Nat} {g : GM} {b : SM} (h : tSm L K E lk (sForH i g b) D' σ H) : tFor (iAny K (tVar i)) (tG L K (fun j => decide (j = i) || lk j) g) (tSm L K E (fun j => decide (j = i) || lk j) b) D' σ H := by
  obtain ⟨w, δ, e, st, h⟩ := h
  subst e
  unfold sForH holdS at h
  split at h
  · rename_i o hs
    obtain ⟨v, e1, ho⟩ := st.sl i o hs
    have hi := lt_of_get hs
    refine ⟨v, e1, ?_⟩
    cases es : seqOf (view o) with
    | none => rw [es] at h; exact h.elim
    | some ds =>
      rw [es] at h
      simp only at h
      by_cases hop : isOpen o = true
      · rw [if_pos hop] at h
        have h2 := hold_fin (lk' := fun j => decide (j = i) || lk j) st hi e1 ho (by simp) (fun j hj => by simp [hj]) h
        exact held_any (R := fun J H1 => tFor (fun _ H2 R => R J H2) (tG L K (fun j => decide (j = i) || lk j) g) (tSm L K E (fun j => decide (j = i) || lk j) b) D' σ H1) st hop ho es fun J P Y p => forL_ok (w1 := ⟨w.C, w.H, updF w.Fs i []⟩) Y p (Stp.refl _) (st.take hi) h2
      · rw [if_neg hop] at h
        have hd : ∃ x, o = .d x := by cases o <;> first | exact ⟨_, rfl⟩ | exact absurd rfl hop
        obtain ⟨x, rfl⟩ := hd
        have h2 : FinS L K E D' (fun j => decide (j = i) || lk j) σ w (sFor (iConst ds) g b (fun j => decide (j = i) || lk j) δ) := by
          cases er : sFor (iConst ds) g b (fun j => decide (j = i) || lk j) δ with
          | bad => rw [er] at h; exact h
          | exc c δ' => rw [er] at h; exact fun w' σ' ca hc s' k' l' => h w' σ' ca hc s' k' ⟨l'.1, fun j hj => l'.2 j (by simp [hj])⟩
          | nx δ' => rw [er] at h; exact fun w' σ' s' k' l' => h w' σ' s' k' ⟨l'.1, fun j hj => l'.2 j (by simp [hj])⟩
          | bk δ' => rw [er] at h; exact fun w' σ' s' k' l' => h w' σ' s' k' ⟨l'.1, fun j hj => l'.2 j (by simp [hj])⟩
          | ct δ' => rw [er] at h; exact fun w' σ' s' k' l' => h w' σ' s' k' ⟨l'.1, fun j hj => l'.2 j (by simp [hj])⟩
          | rt x δ' => rw [er] at h; exact fun w' σ' v F s' k' l' => h w' σ' v F s' k' ⟨l'.1, fun j hj => l'.2 j (by simp [hj])⟩
        exact seq_any (R := fun J H1 => tFor (fun _ H2 R => R J H2) (tG L K (fun j => decide (j = i) || lk j) g) (tSm L K E (fun j => decide (j = i) || lk j) b) D' σ H1) (C0 := w.C) ho.2 es Ext.rfl' st.le fun J P Y p => forL_ok Y p (Stp.refl _) st h2
  · exact h.elim
theorem rd_eLcH {i : Nat} {vs : List Nat} {g : GM} {t : TM} {e : EM} (h : tO L K E (eLcH i vs g t e) σ H Q) :
    tLc (iAny K (tVar i)) (tG L K (compl vs) g) (tT L K E00 t) (tO L K E00 e) vs σ H Q := by
  obtain ⟨w, δ, e0, st, h⟩ := h
  subst e0
  unfold eLcH holdE at h
  split at h
  · rename_i o hs
    obtain ⟨v, e1, ho⟩ := st.sl i o hs
    have hi := lt_of_get hs
    refine ⟨v, e1, ?_⟩
    cases es : seqOf (view o) with
    | none => rw [es] at h; exact h.elim
    | some ds =>
      rw [es] at h
      simp only at h
      by_cases hop : isOpen o = true
      · rw [if_pos hop] at h
        have h2 := hold_finE st hi e1 ho h
        exact held_any st hop ho es fun J P Y p => lc_ok (w := ⟨w.C, w.H, updF w.Fs i []⟩) (w1 := ⟨w.C, w.H, updF w.Fs i []⟩) (Stp.refl _) (st.take hi) Y p (h2.imp fun o w2 δ2 s2 k2 z _ => z)
      · rw [if_neg hop] at h
        have hd : ∃ x, o = .d x := by cases o <;> first | exact ⟨_, rfl⟩ | exact absurd rfl hop
        obtain ⟨x, rfl⟩ := hd
        exact seq_any (C0 := w.C) ho.2 es Ext.rfl' st.le fun J P Y p => lc_ok (w := w) (w1 := w) (Stp.refl _) st Y p (h.imp fun o w2 δ2 s2 k2 z _ => z)
  · exact h.elim
/-! ### range -/
theorem yld_r (lo : Int) (n : Nat) : Yld L K (Itr lo n) (intsFrom lo 1 n) (fun _ => True) where
  pres := fun _ _ _ _ => trivial
  stop := fun w _ _ => by
    show n ≤ _
    simp [intsFrom]
  go := fun i d w e _ le => by
    have hl := len_lt e
    simp only [intsFrom, List.length_map, List.length_range] at hl
    refine ⟨hl, fun x H' y => ?_⟩
    obtain ⟨rfl, rfl⟩ := y
    refine ⟨w.C, grow_refl le, ?_⟩
    unfold intsFrom at e
    rw [List.getElem?_map, List.getElem?_range hl] at e
    cases e
    show V.int _ = V.int _
    rw [Int.mul_one]
theorem yld_c (lo c : Int) (n : Nat) : Yld L K (Itc lo c n) (intsFrom lo c n) (fun _ => True) where
  pres := fun _ _ _ _ => trivial
  stop := fun w _ _ => by
    show n ≤ _
    simp [intsFrom]
  go := fun i d w e _ le => by
    have hl := len_lt e
    simp only [intsFrom, List.length_map, List.length_range] at hl
    refine ⟨hl, fun x H' y => ?_⟩
    obtain ⟨rfl, rfl⟩ := y
    refine ⟨w.C, grow_refl le, ?_⟩
    unfold intsFrom at e
    rw [List.getElem?_map, List.getElem?_range hl] at e
    cases e
    exact rfl
theorem smallI_b {i : Int} (h : smallI i = true) : -(2 ^ 62) ≤ i ∧ i < 2 ^ 62 := by
  unfold smallI at h
  simp only [decide_eq_true_eq] at h
  omega
theorem vw_int {C H : Hp} {i : Int} {v : V} (h : Vw L K C H (.int i) v) : v = .int i := h
/-- an operator on operands gives the items -/
theorem rd_iN {op : List D → Option (List D)} {as : AM} {R : It → Hp → Prop} {T : List V → Hp → Prop} (h : tI L K E (iN op as) σ H R)
    (hT : ∀ xs ds vs w1, op xs = some ds → VwL L K w1.C w1.H xs vs → Ext w1.C w1.H → (∀ J P, Yld L K J ds P → P w1 → R J w1.H) → T vs w1.H) : tAs L K E as σ H T := by
  obtain ⟨w, δ, e, st, h⟩ := h
  refine ⟨w, δ, e, st, (Fin.bind h).imp fun hs w1 δ1 s1 k1 q => ?_⟩
  intro vs F hv d
  cases e1 : rdAll δ1 hs with
  | none => rw [e1] at q; exact q.elim
  | some xs =>
    rw [e1] at q
    simp only at q
    cases e2 : op xs with
    | none => rw [e2] at q; exact q.elim
    | some ds =>
      rw [e2] at q
      exact hT xs ds vs w1 e2 (rdAll_vw k1 hv e1) k1.le fun J P Y p => q w1 (Stp.refl _) k1 s1 J P Y p
end
section
variable {X : Cx} {L : Lk} {E : XK} {lk : Nat → Bool} {tg : Expr}
theorem diSeq {e : Expr} {f : EM} (he : PV X L E e f) : PIt X L E tg e (iSeq f) := (pi_any he).imp' fun _ _ _ => rd_iSeq
theorem diN1 {a : Expr} {as : AM} {p pos : Pos} (hm : X.mg "range" = none) (ha : PAs X L E [a] as) (hg : Gl X "range" := by rfl) (hs : starEach [a] X.env = [(false, eval a X.env)] := by rfl) :
    PIt X L E tg (.Call (.Name "range" p) [a] [] pos) (iN rangeOp as) := by
  refine (pi_range1 hg hm ha hs).imp' fun σ H R h => ?_
  refine rd_iN h fun xs ds vs w1 e vw le q => ?_
  unfold rangeOp at e
  split at e
  · rename_i j
    split at e
    · rename_i hj
      cases e
      obtain ⟨v, r, rfl, h1, rfl⟩ := vw
      rw [vw_int h1]
      exact ⟨j, rfl, (smallI_b hj).1, (smallI_b hj).2, q _ _ (yld_r _ _) trivial⟩
    · cases e
  · cases e
theorem diN2 {a b : Expr} {as : AM} {p pos : Pos} (hm : X.mg "range" = none) (ha : PAs X L E [a, b] as) (hg : Gl X "range" := by rfl) (hs : starEach [a, b] X.env = [(false, eval a X.env), (false, eval b X.env)] := by rfl) (hs2 : starEach [b] X.env = [(false, eval b X.env)] := by rfl) :
    PIt X L E tg (.Call (.Name "range" p) [a, b] [] pos) (iN rangeOp2 as) := by
  refine (pi_range2 hg hm ha hs hs2).imp' fun σ H R h => ?_
  refine rd_iN h fun xs ds vs w1 e vw le q => ?_
  unfold rangeOp2 at e
  split at e
  · rename_i i j
    split at e
    · rename_i hj
      cases e
      obtain ⟨v, r, rfl, h1, v2, r2, rfl, h2, rfl⟩ := vw
      rw [vw_int h1, vw_int h2]
      exact ⟨i, j, rfl, ⟨(smallI_b hj.1).1, (smallI_b hj.1).2, (smallI_b hj.2).1, (smallI_b hj.2).2⟩, q _ _ (yld_r _ _) trivial⟩
    · cases e
  · cases e
theorem diN3 {a b c : Expr} {as : AM} {p pos : Pos} (hm : X.mg "range" = none) (ha : PAs X L E [a, b, c] as) (hg : Gl X "range" := by rfl) (hs : starEach [a, b, c] X.env = (false, eval a X.env) :: starEach [b, c] X.env := by rfl)
    (hpl : (backTo pos (starEach [b, c] X.env)).any (·.1) = false := by rfl) : PIt X L E tg (.Call (.Name "range" p) [a, b, c] [] pos) (iN rangeOp3 as) := by
  refine (pi_range3 hg hm ha hs hpl).imp' fun σ H R h => ?_
  refine rd_iN h fun xs ds vs w1 e vw le q => ?_
  unfold rangeOp3 at e
  split at e
  · rename_i i j c
    split at e
    · rename_i hj
      cases e
      obtain ⟨h1, h2, rfl⟩ := hj
      obtain ⟨v, r, rfl, h3, v2, r2, rfl, h4, v3, r3, rfl, h5, rfl⟩ := vw
      rw [vw_int h3, vw_int h4, vw_int h5]
      exact ⟨i, j, -1, _, rfl, RgC.neg (smallI_b h1).1 (smallI_b h1).2 (smallI_b h2).1 (smallI_b h2).2, q _ _ (yld_c _ _ _) trivial⟩
    · cases e
  · cases e
theorem dforH (i : Nat) {x : Str} {iter : Expr} {p pos : Pos} {body : List Stmt} {g : GM} {b : SM} (xo : XOk X E) (hg : ∀ lk, PGt X L lk tg g) (hb : ∀ lk, PSts X L E lk body b) (hN : X.N[i]? = some x := by rfl) (hv : Vis X.env.scope x := by first | exact Or.inl rfl | exact Or.inr (Or.inl rfl) | exact Or.inr (Or.inr rfl)) (hd : (x == ("__debug__" : Str)) = false := by decide)
    (hcd : (x == ("__classdict__" : Str)) = false := by decide) (hs : ∀ y, foldedSetIterable (.Name x p) X.env y = pure y := by intro _; rfl) : PSt X L E lk (.For tg (.Name x p) body [] pos) (sForH i g b) :=
  (ps_for xo.own xo.calm (pi_any (pe_var hN hv hd hcd)) (hg _) (hb _) hs).imp' fun _ _ _ => rd_sForH
theorem dlcH (i : Nat) {x : Str} {p : Pos} {elt : Expr} {ifs : List Expr} {scope : Scope} (own : List (Str × Nat)) {pos : Pos} {g : GM} {t : TM} {e : EM} (hc : X.calm = true) (hN : X.N.Nodup) (ok : blkC X.N X.env.scope scope own = true)
    (hg : ∀ (s : Shared) (H : Hp) (C : Addr) (cl : List (Str × Addr)) (fp : List Addr), PGt (X.blk s H scope (compEnvC scope cl C X.env) fp) L (compl (own.map (·.2))) tg g) (ht : ∀ (s : Shared) (H : Hp) (C : Addr) (cl : List (Str × Addr)) (fp : List Addr), PTst (X.blk s H scope (compEnvC scope cl C X.env) fp) L E00 ifs t)
    (he : ∀ (s : Shared) (H : Hp) (C : Addr) (cl : List (Str × Addr)) (fp : List Addr), PV (X.blk s H scope (compEnvC scope cl C X.env) fp) L E00 elt e) (hi : X.N[i]? = some x := by rfl) (hv : Vis X.env.scope x := by first | exact Or.inl rfl | exact Or.inr (Or.inl rfl) | exact Or.inr (Or.inr rfl)) (hd : (x == ("__debug__" : Str)) = false := by decide)
    (hcd : (x == ("__classdict__" : Str)) = false := by decide) (hs : ∀ y, foldedSetIterable (.Name x p) X.env y = pure y := by intro _; rfl) :
    PV X L E (.ListComp elt [⟨tg, .Name x p, ifs, 0⟩] scope pos) (eLcH i (own.map (·.2)) g t e) :=
  (pe_lc hc hN (pi_any (pe_var hi hv hd hcd)) (blkOk_by ok) hg ht he hs).imp' fun _ _ _ => rd_eLcH
theorem dsetLcH (k i : Nat) {y x : Str} {py p : Pos} {elt : Expr} {ifs : List Expr} {scope : Scope} (own : List (Str × Nat)) {pos spos : Pos} {g : GM} {t : TM} {e : EM} (hc : X.calm = true) (hN : X.N.Nodup) (ok : blkC X.N X.env.scope scope own = true)
    (hg : ∀ (s : Shared) (H : Hp) (C : Addr) (cl : List (Str × Addr)) (fp : List Addr), PGt (X.blk s H scope (compEnvC scope cl C X.env) fp) L (compl (own.map (·.2))) tg g) (ht : ∀ (s : Shared) (H : Hp) (C : Addr) (cl : List (Str × Addr)) (fp : List Addr), PTst (X.blk s H scope (compEnvC scope cl C X.env) fp) L E00 ifs t)
    (he : ∀ (s : Shared) (H : Hp) (C : Addr) (cl : List (Str × Addr)) (fp : List Addr), PV (X.blk s H scope (compEnvC scope cl C X.env) fp) L E00 elt e)
    (hy : X.N[k]? = some y := by rfl) (hyl : X.env.scope.names.lookup y = some .local := by rfl)
    (hsw : swapsWith (.ListComp elt [⟨tg, .Name x p, ifs, 0⟩] scope pos) (some (.Name y py)) spos.line X.env = pure true := by exact sw_true rfl rfl rfl (by decide +kernel))
    (hi : X.N[i]? = some x := by rfl) (hv : Vis X.env.scope x := by first | exact Or.inl rfl | exact Or.inr (Or.inl rfl) | exact Or.inr (Or.inr rfl)) (hd : (x == ("__debug__" : Str)) = false := by decide)
    (hcd : (x == ("__classdict__" : Str)) = false := by decide) (hs : ∀ z, foldedSetIterable (.Name x p) X.env z = pure z := by intro _; rfl) :
    PSt X L E lk (.Assign [.Name y py] (.ListComp elt [⟨tg, .Name x p, ifs, 0⟩] scope pos) spos) (sSet k (eLcH i (own.map (·.2)) g t e)) :=
  (ps_setLc hc hN hy hyl hsw (pi_any (pe_var hi hv hd hcd)) (blkOk_by ok) hg ht he hs).imp' fun D σ H h => by
    obtain ⟨w, δ, e, st, h⟩ := rd_sSet h
    exact rd_eLcH (Q := fun x H1 => gName k x σ H1 D.nx) ⟨w, δ, e, st, h⟩
end
end Dn
set_option autoImplicit false
/-! DenP: the operations on data. -/
namespace Dn
open PySem L2

mutual
/-- without sets, dicts, objects -/
def plainD : D → Bool
  | .non | .bl _ | .int _ | .str _ => true
  | .tup xs | .lst xs => plainL xs
  | .set _ | .dct _ | .obj _ _ | .fn _ | .scr _ => false
def plainL : List D → Bool
  | [] => true
  | x :: xs => plainD x && plainL xs
end
mutual
def depD : D → Nat
  | .tup xs | .lst xs => depL xs + 1
  | _ => 0
def depL : List D → Nat
  | [] => 0
  | x :: xs => max (depD x) (depL xs)
end
mutual
def eqvD : D → D → Bool
  | .non, .non => true
  | .bl a, .bl b => a == b
  | .bl a, .int j => (if a then 1 else 0) == j
  | .int i, .bl b => i == (if b then 1 else 0)
  | .int i, .int j => i == j
  | .str x, .str y => x == y
  | .lst xs, .lst ys => eqvL xs ys
  | .tup xs, .tup ys => eqvL xs ys
  | _, _ => false
def eqvL : List D → List D → Bool
  | [], [] => true
  | x :: xs, y :: ys => eqvD x y && eqvL xs ys
  | _, _ => false
end
abbrev ob (b : Bool) : Option O := some (.d (.bl b))
abbrev oi (i : Int) : Option O := some (.d (.int i))
def cmpOk (x y : D) : Bool := plainD x && plainD y && decide (min (depD x) (depD y) ≤ 40)
def eqO (x y : D) : Option O := if cmpOk x y = true then ob (eqvD x y) else none
def neO (x y : D) : Option O := if cmpOk x y = true then ob (!eqvD x y) else none
def intO (f : Int → Int → Int) : D → D → Option O
  | .int i, .int j => oi (f i j)
  | _, _ => none
def ltO : D → D → Option O
  | .int i, .int j => ob (decide (i < j))
  | _, _ => none
def leO : D → D → Option O
  | .int i, .int j => ob (decide (i ≤ j))
  | _, _ => none
def gtO : D → D → Option O
  | .int i, .int j => ob (decide (j < i))
  | _, _ => none
def geO : D → D → Option O
  | .int i, .int j => ob (decide (j ≤ i))
  | _, _ => none
def isNoneB : D → Bool
  | .non => true
  | _ => false
def isO : D → D → Option O
  | x, .non => ob (isNoneB x)
  | .bl a, .bl b => ob (decide (a = b))
  | _, _ => none
def notIsO : D → D → Option O
  | x, .non => ob (!isNoneB x)
  | .bl a, .bl b => ob (!decide (a = b))
  | _, _ => none
def addO : D → D → Option O
  | .int i, .int j => oi (i + j)
  | .str x, .str y => if x.length + y.length ≤ 1000000 then some (.d (.str (x ++ y))) else none
  | .lst xs, .lst ys => if xs.length + ys.length ≤ 1000000 then some (.lst (xs ++ ys)) else none
  | .tup xs, .tup ys => if xs.length + ys.length ≤ 1000000 then some (.d (.tup (xs ++ ys))) else none
  | _, _ => none
def subO : D → D → Option O
  | .int i, .int j => oi (i - j)
  | _, _ => none
/-- the left factor below 2 ^ 60, or the right one, or both of few bits -/
def mulO : D → D → Option O
  | .int i, .int j => if i.natAbs < 2 ^ 60 ∨ j.natAbs < 2 ^ 60 then oi (i * j) else if i.natAbs < 2 ^ 9000 ∧ j.natAbs < 2 ^ 9000 then oi (i * j) else none
  | .tup xs, .int k => if 2 ≤ k ∧ k < 2 ^ 60 ∧ xs ≠ [] ∧ xs.length * k.toNat ≤ 1000000 then some (.d (.tup (List.replicate k.toNat xs).flatten)) else none
  | .str x, .int k => if 0 ≤ k ∧ k < 2 ^ 60 ∧ x.length * k.toNat ≤ 1000000 then some (.d (.str (PySem.Txt.mul x k))) else none
  | .lst xs, .int k => if -(2 ^ 60) ≤ k ∧ k < 2 ^ 60 ∧ xs.length * k.toNat ≤ 1000000 then some (.lst (List.replicate k.toNat xs).flatten) else none
  | _, _ => none
def fdivO : D → D → Option O
  | .int i, .int j => if 0 < j ∧ j.natAbs < 2 ^ 8000 then oi (i / j) else none
  | _, _ => none
def modO : D → D → Option O
  | .int i, .int j => if 0 < j then oi (i % j) else none
  | _, _ => none
def powO : D → D → Option O
  | .int i, .int j => if 0 ≤ j ∧ j ≤ 10000 ∧ i.natAbs < 2 ^ 8000 then oi (i ^ j.toNat) else none
  | _, _ => none
def negO : D → Option O
  | .int i => oi (-i)
  | _ => none
def lenO : D → Option O
  | .str x => if x.length ≤ 1000000 then oi x.length else none
  | .lst xs => oi xs.length
  | .tup xs => oi xs.length
  | .scr xs => oi xs.length
  | .set xs => oi xs.length
  | .dct xs => oi xs.length
  | _ => none
def U1 (f : D → Option O) : List D → Option O
  | [x] => f x
  | _ => none
def U2 (f : D → D → Option O) : List D → Option O
  | [x, y] => f x y
  | _ => none
def ixNat (n : Nat) (i : Int) : Option Nat := if 0 ≤ i then (if i < n then some i.toNat else none) else if -(n : Int) ≤ i then some (i + n).toNat else none
def atD {α : Type} (xs : List α) (i : Int) : Option α := (ixNat xs.length i).bind fun j => xs[j]?
def ixO : D → D → Option O
  | .lst xs, .int i => (atD xs i).map .d
  | .tup xs, .int i => (atD xs i).map .d
  | .scr xs, .int i => (atD xs i).map fun k => .d (.int k)
  | .str x, .int i => if x.length ≤ 1000000 then (atD x.cps.toList i).map fun c => .d (.str (sign c)) else none
  | _, _ => none
/-- a slice's bound as a place among n -/
def bnd (n d : Nat) : Option Int → Nat
  | none => d
  | some v => if v < 0 then (v + (n : Int)).toNat else min v.toNat n
def cutL {α : Type} (xs : List α) (lo hi : Option Int) : List α := (xs.drop (bnd xs.length 0 lo)).take (bnd xs.length xs.length hi - bnd xs.length 0 lo)
def cutStr (x : Str) (lo hi : Option Int) : Str := ⟨(cutL x.cps.toList lo hi).toArray⟩
def cutO (x : D) (lo hi : Option Int) : Option O := match x with
  | .lst xs => some (.lst (cutL xs lo hi))
  | .tup xs => some (.d (.tup (cutL xs lo hi)))
  | .str x => if x.length ≤ 1000000 then some (.d (.str (cutStr x lo hi))) else none
  | _ => none
def memD (x : D) (xs : List D) : Bool := xs.any fun y => eqvD y x
/-- one sign in a text -/
def inO (x c : D) : Option O := match c with
  | .lst xs => if plainL xs = true ∧ plainD x = true ∧ min (depL xs) (depD x) ≤ 40 then ob (memD x xs) else none
  | .tup xs => if plainL xs = true ∧ plainD x = true ∧ min (depL xs) (depD x) ≤ 40 then ob (memD x xs) else none
  | .str z => match x with
    | .str y => match y.cps.toList with
      | [n] => ob (decide (n ∈ z.cps.toList))
      | _ => none
    | _ => none
  | .set xs => match keyD x, keysOf xs with
    | some k, some ks => ob (hasK ks k)
    | _, _ => none
  | .dct kvs => match keyD x, keysOf (kvs.map (·.1)) with
    | some k, some ks => ob (hasK ks k)
    | _, _ => none
  | _ => none
def notO : Option O → Option O
  | some (.d (.bl b)) => ob (!b)
  | _ => none
def ninO (x c : D) : Option O := notO (inO x c)
/-- isinstance of a built-in class -/
def isiB (T : String) : D → Option Bool
  | .non => some false
  | .bl _ => some (T == "bool" || T == "int")
  | .int _ => some (T == "int")
  | .str _ => some (T == "str")
  | .tup _ => some (T == "tuple")
  | .lst _ => some (T == "list")
  | .dct _ => some (T == "dict")
  | _ => none
def isiO (T : String) (x : D) : Option O := (isiB T x).map fun b => .d (.bl b)
def listO : D → Option O
  | .lst xs => some (.lst xs)
  | .tup xs => some (.lst xs)
  | .str z => if z.length ≤ 1000000 then some (.lst (z.cps.toList.map fun c => .str (sign c))) else none
  | _ => none
def tupleO : D → Option O
  | .lst xs => some (.d (.tup xs))
  | .tup xs => some (.d (.tup xs))
  | _ => none
def boolsOf : List D → Option (List Bool)
  | [] => some []
  | .bl b :: r => (boolsOf r).map (b :: ·)
  | _ => none
def allO : D → Option O
  | .lst xs => (boolsOf xs).bind fun bs => ob (bs.all id)
  | _ => none
def anyO : D → Option O
  | .lst xs => (boolsOf xs).bind fun bs => ob (bs.any id)
  | _ => none
def intsOf : List D → Option (List Int)
  | [] => some []
  | .int b :: r => (intsOf r).map (b :: ·)
  | _ => none
def strsOf : List D → Option (List Str)
  | [] => some []
  | .str b :: r => (strsOf r).map (b :: ·)
  | _ => none
def absO : D → Option O
  | .int i => oi (if i < 0 then -i else i)
  | _ => none
def intCO : D → Option O
  | .int i => oi i
  | .bl b => oi (if b then 1 else 0)
  | _ => none
def max2O : D → D → Option O
  | .int i, .int j => oi (if j > i then j else i)
  | _, _ => none
def min2O : D → D → Option O
  | .int i, .int j => oi (if j < i then j else i)
  | _, _ => none
/-- sets of ints and texts -/
def dOfK : Key → D
  | .inl i => .int i
  | .inr x => .str x
def addK (l : List Key) (k : Key) : List Key := if hasK l k = true then l else l ++ [k]
def dedK (l : List Key) : List Key := l.foldl addK []
def setO : D → Option O
  | .lst xs => (keysOf xs).bind fun ks => if ks.length ≤ 4000 then some (.set ((dedK ks).map dOfK)) else none
  | .tup xs => (keysOf xs).bind fun ks => if ks.length ≤ 4000 then some (.set ((dedK ks).map dOfK)) else none
  | _ => none
/-- texts -/
def totL (ys : List Str) : Nat := (ys.map (·.length)).sum
def joinL (x : D) (xs : List D) : Option O := match x, strsOf xs with
  | .str a, some ys => if totL ys + ys.length * a.length ≤ 1000000 then some (.d (.str (PySem.Txt.join a ys))) else none
  | _, _ => none
def joinO (x : D) : D → Option O
  | .lst xs => joinL x xs
  | .tup xs => joinL x xs
  | _ => none
def splitO : D → D → Option O
  | .str a, .str b => if b.length ≠ 0 ∧ a.length ≤ 1000000 then some (.lst ((PySem.Txt.split a b).map .str)) else none
  | _, _ => none
/-! plain data as the library's -/
mutual
def toP : D → PyData
  | .non => .none
  | .bl b => .bool b
  | .int i => .int i
  | .str x => .str x
  | .tup xs => .tuple (toPL xs)
  | .lst xs => .list (toPL xs)
  | _ => .none
def toPL : List D → List PyData
  | [] => []
  | x :: xs => toP x :: toPL xs
end
def reprO (d : D) : Option O := match d with
  | .lst _ | .tup _ => if plainD d = true ∧ depD d ≤ 40 ∧ (toP d).showable = true ∧ (toP d).shown.length ≤ 1000000 then some (.d (.str (toP d).shown)) else none
  | _ => none
/-- displays: the items are closed -/
def lstO (xs : List D) : Option O := if xs.length ≤ 1000000 then some (.lst xs) else none
def tupO (xs : List D) : Option O := if xs.length ≤ 1000000 then some (.d (.tup xs)) else none
end Dn
set_option autoImplicit false
set_option Elab.async false
set_option linter.all false
set_option maxRecDepth 100000
/-! DenSet: set(xs), its items ints and texts. -/
namespace Dn
open PySem PySem.Spec PyProof.Rows L2
theorem dedK_snoc (l : List Key) (k : Key) : dedK (l ++ [k]) = addK (dedK l) k := by
  unfold dedK; rw [List.foldl_append]; rfl
theorem addK_len (l : List Key) (k : Key) : (addK l k).length = if hasK l k = true then l.length else l.length + 1 := by
  unfold addK
  by_cases h : hasK l k = true
  · rw [if_pos h, if_pos h]
  · rw [if_neg h, if_neg h]; simp
theorem addK_mem (l : List Key) (k j : Key) : hasK (addK l k) j = (hasK l j || decide (j = k)) := by
  unfold addK
  by_cases h : hasK l k = true
  · rw [if_pos h]
    by_cases e : j = k
    · subst e; simp [h]
    · simp [e]
  · rw [if_neg h]
    unfold hasK
    rw [List.any_append]
    by_cases e : j = k
    · subst e; simp
    · have : ¬ k = j := fun z => e z.symm
      simp [e, this]
theorem dedK_le (l : List Key) : ∀ acc : List Key, (l.foldl addK acc).length ≤ acc.length + l.length := by
  induction l with
  | nil => intro acc; simp
  | cons k l ih =>
    intro acc
    have h := ih (addK acc k)
    have h2 := addK_len acc k
    rw [List.foldl_cons, List.length_cons]
    split at h2 <;> omega
section
variable {prog : Program} {w : World} {A : Around} {R : Result → Shared → Prop} {I : Addr} {fp wr : List Addr} {G : Array GenState → Array GenState → Prop} {n : Nat} {P : Nat → Value → Prop} {St : Nat → Shared → Prop}
theorem loopMix (W : WalksS prog w A.in1 I fp wr G n P St) (S : Addr) (hSf : S ∉ fp) (ks : List Key) (hsz : ks.length = n) (hn1 : n + 1 < scanBound)
    (hval : ∀ i v k, P i v → ks[i]? = some k → RelV (kV k) v) :
    ∀ (k i : Nat) (s : Shared), n - i = k → i ≤ n → St i s →
      s.heap.SetOf (mixKind prog w) S (hasK (dedK (ks.take i))) (dedK (ks.take i)).length →
      (∀ s', Moved (S :: wr) G s s' → s'.heap.SetOf (mixKind prog w) S (hasK (dedK ks)) (dedK ks).length → R (.ok (.ret .none)) s') →
      codeAny (model prog w) A (.builtin "set.update.loop" ⟨[.ref S, .ref I], []⟩) R s := by
  have hSw : S ∉ wr := fun h => hSf (W.sub _ h)
  have hsub : ∀ b ∈ wr, b ∈ S :: wr := fun b hb => List.mem_cons_of_mem _ hb
  intro k
  induction k with
  | zero =>
    intro i s hk hi hst hS hR
    have hin : i = n := by omega
    subst hin
    refine codeAny_builtin PyProof.Rows.F.entry_set_update_loop ?_
    rw [Around.under_plainId PyProof.Rows.F.plain_set_update_loop _]
    show wpAny _ A.in1 (pyNext (.ref I) >>= _) _ _ s
    refine wpAny_bind (W.done s _ _ hst fun s' hm => ?_)
    show wpAny _ A.in1 (ret Value.none) _ _ s'
    refine wpAny_pure (hR s' (hm.mono hsub) ?_)
    rw [List.take_of_length_le (by omega)] at hS
    obtain ⟨o, es, ep, t, ho, rest⟩ := hS
    exact ⟨o, es, ep, t, hm.heap S _ hSw ho, rest⟩
  | succ k ih =>
    intro i s hk hi hst hS hR
    have hlt : i < n := by omega
    refine codeAny_builtin PyProof.Rows.F.entry_set_update_loop ?_
    rw [Around.under_plainId PyProof.Rows.F.plain_set_update_loop _]
    show wpAny _ A.in1 (pyNext (.ref I) >>= _) _ _ s
    refine wpAny_bind (W.item i s _ _ hlt hst fun v s' hP hst' hm => ?_)
    have hki : ks[i]? = some ks[i] := List.getElem?_eq_getElem (by omega)
    have rv := hval i v _ hP hki
    have hS' : s'.heap.SetOf (mixKind prog w) S (hasK (dedK (ks.take i))) (dedK (ks.take i)).length := by
      obtain ⟨o, es, ep, tb, ho, rest⟩ := hS
      exact ⟨o, es, ep, tb, hm.heap S _ hSw ho, rest⟩
    show wpAny _ A.in1 (holding [v] (setAdd S v) >>= _) _ _ s'
    refine wpAny_bind (wpAny_holding ?_)
    unfold setAdd
    refine wpAny_holding ?_
    refine wpAny_bind ((mixKind prog w).pyHash (k := ks[i]) (kV_is rv) ?_)
    have hroom : (dedK (ks.take i)).length + 1 < scanBound := by
      have h1 := dedK_le (ks.take i) []
      have h2 : (ks.take i).length ≤ n := by rw [List.length_take]; omega
      unfold dedK
      simp only [List.length_nil] at h1
      omega
    refine wpAny_setAddHashed_of (knd := mixKind prog w) (s := { s' with toks := s'.toks + 1 }) (kV_is rv) (key_scan rv) hS' hroom fun h' hsb hS2 => ?_
    have ht : dedK (ks.take (i + 1)) = addK (dedK (ks.take i)) ks[i] := by
      rw [← dedK_snoc]
      congr 1
      rw [List.take_succ, hki]; rfl
    have hSi : h'.SetOf (mixKind prog w) S (hasK (dedK (ks.take (i + 1)))) (dedK (ks.take (i + 1))).length := by
      obtain ⟨o, es, ep, tb, ho, h1, h2, h3, h4, h5, h6, h7⟩ := hS2
      refine ⟨o, es, ep, tb, ho, h1, h2, h3, fun j => ?_, h5, h6, ?_⟩
      · rw [ht, addK_mem]; exact h4 j
      · rw [ht, addK_len]; exact h7
    refine wpAny_pure ⟨plainId_quiet PyProof.Rows.F.plain_set_update_loop _, ih (i + 1) _ (by omega) hlt (W.frame _ s' _ _ hst' (Nat.le_succ _) fun b hb o e => ?_) hSi fun s'' hm'' hS'' => ?_⟩
    · rw [hsb.2 b (fun h : b = S => hSf (by rw [← h]; exact hb))]; exact e
    · refine hR s'' (Moved.trans W.gtrans ((hm.mono hsub).then_heap (Nat.le_succ _) fun b o hb e => ?_) hm'') hS''
      rw [hsb.2 b (fun h : b = S => hb (by rw [h]; exact List.mem_cons_self))]; exact e
end
/-- how a sequence at l is walked -/
structure SeqWalk (prog : Program) (w : World) (A : Around) (T : String) (l : Addr) (items : Array Value) (it : Obj) : Prop where
  iter : ∀ {A : Around} {E : Value → Shared → Prop} {s : Shared} {o : Obj} {Q : Value → Shared → Prop}, s.heap.get? l = some o → o.cls = .type T → (∃ n, o.data = .seq items n) → Q (.ref s.heap.objs.size) { s with heap := s.heap.push it } → wpAny (model prog w) A (pyIter (.ref l)) Q E s
  walk : ∀ (s : Shared) (o : Obj), A.handled = none → s.heap.get? l = some o → o.cls = .type T → (∃ n, o.data = .seq items n) → ∃ St, WalksS prog w A s.heap.objs.size [s.heap.objs.size, l] [s.heap.objs.size] (fun g g' => g' = g) items.size (fun i v => items[i]? = some v) St ∧
    St 0 { s with heap := s.heap.push it }
  s1 : isSubtype (.type T) (.type "set") = pure false
  s2 : isSubtype (.type T) (.type "frozenset") = pure false
  ne : (Value.type T == Value.type "dict") = false
theorem sw_list {prog : Program} {w : World} {A : Around} {l : Addr} {items : Array Value} : SeqWalk prog w A "list" l items { cls := .type "list_iterator", data := .fields #[.ref l, .int 0 0] } where
  iter := fun e c ⟨n, d⟩ q => wpAny_pyIter_list ⟨_, e, c, n, d⟩ q
  walk := fun s o hh e c ⟨n, d⟩ => ⟨_, (Walks.list hh _ l (Nat.ne_of_lt (Heap.lt_size e)) items).toS, ⟨⟨_, Heap.get?_push_size _ rfl, rfl, rfl⟩, Heap.IsList.push (⟨o, e, c, n, d⟩ : s.heap.IsList l items) _⟩⟩
  s1 := PySem.F.sub_list_set
  s2 := PySem.F.sub_list_frozenset
  ne := by decide
theorem sw_tuple {prog : Program} {w : World} {A : Around} {l : Addr} {items : Array Value} : SeqWalk prog w A "tuple" l items { cls := .type "tuple_iterator", data := .fields #[.ref l, .int 0 0] } where
  iter := fun e c ⟨n, d⟩ q => wpAny_pyIter_tuple ⟨_, e, c, n, d⟩ q
  walk := fun s o hh e c ⟨n, d⟩ => ⟨_, (Walks.tuple hh _ l (Nat.ne_of_lt (Heap.lt_size e)) items).toS, ⟨⟨_, Heap.get?_push_size _ rfl, rfl, rfl⟩, Heap.IsTuple.push (⟨o, e, c, n, d⟩ : s.heap.IsTuple l items) _⟩⟩
  s1 := PySem.F.sub_tuple_set
  s2 := PySem.F.sub_tuple_frozenset
  ne := by decide
section
variable {prog : Program} {w : World} {A : Around} {E : Value → Shared → Prop} {s : Shared}
set_option maxHeartbeats 3200000 in
theorem call_setMix {T : String} {it : Obj} {l : Addr} {items : Array Value} {ks : List Key} {Q : Value → Shared → Prop} (W : ∀ A, SeqWalk prog w A T l items it)
    (hh : A.handled = none) {ol : Obj} (hol : s.heap.get? l = some ol) (hcl : ol.cls = .type T) {nl : Nat} (hdl : ol.data = .seq items nl) (hv : Vals (ks.map kV) items.toList) (hn1 : ks.length + 1 < scanBound)
    (h : ∀ (h' : Heap) (tk : Nat), h'.SetOf (mixKind prog w) s.heap.objs.size (hasK (dedK ks)) (dedK ks).length →
      (∀ b o, b < s.heap.objs.size → s.heap.get? b = some o → h'.get? b = some o) → s.heap.objs.size ≤ h'.objs.size → Q (.ref s.heap.objs.size) { s with heap := h', toks := tk }) :
    wpAny (model prog w) A (call (.type "set") [.ref l]) Q E s := by
  obtain ⟨c, tl, hmro⟩ := PySem.F.called_set.mro
  have hmade := PySem.F.called_set.made
  have hsub := PySem.F.called_set.sub
  refine wpAny_call (codeAny_of_tree ?_)
  show wpAny _ _ (callAny (.type "set") _) _ _ _
  refine wpAny_pure ⟨Code.quiet_builtin _ (by decide +kernel), codeAny_builtin PySem.F.entry_type_call ?_⟩
  rw [Around.under_plain (weight_type_call_type "set" [.ref l] []) rfl]
  have h1 := PySem.F.called_set.notType
  have h2 := PySem.F.called_set.canCreate
  have hct := PySem.F.typeCall_set_1 (.ref l)
  repeat (any_goals (first | assumption | wp_step))
  refine codeAny_mono (code_set_new_1 (.ref l) (E := E) (Q₁ := fun obj s₁ => ∃ led : Bool, obj = .ref s.heap.objs.size ∧ s₁ = { s with heap := s.heap.push { cls := .type "set", dict := none, data := .set #[] 0 (.fresh 0 0 led) } }) fun led => ⟨led, rfl, rfl⟩) fun r s₁ hr => ?_
  cases r with
  | error e => exact hr
  | ok fl =>
    cases fl with
    | ret obj =>
      obtain ⟨led, rfl, rfl⟩ := hr
      have hS : (s.heap.push { cls := .type "set", dict := none, data := .set #[] 0 (.fresh 0 0 led) }).get? s.heap.objs.size = some { cls := .type "set", dict := none, data := .set #[] 0 (.fresh 0 0 led) } := Heap.get?_push_size _ rfl
      have hT : Shared.TypeIs { s with heap := s.heap.push { cls := .type "set", dict := none, data := .set #[] 0 (.fresh 0 0 led) } } (.ref s.heap.objs.size) "set" := ⟨_, hS, rfl⟩
      have hli := PySem.F.called_set.init.lookup
      have hbi := PySem.F.called_set.init.bind (.ref s.heap.objs.size)
      repeat (any_goals (first | assumption | wp_step))
      refine codeAny_mono (codeAny_call_builtin (R := wants (fun r s₂ => r = .none ∧ ∃ h' tk, s₂ = { s with heap := h', toks := tk } ∧
          h'.SetOf (mixKind prog w) s.heap.objs.size (hasK (dedK ks)) (dedK ks).length ∧
          (∀ b o, b < s.heap.objs.size → s.heap.get? b = some o → h'.get? b = some o) ∧ s.heap.objs.size ≤ h'.objs.size) E) PySem.F.called_set.init.plain PySem.F.entry_set_init (check_set_init_1 hT ?_)) fun r₂ s₂ hr₂ => ?_
      · obtain ⟨ocls, odict, odata, oslots⟩ := ol
        simp only at hcl hdl
        subst hcl; subst hdl
        have hol' : (s.heap.push { cls := .type "set", dict := none, data := .set #[] 0 (.fresh 0 0 led) }).get? l = some { cls := .type T, dict := odict, data := .seq items nl, slots := oslots } := Heap.get?_push_of_some _ hol
        have hsls := (W A).s1
        have hslf := (W A).s2
        have hne := (W A).ne
        unfold Builtin.«set.__init__» noKeywords Builtin.Frozenset.updateFrom
        generalize hPI : pyIter = PI
        wp_walk
        subst hPI
        refine (W A).iter (s := { s with heap := s.heap.push { cls := .type "set", dict := none, data := .set #[] 0 (.fresh 0 0 led) } }) hol' rfl ⟨nl, rfl⟩ ?_
        refine wpAny_bind (wpAny_runValue ?_)
        have hlS : l < s.heap.objs.size := Heap.lt_size hol
        have hh3 : A.in1.in1.in1.handled = none := by simp [hh]
        obtain ⟨St, WS, st0⟩ := (W A.in1.in1.in1).walk { s with heap := s.heap.push { cls := .type "set", dict := none, data := .set #[] 0 (.fresh 0 0 led) } } _ hh3 hol' rfl ⟨nl, rfl⟩
        have hSf : s.heap.objs.size ∉ [(s.heap.push { cls := .type "set", dict := none, data := .set #[] 0 (.fresh 0 0 led) }).objs.size, l] := by
          rw [Heap.size_push]; simp only [List.mem_cons, List.mem_singleton, List.not_mem_nil, or_false, not_or]
          exact ⟨Nat.ne_of_lt (Nat.lt_succ_self _), Nat.ne_of_gt hlS⟩
        have hsz : ks.length = items.size := by
          have := hv.length
          rw [List.length_map] at this
          rw [this, Array.length_toList]
        have hval : ∀ (i : Nat) (v : Value) (k : Key), items[i]? = some v → ks[i]? = some k → RelV (kV k) v := fun i v k e1 e2 => by
          obtain ⟨u, e3, r⟩ := hv.get (i := i) (x := kV k) (by rw [List.getElem?_map, e2]; rfl)
          rw [Array.getElem?_toList, e1] at e3
          cases e3; exact r
        refine loopMix WS s.heap.objs.size hSf ks hsz (by rw [← hsz]; exact hn1) hval (items.size - 0) 0 _ (by omega) (Nat.zero_le _) st0 ?hS0 ?hR
        case hS0 =>
          have hget : ((s.heap.push { cls := .type "set", dict := none, data := .set #[] 0 (.fresh 0 0 led) }).push it).get? s.heap.objs.size
              = some { cls := .type "set", dict := none, data := .set #[] 0 (.fresh 0 0 led) } := Heap.get?_push_of_some _ hS
          exact ⟨_, #[], 0, _, hget, ⟨rfl, rfl, rfl⟩, rfl, (fun e he => by simp at he), (fun k => by rw [List.take_zero]; simp [dedK, hasK]), (by decide), (by rfl), (by rw [List.take_zero]; rfl)⟩
        case hR =>
          intro s' hm hS'
          obtain ⟨h', g', d', tk', os'⟩ := s'
          have eg : g' = s.gens := hm.gens
          have ed : d' = s.drawn := hm.drawn
          have eo : os' = s.os := hm.os
          subst eg; subst ed; subst eo
          show wpAny _ _ _ _ _ _
          refine wpAny_pure ?_
          show wpAny _ _ (ret Value.none) _ _ _
          refine wpAny_pure ⟨rfl, h', tk', rfl, hS', fun b o hb e => ?_, ?_⟩
          · have hb1 : b ≠ s.heap.objs.size := Nat.ne_of_lt hb
            have hb2 : b ≠ (s.heap.push { cls := .type "set", dict := none, data := .set #[] 0 (.fresh 0 0 led) }).objs.size := by
              rw [Heap.size_push]; exact Nat.ne_of_lt (Nat.lt_succ_of_lt hb)
            exact hm.heap b o (by simp only [List.mem_cons, List.mem_singleton, List.not_mem_nil, or_false, not_or]; exact ⟨hb1, hb2⟩) (Heap.get?_push_of_some _ (Heap.get?_push_of_some _ e))
          · obtain ⟨o, _, _, _, ho, _⟩ := hS'
            exact Nat.le_of_lt (Heap.lt_size ho)
      · cases r₂ with
        | error e => exact hr₂
        | ok fl₂ =>
          cases fl₂ with
          | ret r =>
            obtain ⟨rfl, h', tk, rfl, hS', hk', hz'⟩ := hr₂
            repeat (any_goals (first | assumption | wp_step))
            exact h _ _ hS' hk' hz'
          | _ => exact hr₂.elim
    | _ => exact hr.elim
end
/-- set(xs) -/
theorem call_setK {X : Cx} (hc : X.calm = true) : CallR X (.type "set") (fun xs H Q => ∃ (l : Addr) (ks : List Key), xs = [.ref l] ∧ (SqL X.K H l (ks.map kV) ∨ SqT X.K H l (ks.map kV)) ∧ ks.length + 1 < scanBound ∧
    ∀ p, H p = none → Q (.ref p) (upd H p (SetK X.prog X.w p (hasK (dedK ks)) (dedK ks).length))) := by
  intro pins s σ H xs us Q I r h
  obtain ⟨l, ks, rfl, hq, hn, q⟩ := h
  obtain ⟨u, rfl, r0⟩ := r.one
  cases (show u = Value.ref l from r0)
  have fin : ∀ (h' : Heap) (tk : Nat), h'.SetOf (mixKind X.prog X.w) s.heap.objs.size (hasK (dedK ks)) (dedK ks).length → (∀ b o, b < s.heap.objs.size → s.heap.get? b = some o → h'.get? b = some o) → s.heap.objs.size ≤ h'.objs.size →
      EP X pins σ Q (.ref s.heap.objs.size) { s with heap := h', toks := tk } := fun h' tk hS hk hz =>
    ⟨.ref _, upd H s.heap.objs.size (SetK X.prog X.w s.heap.objs.size (hasK (dedK ks)) (dedK ks).length), I.laid (t' := tk) (fun b u e => hk b u (Heap.lt_size e) e) (Nat.le_refl _) (setK_new hS), rfl, q _ (I.hok.fresh (Nat.le_refl _))⟩
  rcases hq with hq | hq
  · obtain ⟨its, r, pl, hz⟩ := I.list hq
    obtain ⟨o, e, c, n, d⟩ := pl.isList
    exact call_setMix (fun A => sw_list) (I.ok.hd hc) e c d (by simpa using r) hn fun h' tk hS hk hz => fin h' tk hS hk hz
  · obtain ⟨its, r, pl, hz⟩ := I.tuple hq
    obtain ⟨o, e, c, n, d⟩ := pl
    exact call_setMix (fun A => sw_tuple) (I.ok.hd hc) e c d (by simpa using r) hn fun h' tk hS hk hz => fin h' tk hS hk hz
end Dn
set_option autoImplicit false
set_option Elab.async false
set_option linter.all false
set_option maxRecDepth 100000
/-! DenO: the operations on data are the machine's. -/
namespace Dn
open PySem PySem.Spec PyProof.Rows L2
section
variable {L : Lk} {K : PySem.W.Frag} {C H : Hp} {Q : VK}
theorem ext_none {p : Addr} (e : Ext C H) (h : H p = none) : C p = none := by
  cases z : C p with
  | none => rfl
  | some u => rw [e p u z] at h; cases h
theorem ro_d {x : D} {v : V} (r : RO L K C H (.d x) Q) (e : Ext C H) (h : Dat L K C x v) : Q v H :=
  r v C H [] ⟨Ext.rfl', Ext.rfl', e, fun _ h => .inl h, ⟨rfl, h⟩, List.nodup_nil, by simp⟩
theorem ext_upd {p : Addr} {o : HO} (e : Ext C H) (h : H p = none) : Ext C (upd H p o) := e.tr (ext_new h)
theorem ro_newL {xs : List D} {vs : List V} {p : Addr} (r : RO L K C H (.lst xs) Q) (e : Ext C H) (h : DatL L K C xs vs) (hp : H p = none) : Q (.ref p) (upd H p (.lst vs)) :=
  r (.ref p) C (upd H p (.lst vs)) [p] ⟨Ext.rfl', ext_new hp, ext_upd e hp, fun _ h => .inl h, ⟨p, vs, rfl, rfl, upd_same, h⟩, by simp, fun a ha => by
    have : a = p := by simpa using ha
    subst this
    exact ⟨ext_none e hp, hp⟩⟩
theorem ro_newT {xs : List D} {vs : List V} {p : Addr} (r : RO L K C H (.d (.tup xs)) Q) (e : Ext C H) (h : DatL L K C xs vs) (hp : H p = none) : Q (.ref p) (upd H p (.tup vs)) := by
  have cp := ext_none e hp
  refine r (.ref p) (upd C p (.tup vs)) (upd H p (.tup vs)) [] ⟨ext_new cp, ext_new hp, fun a u ha => ?_, fun a ha => ?_, ⟨rfl, p, vs, rfl, .inl (.inl upd_same), DatL.ext (ext_new cp) xs vs h⟩, List.nodup_nil, by simp⟩
  · by_cases z : a = p
    · subst z; rw [upd_same] at ha ⊢; exact ha
    · rw [upd_ne z] at ha ⊢; exact e a u ha
  · by_cases z : a = p
    · subst z; exact .inr hp
    · rw [upd_ne z] at ha; exact .inl ha
theorem DatL.append : ∀ {xs ys : List D} {us vs : List V}, DatL L K C xs us → DatL L K C ys vs → DatL L K C (xs ++ ys) (us ++ vs)
  | [], _, _, _, h, k => by rw [show _ = [] from h]; exact k
  | x :: xs, _, _, _, h, k => by
    obtain ⟨v, r, rfl, h2, h3⟩ := h
    exact ⟨v, r ++ _, rfl, h2, DatL.append h3 k⟩
theorem DatL.drop : ∀ {xs : List D} {us : List V} (n : Nat), DatL L K C xs us → DatL L K C (xs.drop n) (us.drop n)
  | [], _, n, h => by rw [show _ = [] from h]; simp; rfl
  | x :: xs, _, 0, h => h
  | x :: xs, _, n + 1, h => by
    obtain ⟨v, r, rfl, h2, h3⟩ := h
    exact DatL.drop n h3
theorem DatL.take : ∀ {xs : List D} {us : List V} (n : Nat), DatL L K C xs us → DatL L K C (xs.take n) (us.take n)
  | [], _, n, h => by rw [show _ = [] from h]; simp; rfl
  | x :: xs, _, 0, h => rfl
  | x :: xs, _, n + 1, h => by
    obtain ⟨v, r, rfl, h2, h3⟩ := h
    exact ⟨v, r.take n, rfl, h2, DatL.take n h3⟩
theorem DatL.rep {xs : List D} {us : List V} (h : DatL L K C xs us) : ∀ n : Nat, DatL L K C (List.replicate n xs).flatten (List.replicate n us).flatten
  | 0 => rfl
  | n + 1 => by
    rw [List.replicate_succ, List.replicate_succ, List.flatten_cons, List.flatten_cons]
    exact h.append (DatL.rep h n)
/-! ### plain data and the library's PyData -/
mutual
theorem toP_plain : ∀ d : D, (toP d).plain = true
  | .non => by unfold toP; rfl
  | .bl _ => by unfold toP; rfl
  | .int _ => by unfold toP; rfl
  | .str _ => by unfold toP; rfl
  | .set _ => by unfold toP; rfl
  | .dct _ => by unfold toP; rfl
  | .obj _ _ => by unfold toP; rfl
  | .fn _ => by unfold toP; rfl
  | .scr _ => by unfold toP; rfl
  | .tup xs => by unfold toP; rw [PyData.plain]; exact toPL_plain xs
  | .lst xs => by unfold toP; rw [PyData.plain]; exact toPL_plain xs
theorem toPL_plain : ∀ ds : List D, PyData.plainAll (toPL ds) = true
  | [] => by unfold toPL; rfl
  | d :: ds => by unfold toPL; rw [PyData.plainAll, toP_plain d, toPL_plain ds]; rfl
end
mutual
theorem toP_depth : ∀ d : D, (toP d).depth = depD d
  | .non => by unfold toP depD; rfl
  | .bl _ => by unfold toP depD; rfl
  | .int _ => by unfold toP depD; rfl
  | .str _ => by unfold toP depD; rfl
  | .set _ => by unfold toP depD; rfl
  | .dct _ => by unfold toP depD; rfl
  | .obj _ _ => by unfold toP depD; rfl
  | .fn _ => by unfold toP depD; rfl
  | .scr _ => by unfold toP depD; rfl
  | .tup xs => by unfold toP depD; rw [PyData.depth, toPL_depth xs]
  | .lst xs => by unfold toP depD; rw [PyData.depth, toPL_depth xs]
theorem toPL_depth : ∀ ds : List D, PyData.depthAll (toPL ds) = depL ds
  | [] => by unfold toPL depL; rfl
  | d :: ds => by unfold toPL depL; rw [PyData.depthAll, toP_depth d, toPL_depth ds]
end
mutual
theorem toP_eqv : ∀ x y : D, plainD x = true → plainD y = true → PyData.eqv (toP x) (toP y) = eqvD x y
  | .tup xs, .tup ys, hx, hy => by unfold toP eqvD; rw [PyData.eqv]; exact toPL_eqv xs ys (by unfold plainD at hx; exact hx) (by unfold plainD at hy; exact hy)
  | .lst xs, .lst ys, hx, hy => by unfold toP eqvD; rw [PyData.eqv]; exact toPL_eqv xs ys (by unfold plainD at hx; exact hx) (by unfold plainD at hy; exact hy)
  | .non, y, _, hy => by cases y <;> first | (unfold toP eqvD; rw [PyData.eqv]; done) | (unfold plainD at hy; cases hy)
  | .bl _, y, _, hy => by cases y <;> first | (unfold toP eqvD; rw [PyData.eqv]; done) | (unfold plainD at hy; cases hy)
  | .int _, y, _, hy => by cases y <;> first | (unfold toP eqvD; rw [PyData.eqv]; done) | (unfold plainD at hy; cases hy)
  | .str _, y, _, hy => by cases y <;> first | (unfold toP eqvD; rw [PyData.eqv]; done) | (unfold plainD at hy; cases hy)
  | .set _, _, hx, _ => by unfold plainD at hx; cases hx
  | .dct _, _, hx, _ => by unfold plainD at hx; cases hx
  | .obj _ _, _, hx, _ => by unfold plainD at hx; cases hx
  | .fn _, _, hx, _ => by unfold plainD at hx; cases hx
  | .scr _, _, hx, _ => by unfold plainD at hx; cases hx
  | .tup _, .non, _, _ => by unfold toP eqvD; rw [PyData.eqv]
  | .tup _, .bl _, _, _ => by unfold toP eqvD; rw [PyData.eqv]
  | .tup _, .int _, _, _ => by unfold toP eqvD; rw [PyData.eqv]
  | .tup _, .str _, _, _ => by unfold toP eqvD; rw [PyData.eqv]
  | .tup _, .lst _, _, _ => by unfold toP eqvD; rw [PyData.eqv]
  | .tup _, .set _, _, hy => by unfold plainD at hy; cases hy
  | .tup _, .dct _, _, hy => by unfold plainD at hy; cases hy
  | .tup _, .obj _ _, _, hy => by unfold plainD at hy; cases hy
  | .tup _, .fn _, _, hy => by unfold plainD at hy; cases hy
  | .tup _, .scr _, _, hy => by unfold plainD at hy; cases hy
  | .lst _, .non, _, _ => by unfold toP eqvD; rw [PyData.eqv]
  | .lst _, .bl _, _, _ => by unfold toP eqvD; rw [PyData.eqv]
  | .lst _, .int _, _, _ => by unfold toP eqvD; rw [PyData.eqv]
  | .lst _, .str _, _, _ => by unfold toP eqvD; rw [PyData.eqv]
  | .lst _, .tup _, _, _ => by unfold toP eqvD; rw [PyData.eqv]
  | .lst _, .set _, _, hy => by unfold plainD at hy; cases hy
  | .lst _, .dct _, _, hy => by unfold plainD at hy; cases hy
  | .lst _, .obj _ _, _, hy => by unfold plainD at hy; cases hy
  | .lst _, .fn _, _, hy => by unfold plainD at hy; cases hy
  | .lst _, .scr _, _, hy => by unfold plainD at hy; cases hy
theorem toPL_eqv : ∀ xs ys : List D, plainL xs = true → plainL ys = true → PyData.eqvAll (toPL xs) (toPL ys) = eqvL xs ys
  | [], [], _, _ => by unfold toPL eqvL; rw [PyData.eqvAll]
  | [], _ :: _, _, _ => by simp [toPL, eqvL, PyData.eqvAll]
  | _ :: _, [], _, _ => by simp [toPL, eqvL, PyData.eqvAll]
  | x :: xs, y :: ys, hx, hy => by
    simp only [plainL, Bool.and_eq_true] at hx hy
    simp only [toPL, eqvL, PyData.eqvAll]
    rw [toP_eqv x y hx.1 hy.1, toPL_eqv xs ys hx.2 hy.2]
end
mutual
theorem dp_of : ∀ (d : D) (v : V), plainD d = true → Dat L K C d v → Dp K C v (toP d)
  | .non, _, _, h => by rw [show _ = V.non from h]; unfold toP; exact .non
  | .bl _, _, _, h => by rw [show _ = V.bl _ from h]; unfold toP; exact .bl _
  | .int _, _, _, h => by rw [show _ = V.int _ from h]; unfold toP; exact .int _
  | .str _, _, _, h => by rw [show _ = V.str _ from h]; unfold toP; exact .str _
  | .set _, _, hx, _ => by unfold plainD at hx; cases hx
  | .dct _, _, hx, _ => by unfold plainD at hx; cases hx
  | .obj _ _, _, hx, _ => by unfold plainD at hx; cases hx
  | .fn _, _, hx, _ => by unfold plainD at hx; cases hx
  | .scr _, _, hx, _ => by unfold plainD at hx; cases hx
  | .tup xs, _, hx, h => by
    obtain ⟨a, vs, rfl, h2, h3⟩ := h
    unfold toP
    exact .tup h2 (dpL_of xs vs (by unfold plainD at hx; exact hx) h3)
  | .lst xs, _, hx, h => by
    obtain ⟨a, vs, rfl, h2, h3⟩ := h
    unfold toP
    exact .lst (SqL.of h2) (dpL_of xs vs (by unfold plainD at hx; exact hx) h3)
theorem dpL_of : ∀ (ds : List D) (vs : List V), plainL ds = true → DatL L K C ds vs → DpAll K C vs (toPL ds)
  | [], _, _, h => by rw [show _ = [] from h]; unfold toPL; exact .nil
  | d :: ds, _, hx, h => by
    obtain ⟨v, r, rfl, h2, h3⟩ := h
    simp only [plainL, Bool.and_eq_true] at hx
    unfold toPL
    exact .cons (dp_of d v hx.1 h2) (dpL_of ds r hx.2 h3)
end
mutual
theorem dp_ext {C C' : Hp} (e : Ext C C') : ∀ (p : PyData) (v : V), Dp K C v p → Dp K C' v p
  | .none, _, h => by cases h; exact .non
  | .bool _, _, h => by cases h; exact .bl _
  | .int _, _, h => by cases h; exact .int _
  | .str _, _, h => by cases h; exact .str _
  | .dict _, _, h => by cases h
  | .list ds, _, h => by
    cases h with
    | lst a b => exact .lst (sqL_ext e a) (dpL_ext e ds _ b)
  | .tuple ds, _, h => by
    cases h with
    | tup a b => exact .tup (sqT_ext e a) (dpL_ext e ds _ b)
theorem dpL_ext {C C' : Hp} (e : Ext C C') : ∀ (ps : List PyData) (vs : List V), DpAll K C vs ps → DpAll K C' vs ps
  | [], _, h => by cases h; exact .nil
  | d :: ds, _, h => by
    cases h with
    | cons a b => exact .cons (dp_ext e d _ a) (dpL_ext e ds _ b)
end
theorem vw_dp (e : Ext C H) : ∀ {d : D} {v : V}, plainD d = true → Vw L K C H d v → Dp K H v (toP d)
  | .lst xs, v, p, h => by
    obtain ⟨a, vs, rfl, h2, h3⟩ := h
    unfold toP
    exact .lst (SqL.of h2) (dpL_ext e _ _ (dpL_of xs vs (by unfold plainD at p; exact p) h3))
  | .non, v, p, h => dp_ext e _ _ (dp_of (L := L) .non v p h)
  | .bl b, v, p, h => dp_ext e _ _ (dp_of (L := L) (.bl b) v p h)
  | .int b, v, p, h => dp_ext e _ _ (dp_of (L := L) (.int b) v p h)
  | .str b, v, p, h => dp_ext e _ _ (dp_of (L := L) (.str b) v p h)
  | .tup b, v, p, h => dp_ext e _ _ (dp_of (L := L) (.tup b) v p h)
  | .set _, _, p, _ => by unfold plainD at p; cases p
  | .dct _, _, p, _ => by unfold plainD at p; cases p
  | .obj _ _, _, p, _ => by unfold plainD at p; cases p
  | .fn _, _, p, _ => by unfold plainD at p; cases p
  | .scr _, _, p, _ => by unfold plainD at p; cases p
end
/-- tuple * int -/
def rRepT1 (K : PySem.W.Frag) : R2 := fun x y H Q => ∃ l k xs, x = .ref l ∧ y = .int k ∧ SqT K H l xs ∧ xs ≠ [] ∧ 2 ≤ k ∧ xs.length * k.toNat ≤ 1000000 ∧ ∀ p, H p = none → Q (.ref p) (upd H p (.tup (List.replicate k.toNat xs).flatten))
theorem op_repT1 {X : Cx} : OpR X (binaryOp .Mult) (rRepT1 X.K) := by
  intro pins s σ H x y v u Q I rx ry h
  obtain ⟨l, k, xs, rfl, rfl, hT, hne, h1, hz, q⟩ := h
  cases (show v = Value.ref l from rx)
  obtain ⟨t, rfl⟩ := ry
  obtain ⟨its, r, ⟨⟨cls, dd, data, sl⟩, ho, hc, n, hd⟩, hs⟩ := I.tuple hT
  simp only at hc hd
  subst hc hd
  have hle : its.length = xs.length := r.length.symm
  have hpos : 0 < xs.length := List.length_pos_iff.mpr hne
  have hi : its.toArray.isEmpty = false := by
    cases its with
    | nil => simp at hle; omega
    | cons a b => rfl
  have hk : k.toNat ≤ 1000000 := Nat.le_trans (Nat.le_mul_of_pos_left _ hpos) hz
  have hsz0 : its.toArray.size = xs.length := by rw [List.size_toArray, hle]
  have hm : ((its.toArray.size : Nat) : Int) * k ≤ 1000000 := by
    rw [hsz0]
    have e1 : ((xs.length : Nat) : Int) * k = ((xs.length * k.toNat : Nat) : Int) := by rw [Int.natCast_mul, Int.toNat_of_nonneg (by omega)]
    rw [e1]
    omega
  have flen : (List.replicate k.toNat its).flatten.length ≤ sizeLine := by
    rw [PyProof.Rows.lm_len_rep_flat, hle, sizeLine_eq, Nat.mul_comm]
    omega
  have c0 : (decide (k < -(2 ^ 63)) || decide (k ≥ 2 ^ 63)) = false := by
    rw [decide_eq_false (by omega), decide_eq_false (by omega)] <;> rfl
  have c1 : (its.toArray.isEmpty || k == 1) = false := by
    rw [hi, Bool.false_or]
    exact beq_eq_false_iff_ne.mpr (by omega)
  have c2 : (decide (k ≤ 0) || its.toArray.isEmpty) = false := by
    rw [hi, Bool.or_false]
    exact decide_eq_false (by omega)
  have c4 : Builtin.Tuple.tupleTooMany (((its.toArray.size : Nat) : Int) * k) = false := by
    unfold Builtin.Tuple.tupleTooMany
    rw [sizeLine_eq]
    exact decide_eq_false (by omega)
  refine wpAny_binaryOp_repeat_ref (T := "tuple") (U := "int") (by decide) ⟨_, ho, rfl⟩ (fun s' => typeIs_int s' k t) noFill_tuple_mul PySem.F.fills_int_mul PySem.F.slot_int_rmul repeat_tuple PySem.F.slot_int_index.lookup
    (call_meets PySem.F.slot_int_rmul (typeIs_int s k t) PySem.F.entry_int_rmul (PySem.F.args_int_rmul_2 _ _) (int_rmul_tuple k t l its.toArray n dd sl)
      ⟨ho, rfl, ⟨_, ho, rfl⟩, call_meets PySem.F.slot_tuple_mul ⟨_, ho, rfl⟩ PySem.F.entry_tuple_mul (PySem.F.args_tuple_mul_2 _ _) (tuple_mulW l its.toArray n dd sl k t c0 c1 c2 (by omega) c4 (by rw [size_rep, List.size_toArray]; exact flen)) ⟨ho, ?_⟩⟩)
  rw [size_rep]
  exact ⟨.ref s.heap.objs.size, _, I.laid (t' := s.toks) (o := .tup (List.replicate k.toNat xs).flatten) (fun b ob q => Heap.get?_push_of_some _ q) (Nat.le_refl _) ⟨by rw [PyProof.Rows.lm_len_rep_flat, sizeLine_eq, Nat.mul_comm]; omega, _, r.rep k.toNat, IsTup.new _ _⟩, rfl, q _ (I.hok.fresh (Nat.le_refl _))⟩
theorem log2_lt {n k : Nat} (h : n < 2 ^ (k + 1)) : n.log2 ≤ k := by
  by_cases z : n = 0
  · subst z; simp
  · have := (Nat.log2_lt z).mpr h
    omega
section
variable {X : Cx} {L : Lk} {E : XK}
theorem op_eqO (hu : X.A.units + 64 < cLine) : OpR X (compareOp .Eq) (rD2 L X.K eqO) := by
  intro pins s σ H x y v u Q I rx ry h
  obtain ⟨C, dx, dy, o, le, vx, vy, e, ro⟩ := h
  unfold eqO at e
  split at e
  · rename_i hc
    unfold cmpOk at hc
    simp only [Bool.and_eq_true, decide_eq_true_eq] at hc
    obtain ⟨⟨px, py⟩, hd⟩ := hc
    cases e
    obtain ⟨as, r1⟩ := Dp.reads I _ x v (vw_dp le px vx) rx
    obtain ⟨bs, r2⟩ := Dp.reads I _ y u (vw_dp le py vy) ry
    refine SeqAt.eq_plain r1 r2 (toP_plain _) (toP_plain _) (by rw [toP_depth, toP_depth]; omega) ?_
    rw [toP_eqv _ _ px py]
    exact ⟨.bl _, H, I, rfl, ro_d ro le rfl⟩
  · cases e
theorem op_neO (hu : X.A.units + 64 < cLine) : OpR X (compareOp .NotEq) (rD2 L X.K neO) := by
  intro pins s σ H x y v u Q I rx ry h
  obtain ⟨C, dx, dy, o, le, vx, vy, e, ro⟩ := h
  unfold neO at e
  split at e
  · rename_i hc
    unfold cmpOk at hc
    simp only [Bool.and_eq_true, decide_eq_true_eq] at hc
    obtain ⟨⟨px, py⟩, hd⟩ := hc
    cases e
    obtain ⟨as, r1⟩ := Dp.reads I _ x v (vw_dp le px vx) rx
    obtain ⟨bs, r2⟩ := Dp.reads I _ y u (vw_dp le py vy) ry
    refine SeqAt.ne_plain r1 r2 (toP_plain _) (toP_plain _) (by rw [toP_depth, toP_depth]; omega) ?_
    rw [toP_eqv _ _ px py]
    exact ⟨.bl _, H, I, rfl, ro_d ro le rfl⟩
  · cases e
theorem int_b {op : Value → Value → Sem Value} {g : Int → Int → Bool} {f : D → D → Option O} (hop : OpR X op (rI0 fun i j => .bl (g i j))) (hf : ∀ dx dy o, f dx dy = some o → ∃ i j, dx = .int i ∧ dy = .int j ∧ o = .d (.bl (g i j))) : OpR X op (rD2 L X.K f) := by
  intro pins s σ H x y v u Q I rx ry h
  obtain ⟨C, dx, dy, o, le, vx, vy, e, ro⟩ := h
  obtain ⟨i, j, rfl, rfl, rfl⟩ := hf dx dy o e
  have vx : x = .int i := vx
  have vy : y = .int j := vy
  exact hop pins s σ H x y v u Q I rx ry ⟨i, j, vx, vy, ro_d ro le rfl⟩
theorem op_ltO : OpR X (compareOp .Lt) (rD2 L X.K ltO) := int_b op_lt fun dx dy o e => by cases dx <;> cases dy <;> first | (cases e; exact ⟨_, _, rfl, rfl, rfl⟩) | cases e
theorem op_leO : OpR X (compareOp .LtE) (rD2 L X.K leO) := int_b op_le fun dx dy o e => by cases dx <;> cases dy <;> first | (cases e; exact ⟨_, _, rfl, rfl, rfl⟩) | cases e
theorem op_gtO : OpR X (compareOp .Gt) (rD2 L X.K gtO) := int_b op_gt fun dx dy o e => by cases dx <;> cases dy <;> first | (cases e; exact ⟨_, _, rfl, rfl, rfl⟩) | cases e
theorem op_geO : OpR X (compareOp .GtE) (rD2 L X.K geO) := int_b op_ge fun dx dy o e => by cases dx <;> cases dy <;> first | (cases e; exact ⟨_, _, rfl, rfl, rfl⟩) | cases e
theorem isNone_vw {K : PySem.W.Frag} {C H : Hp} {d : D} {v : V} (h : Vw L K C H d v) : decide (v = .non) = isNoneB d := by
  cases d <;> first
    | (rw [show v = V.non from h]; rfl)
    | (rw [show v = V.bl _ from h]; rfl)
    | (rw [show v = V.int _ from h]; rfl)
    | (rw [show v = V.str _ from h]; rfl)
    | (obtain ⟨a, _, rfl, _⟩ := h; rfl)
    | (obtain ⟨a, rfl, _⟩ := h; rfl)
    | (obtain ⟨a, rfl⟩ := h; rfl)
    | exact h.elim
theorem op_addO : OpR X (binaryOp .Add) (rD2 L X.K addO) := by
  intro pins s σ H x y v u Q I rx ry h
  obtain ⟨C, dx, dy, o, le, vx, vy, e, ro⟩ := h
  cases dx <;> cases dy <;> first | (cases e; done) | skip
  · rename_i i j
    cases e
    exact op_add pins s σ H x y v u Q I rx ry ⟨i, j, vx, vy, ro_d ro le rfl⟩
  · rename_i i j
    unfold addO at e
    simp only at e
    split at e
    · rename_i hl
      cases e
      exact op_add_str pins s σ H x y v u Q I rx ry ⟨i, j, vx, vy, by rw [sizeLine_eq]; omega, ro_d ro le rfl⟩
    · cases e
  · rename_i xs ys
    unfold addO at e
    simp only at e
    split at e
    · rename_i hl
      cases e
      obtain ⟨a, us, rfl, h2, h3⟩ := vx
      obtain ⟨b, ws, rfl, h4, h5⟩ := vy
      have l1 := h3.len
      have l2 := h5.len
      refine op_catA pins s σ H _ _ v u Q I rx ry ⟨a, b, us, ws, rfl, rfl, sqT_ext le h2, sqT_ext le h4, by rw [sizeLine_eq]; omega, fun z => ?_, fun _ z => ?_, fun _ _ p hp => ?_⟩
      · subst z
        have : xs = [] := List.eq_nil_of_length_eq_zero l1
        subst this
        exact ro_d ro le ⟨b, ws, rfl, h4, h5⟩
      · subst z
        have : ys = [] := List.eq_nil_of_length_eq_zero l2
        subst this
        exact ro_d ro le ⟨a, us, rfl, h2, by rw [List.append_nil]; exact h3⟩
      · exact ro_newT ro le (h3.append h5) hp
    · cases e
  · rename_i xs ys
    unfold addO at e
    simp only at e
    split at e
    · rename_i hl
      cases e
      obtain ⟨a, us, rfl, h2, h3⟩ := vx
      obtain ⟨b, ws, rfl, h4, h5⟩ := vy
      have l1 := h3.len
      have l2 := h5.len
      exact op_cat pins s σ H _ _ v u Q I rx ry ⟨a, b, us, ws, rfl, rfl, h2, h4, by rw [sizeLine_eq]; omega, fun p hp => ro_newL ro le (h3.append h5) hp⟩
    · cases e
theorem op_subO : OpR X (binaryOp .Sub) (rD2 L X.K subO) := by
  intro pins s σ H x y v u Q I rx ry h
  obtain ⟨C, dx, dy, o, le, vx, vy, e, ro⟩ := h
  cases dx <;> cases dy <;> first | (cases e; done) | skip
  rename_i i j
  cases e
  exact op_sub pins s σ H x y v u Q I rx ry ⟨i, j, vx, vy, ro_d ro le rfl⟩
theorem op_mulO : OpR X (binaryOp .Mult) (rD2 L X.K mulO) := by
  intro pins s σ H x y v u Q I rx ry h
  obtain ⟨C, dx, dy, o, le, vx, vy, e, ro⟩ := h
  cases dx <;> cases dy <;> first | (cases e; done) | skip
  · rename_i i j
    unfold mulO at e
    simp only at e
    split at e
    · rename_i hl
      cases e
      refine op_mul pins s σ H x y v u Q I rx ry ⟨i, j, vx, vy, ?_, ro_d ro le rfl⟩
      unfold CMul
      rcases hl with z | z
      · left; omega
      · right; omega
    · split at e
      · rename_i hl
        cases e
        refine op_mulW pins s σ H x y v u Q I rx ry ⟨i, j, vx, vy, ?_, ro_d ro le rfl⟩
        unfold CMulW
        have h1 := log2_lt hl.1
        have h2 := log2_lt hl.2
        omega
      · cases e
  · rename_i x k
    unfold mulO at e
    simp only at e
    split at e
    · rename_i hl
      cases e
      cases (show _ = V.str x from vx)
      cases (show _ = V.int k from vy)
      obtain ⟨t, rfl⟩ := rx
      obtain ⟨t', rfl⟩ := ry
      obtain ⟨h1, h2, h3⟩ := hl
      have hok : PySem.MulOk x k := by
        refine ⟨by rw [decide_eq_false (by omega), decide_eq_false (by omega)]; rfl, fun a b => ?_, fun a b => ?_⟩
        · have hb : ¬ k = 1 ∧ ¬ x.length = 0 := by simpa using b
          have hk : k.toNat ≤ 1000000 := Nat.le_trans (Nat.le_mul_of_pos_left _ (by omega)) h3
          have hx : x.length ≤ 1000000 := Nat.le_trans (Nat.le_mul_of_pos_right _ (by omega)) h3
          have : (9223372036854775807 : Int) / 1000000 ≤ 9223372036854775807 / k := by
            refine Int.le_ediv_of_mul_le (by omega) ?_
            have : k ≤ 1000000 := by omega
            have h9 : (9223372036854775807 : Int) / 1000000 * k ≤ 9223372036854775807 / 1000000 * 1000000 := Int.mul_le_mul_of_nonneg_left this (by decide)
            exact Int.le_trans h9 (by decide)
          have e63 : (2 : Int) ^ 63 - 1 = 9223372036854775807 := by decide
          rw [e63]
          have e6 : (9223372036854775807 : Int) / 1000000 = 9223372036854 := by decide
          rw [e6] at this
          omega
        · unfold Builtin.Str.tooLong
          rw [sizeLine_eq]
          exact decide_eq_false (by omega)
      exact PySem.SB.mul hok fun t' tk => ⟨.str _, H, I.tok _, ⟨_, rfl⟩, ro_d ro le rfl⟩
    · cases e
  · rename_i xs k
    unfold mulO at e
    simp only at e
    split at e
    · rename_i hl
      cases e
      obtain ⟨a, us, rfl, h2, h3⟩ := vx
      have l1 := h3.len
      refine op_repT1 pins s σ H _ _ v u Q I rx ry ⟨a, k, us, rfl, vy, sqT_ext le h2, fun z => ?_, hl.1, by rw [← l1]; exact hl.2.2.2, fun p hp => ro_newT ro le (h3.rep _) hp⟩
      subst z
      exact hl.2.2.1 (List.eq_nil_of_length_eq_zero l1)
    · cases e
  · rename_i xs k
    unfold mulO at e
    simp only at e
    split at e
    · rename_i hl
      cases e
      obtain ⟨a, us, rfl, h2, h3⟩ := vx
      have l1 := h3.len
      exact op_rep pins s σ H _ _ v u Q I rx ry ⟨a, k, us, rfl, vy, h2, by omega, by omega, by rw [sizeLine_eq, ← l1]; omega, fun p hp => ro_newL ro le (h3.rep _) hp⟩
    · cases e
theorem op_fdivO : OpR X (binaryOp .FloorDiv) (rD2 L X.K fdivO) := by
  intro pins s σ H x y v u Q I rx ry h
  obtain ⟨C, dx, dy, o, le, vx, vy, e, ro⟩ := h
  cases dx <;> cases dy <;> first | (cases e; done) | skip
  rename_i i j
  unfold fdivO at e
  simp only at e
  split at e
  · rename_i hl
    cases e
    exact op_fdivW pins s σ H x y v u Q I rx ry ⟨i, j, vx, vy, ⟨hl.1, by have := log2_lt hl.2; omega⟩, ro_d ro le rfl⟩
  · cases e
theorem op_powO : OpR X (binaryOp .Pow) (rD2 L X.K powO) := by
  intro pins s σ H x y v u Q I rx ry h
  obtain ⟨C, dx, dy, o, le, vx, vy, e, ro⟩ := h
  cases dx <;> cases dy <;> first | (cases e; done) | skip
  rename_i i j
  unfold powO at e
  simp only at e
  split at e
  · rename_i hl
    cases e
    cases (show _ = V.int i from vx)
    cases (show _ = V.int j from vy)
    obtain ⟨t, rfl⟩ := rx
    obtain ⟨t', rfl⟩ := ry
    obtain ⟨h1, h2, h3⟩ := hl
    refine PyProof.Rows.pow_int h1 ?_ ⟨.int _, H, I.tok _, ⟨_, rfl⟩, ro_d ro le rfl⟩
    have hb : Builtin.Int.intBits i ≤ 8000 := PyProof.Rows.intBits_le h3
    have h4 : (Builtin.Int.intBits i : Int) * j ≤ 8000 * j := Int.mul_le_mul_of_nonneg_right (by omega) h1
    have h5 : (8000 : Int) * j ≤ 8000 * 10000 := Int.mul_le_mul_of_nonneg_left h2 (by decide)
    have e27 : (2 : Int) ^ 27 = 134217728 := by decide
    rw [e27]
    omega
  · cases e
theorem op_modO : OpR X (binaryOp .Mod) (rD2 L X.K modO) := by
  intro pins s σ H x y v u Q I rx ry h
  obtain ⟨C, dx, dy, o, le, vx, vy, e, ro⟩ := h
  cases dx <;> cases dy <;> first | (cases e; done) | skip
  rename_i i j
  unfold modO at e
  simp only at e
  split at e
  · rename_i hl
    cases e
    exact op_mod pins s σ H x y v u Q I rx ry ⟨i, j, vx, vy, hl, ro_d ro le rfl⟩
  · cases e
theorem un_negO : UnR X (unaryOp .USub) (rD1 L X.K negO) := by
  intro pins s σ H x v Q I rx h
  obtain ⟨C, dx, o, le, vx, e, ro⟩ := h
  cases dx <;> first | (cases e; done) | skip
  rename_i i
  cases e
  exact un_neg pins s σ H x v Q I rx ⟨i, vx, ro_d ro le rfl⟩
end
end Dn
set_option autoImplicit false
set_option Elab.async false
set_option linter.all false
set_option maxRecDepth 100000
/-! DenO2: the operations on data are the machine's (calls, items, texts). -/
namespace Dn
open PySem PySem.Spec PyProof.Rows L2
section
variable {L : Lk} {K : PySem.W.Frag} {C H : Hp} {Q : VK}
/-- a sequence in hand -/
theorem vw_seq (le : Ext C H) : ∀ {d : D} {v : V} {xs : List D}, (d = .lst xs ∨ d = .tup xs) → Vw L K C H d v → ∃ a vs, v = .ref a ∧ (SqL K H a vs ∨ SqT K H a vs) ∧ DatL L K C xs vs
  | _, v, xs, .inl e, h => by
    subst e
    obtain ⟨a, vs, rfl, h2, h3⟩ := h
    exact ⟨a, vs, rfl, .inl (SqL.of h2), h3⟩
  | _, v, xs, .inr e, h => by
    subst e
    obtain ⟨a, vs, rfl, h2, h3⟩ := h
    exact ⟨a, vs, rfl, .inr (sqT_ext le h2), h3⟩
theorem dat_bools : ∀ {xs : List D} {bs : List Bool} {vs : List V}, boolsOf xs = some bs → DatL L K C xs vs → vs = bs.map V.bl
  | [], bs, vs, e, h => by cases e; exact h
  | .bl b :: r, bs, vs, e, h => by
    unfold boolsOf at e
    obtain ⟨cs, e1, rfl⟩ := Option.map_eq_some_iff.mp e
    obtain ⟨v, r', rfl, h2, h3⟩ := h
    rw [show v = V.bl b from h2, dat_bools e1 h3]; rfl
  | .non :: _, _, _, e, _ => by cases e
  | .int _ :: _, _, _, e, _ => by cases e
  | .str _ :: _, _, _, e, _ => by cases e
  | .tup _ :: _, _, _, e, _ => by cases e
  | .lst _ :: _, _, _, e, _ => by cases e
  | .set _ :: _, _, _, e, _ => by cases e
  | .dct _ :: _, _, _, e, _ => by cases e
  | .obj _ _ :: _, _, _, e, _ => by cases e
  | .fn _ :: _, _, _, e, _ => by cases e
  | .scr _ :: _, _, _, e, _ => by cases e
theorem dat_strs : ∀ {xs : List D} {bs : List Str} {vs : List V}, strsOf xs = some bs → DatL L K C xs vs → vs = bs.map V.str
  | [], bs, vs, e, h => by cases e; exact h
  | .str b :: r, bs, vs, e, h => by
    unfold strsOf at e
    obtain ⟨cs, e1, rfl⟩ := Option.map_eq_some_iff.mp e
    obtain ⟨v, r', rfl, h2, h3⟩ := h
    rw [show v = V.str b from h2, dat_strs e1 h3]; rfl
  | .non :: _, _, _, e, _ => by cases e
  | .int _ :: _, _, _, e, _ => by cases e
  | .bl _ :: _, _, _, e, _ => by cases e
  | .tup _ :: _, _, _, e, _ => by cases e
  | .lst _ :: _, _, _, e, _ => by cases e
  | .set _ :: _, _, _, e, _ => by cases e
  | .dct _ :: _, _, _, e, _ => by cases e
  | .obj _ _ :: _, _, _, e, _ => by cases e
  | .fn _ :: _, _, _, e, _ => by cases e
  | .scr _ :: _, _, _, e, _ => by cases e
theorem dat_intsOf : ∀ {xs : List D} {bs : List Int} {vs : List V}, intsOf xs = some bs → DatL L K C xs vs → vs = bs.map V.int
  | [], bs, vs, e, h => by cases e; exact h
  | .int b :: r, bs, vs, e, h => by
    unfold intsOf at e
    obtain ⟨cs, e1, rfl⟩ := Option.map_eq_some_iff.mp e
    obtain ⟨v, r', rfl, h2, h3⟩ := h
    rw [show v = V.int b from h2, dat_intsOf e1 h3]; rfl
  | .non :: _, _, _, e, _ => by cases e
  | .str _ :: _, _, _, e, _ => by cases e
  | .bl _ :: _, _, _, e, _ => by cases e
  | .tup _ :: _, _, _, e, _ => by cases e
  | .lst _ :: _, _, _, e, _ => by cases e
  | .set _ :: _, _, _, e, _ => by cases e
  | .dct _ :: _, _, _, e, _ => by cases e
  | .obj _ _ :: _, _, _, e, _ => by cases e
  | .fn _ :: _, _, _, e, _ => by cases e
  | .scr _ :: _, _, _, e, _ => by cases e
theorem dat_key : ∀ {d : D} {k : Key} {v : V}, keyD d = some k → Dat L K C d v → v = kV k
  | .int i, k, v, e, h => by cases e; exact h
  | .str x, k, v, e, h => by cases e; exact h
  | .non, _, _, e, _ => by cases e
  | .bl _, _, _, e, _ => by cases e
  | .tup _, _, _, e, _ => by cases e
  | .lst _, _, _, e, _ => by cases e
  | .set _, _, _, e, _ => by cases e
  | .dct _, _, _, e, _ => by cases e
  | .obj _ _, _, _, e, _ => by cases e
  | .fn _, _, _, e, _ => by cases e
  | .scr _, _, _, e, _ => by cases e
theorem vw_key (le : Ext C H) : ∀ {d : D} {k : Key} {v : V}, keyD d = some k → Vw L K C H d v → v = kV k
  | .int i, k, v, e, h => by cases e; exact h
  | .str x, k, v, e, h => by cases e; exact h
  | .non, _, _, e, _ => by cases e
  | .bl _, _, _, e, _ => by cases e
  | .tup _, _, _, e, _ => by cases e
  | .lst _, _, _, e, _ => by cases e
  | .set _, _, _, e, _ => by cases e
  | .dct _, _, _, e, _ => by cases e
  | .obj _ _, _, _, e, _ => by cases e
  | .fn _, _, _, e, _ => by cases e
  | .scr _, _, _, e, _ => by cases e
theorem dat_keys : ∀ {xs : List D} {ks : List Key} {vs : List V}, keysOf xs = some ks → DatL L K C xs vs → vs = ks.map kV
  | [], ks, vs, e, h => by cases e; exact h
  | d :: r, ks, vs, e, h => by
    unfold keysOf at e
    obtain ⟨v, r', rfl, h2, h3⟩ := h
    split at e
    · rename_i k ks' e1 e2
      cases e
      rw [dat_key e1 h2, dat_keys e2 h3]; rfl
    · cases e
theorem keysOf_map : ∀ ks : List Key, keysOf (ks.map dOfK) = some ks
  | [] => rfl
  | .inl i :: ks => by simp only [List.map_cons, dOfK, keysOf, keyD, keysOf_map ks]
  | .inr i :: ks => by simp only [List.map_cons, dOfK, keysOf, keyD, keysOf_map ks]
theorem keysOf_len : ∀ {xs : List D} {ks : List Key}, keysOf xs = some ks → ks.length = xs.length
  | [], _, e => by cases e; rfl
  | d :: r, ks, e => by
    unfold keysOf at e
    split at e
    · rename_i k ks' e1 e2
      cases e
      simp [keysOf_len e2]
    · cases e
theorem dat_signs (z : Str) : DatL L K C (z.cps.toList.map fun c => .str (sign c)) (z.cps.toList.map fun c => V.str (sign c)) := by
  generalize z.cps.toList = l
  induction l with
  | nil => rfl
  | cons c l ih => exact ⟨_, _, rfl, rfl, ih⟩
end
section
variable {X : Cx} {L : Lk} {E : XK} {k : Nat}
/-! ### len -/
theorem len_setK {a : Addr} {S : Key → Bool} {n : Nat} {pins : List (Addr × Obj)} {s : Shared} {σ : L2.St} {H : Hp} {Q : VK} (I : Inv X pins σ H s) (ha : H a = some (SetK X.prog X.w a S n)) (q : Q (.int n) H) :
    wpAny (model X.prog X.w) X.A (call (.builtin "len") [.ref a]) (EP X pins σ Q) X.xe s := by
  obtain ⟨o, es, ep, t, ho, hex, hd, _, _, hb, hf, hn⟩ := setK_get I ha
  have hb' : es.size < 2 ^ 63 := by
    have : es.size < scanBound := hb
    unfold scanBound at this
    omega
  exact call_len_set ho hex hd hf (by omega) ⟨.int n, H, I.tok _, ⟨_, by rw [hn]⟩, q⟩
theorem cr_len (hP : L.P = X.prog) (hw : L.w = X.w) : CallR X (.builtin "len") (rDN L X.K (U1 lenO)) := by
  intro pins s σ H xs us Q I r h
  obtain ⟨C, ds, o, le, vw, e, ro⟩ := h
  unfold U1 at e
  split at e
  · rename_i d
    obtain ⟨v, r', rfl, h1, rfl⟩ := vw
    cases d <;> first | (cases e; done) | skip
    · rename_i z
      unfold lenO at e
      simp only at e
      split at e
      · cases e
        exact call_len_str pins s σ H _ us Q I r ⟨z, by rw [show v = V.str z from h1], by rw [sizeLine_eq]; omega, ro_d ro le rfl⟩
      · cases e
    · rename_i xs
      cases e
      obtain ⟨a, vs, rfl, h2, h3⟩ := vw_seq le (.inr rfl) h1
      exact call_len_seq pins s σ H _ us Q I r ⟨a, vs, rfl, h2, by rw [← h3.len]; exact ro_d ro le rfl⟩
    · rename_i xs
      cases e
      obtain ⟨a, vs, rfl, h2, h3⟩ := vw_seq le (.inl rfl) h1
      exact call_len_seq pins s σ H _ us Q I r ⟨a, vs, rfl, h2, by rw [← h3.len]; exact ro_d ro le rfl⟩
    · rename_i xs
      cases e
      obtain ⟨a, ks, rfl, h2, h3⟩ := h1
      obtain ⟨u, rfl, r0⟩ := r.one
      cases (show u = Value.ref a from r0)
      rw [hP, hw] at h3
      refine len_setK I h3 ?_
      rw [keysOf_len h2]
      exact ro_d ro le rfl
    · rename_i kvs
      cases e
      obtain ⟨a, kv, rfl, h2, h3⟩ := h1
      refine call_lenD pins s σ H _ us Q I r ⟨a, kv, rfl, h2, ?_⟩
      have : kv.length = kvs.length := by
        clear h2 r ro
        induction kvs generalizing kv with
        | nil => rw [show kv = [] from h3]; rfl
        | cons p ps ih =>
          obtain ⟨k, d⟩ := p
          obtain ⟨q, v, r, rfl, _, _, h4⟩ := h3
          simp [ih _ h4]
      rw [this]
      exact ro_d ro le rfl
    · rename_i xs
      cases e
      obtain ⟨a, rfl, h2⟩ := h1
      exact call_len_seq pins s σ H _ us Q I r ⟨a, xs.map V.int, rfl, .inl (sqL_ext le h2), by rw [List.length_map]; exact ro_d ro le rfl⟩
  · cases e
/-- one argument -/
theorem cr_u1 {f : Value} {op : D → Option O} {r : List V → Hp → VK → Prop} (hc : CallR X f r) (h : ∀ C H dx x o Q, Ext C H → Vw L X.K C H dx x → op dx = some o → RO L X.K C H o Q → r [x] H Q) : CallR X f (rDN L X.K (U1 op)) := by
  intro pins s σ H xs us Q I rr q
  obtain ⟨C, ds, o, le, vw, e, ro⟩ := q
  unfold U1 at e
  split at e
  · obtain ⟨v, r', rfl, h1, rfl⟩ := vw
    exact hc pins s σ H _ us Q I rr (h C H _ _ o Q le h1 e ro)
  · cases e
theorem cr_u2 {f : Value} {op : D → D → Option O} {r : List V → Hp → VK → Prop} (hc : CallR X f r) (h : ∀ C H dx dy x y o Q, Ext C H → Vw L X.K C H dx x → Vw L X.K C H dy y → op dx dy = some o → RO L X.K C H o Q → r [x, y] H Q) : CallR X f (rDN L X.K (U2 op)) := by
  intro pins s σ H xs us Q I rr q
  obtain ⟨C, ds, o, le, vw, e, ro⟩ := q
  unfold U2 at e
  split at e
  · obtain ⟨v, r', rfl, h1, v2, r2, rfl, h2, rfl⟩ := vw
    exact hc pins s σ H _ us Q I rr (h C H _ _ _ _ o Q le h1 h2 e ro)
  · cases e
theorem cr_absO : CallR X (.builtin "abs") (rDN L X.K (U1 absO)) := cr_u1 call_abs fun C H dx x o Q le vx e ro => by
  cases dx <;> first | (cases e; done) | skip
  cases e
  exact ⟨_, by rw [show x = V.int _ from vx], ro_d ro le rfl⟩
theorem cr_intO : CallR X (.type "int") (rDN L X.K (U1 intCO)) := cr_u1 call_int1 fun C H dx x o Q le vx e ro => by
  cases dx <;> first | (cases e; done) | skip
  · cases e
    exact .inr ⟨_, by rw [show x = V.bl _ from vx], ro_d ro le rfl⟩
  · cases e
    exact .inl ⟨_, by rw [show x = V.int _ from vx], ro_d ro le rfl⟩
theorem cr_max2O (hc : X.calm = true) : CallR X (.builtin "max") (rDN L X.K (U2 max2O)) := cr_u2 (call_max2 hc) fun C H dx dy x y o Q le vx vy e ro => by
  cases dx <;> cases dy <;> first | (cases e; done) | skip
  cases e
  exact ⟨_, _, by rw [show x = V.int _ from vx, show y = V.int _ from vy], ro_d ro le rfl⟩
theorem cr_min2O (hc : X.calm = true) : CallR X (.builtin "min") (rDN L X.K (U2 min2O)) := cr_u2 (call_min2 hc) fun C H dx dy x y o Q le vx vy e ro => by
  cases dx <;> cases dy <;> first | (cases e; done) | skip
  cases e
  exact ⟨_, _, by rw [show x = V.int _ from vx, show y = V.int _ from vy], ro_d ro le rfl⟩
theorem cr_tupleO : CallR X (.type "tuple") (rDN L X.K (U1 tupleO)) := cr_u1 call_tuple_of fun C H dx x o Q le vx e ro => by
  cases dx <;> first | (cases e; done) | skip
  · cases e
    obtain ⟨a, vs, rfl, h2, h3⟩ := vx
    exact ⟨a, vs, rfl, .inr ⟨sqT_ext le h2, ro_d ro le ⟨a, vs, rfl, h2, h3⟩⟩⟩
  · cases e
    obtain ⟨a, vs, rfl, h2, h3⟩ := vx
    exact ⟨a, vs, rfl, .inl ⟨SqL.of h2, fun p hp => ro_newT ro le h3 hp⟩⟩
theorem cr_allO (hc : X.calm = true) : CallR X (.builtin "all") (rDN L X.K (U1 allO)) := cr_u1 (cr_all hc) fun C H dx x o Q le vx e ro => by
  cases dx <;> first | (cases e; done) | skip
  rename_i xs
  obtain ⟨bs, e1, e2⟩ := Option.bind_eq_some_iff.mp e
  cases e2
  obtain ⟨a, vs, rfl, h2, h3⟩ := vx
  rw [dat_bools e1 h3] at h2
  exact ⟨a, bs, rfl, SqL.of h2, ro_d ro le rfl⟩
theorem cr_anyO (hc : X.calm = true) : CallR X (.builtin "any") (rDN L X.K (U1 anyO)) := cr_u1 (cr_any hc) fun C H dx x o Q le vx e ro => by
  cases dx <;> first | (cases e; done) | skip
  rename_i xs
  obtain ⟨bs, e1, e2⟩ := Option.bind_eq_some_iff.mp e
  cases e2
  obtain ⟨a, vs, rfl, h2, h3⟩ := vx
  rw [dat_bools e1 h3] at h2
  exact ⟨a, bs, rfl, SqL.of h2, ro_d ro le rfl⟩
theorem ro_newS (hP : L.P = X.prog) (hw : L.w = X.w) {C H : Hp} {ks : List Key} {p : Addr} {Q : VK} (r : RO L X.K C H (.set (ks.map dOfK)) Q) (e : Ext C H) (hp : H p = none) : Q (.ref p) (upd H p (SetK X.prog X.w p (hasK ks) ks.length)) :=
  r (.ref p) C _ [p] ⟨Ext.rfl', ext_new hp, ext_upd e hp, fun _ h => .inl h, ⟨p, ks, rfl, rfl, keysOf_map ks, by rw [hP, hw]; exact upd_same⟩, by simp, fun a ha => by
    have : a = p := by simpa using ha
    subst this
    exact ⟨ext_none e hp, hp⟩⟩
theorem cr_setO (hP : L.P = X.prog) (hw : L.w = X.w) (hc : X.calm = true) : CallR X (.type "set") (rDN L X.K (U1 setO)) := cr_u1 (call_setK hc) fun C H dx x o Q le vx e ro => by
  have fin : ∀ xs : List D, (dx = .lst xs ∨ dx = .tup xs) → ((keysOf xs).bind fun ks => if ks.length ≤ 4000 then some (O.set ((dedK ks).map dOfK)) else none) = some o → ∃ (l : Addr) (ks : List Key), [x] = [V.ref l] ∧ (SqL X.K H l (ks.map kV) ∨ SqT X.K H l (ks.map kV)) ∧ ks.length + 1 < scanBound ∧
      ∀ p, H p = none → Q (.ref p) (upd H p (SetK X.prog X.w p (hasK (dedK ks)) (dedK ks).length)) := fun xs hx e => by
    obtain ⟨ks, e1, e2⟩ := Option.bind_eq_some_iff.mp e
    split at e2
    · rename_i hl
      cases e2
      obtain ⟨a, vs, rfl, h2, h3⟩ := vw_seq le hx vx
      rw [dat_keys e1 h3] at h2
      exact ⟨a, ks, rfl, h2, by unfold scanBound; omega, fun p hp => ro_newS hP hw ro le hp⟩
    · cases e2
  cases dx <;> first | (cases e; done) | skip
  · exact fin _ (.inr rfl) e
  · exact fin _ (.inl rfl) e
theorem cr_listO (hc : X.calm = true) : CallR X (.type "list") (rDN L X.K (U1 listO)) := by
  intro pins s σ H xs us Q I r h
  obtain ⟨C, ds, o, le, vw, e, ro⟩ := h
  unfold U1 at e
  split at e
  · rename_i d
    obtain ⟨v, r', rfl, h1, rfl⟩ := vw
    cases d <;> first | (cases e; done) | skip
    · rename_i z
      unfold listO at e
      simp only at e
      split at e
      · rename_i hz
        cases e
        cases (show v = V.str z from h1)
        obtain ⟨u, rfl, t, rfl⟩ := r.one
        have hz2 : z.cps.size ≤ sizeLine := by
          rw [sizeLine_eq]
          have : z.length = z.cps.size := rfl
          omega
        refine call_list_str (I.ok.hd hc) z t (fun h' tk acc c' hk hD hacc => ?_) hz2
        have hl : acc.size = z.cps.size := hacc.1
        have hv : Vals (z.cps.toList.map fun c => V.str (sign c)) acc.toList := by
          refine vals_of_at (by simp [hl]) fun j x u hx hu => ?_
          rw [List.getElem?_map, Array.getElem?_toList] at hx
          obtain ⟨c, k, hc2, rfl⟩ := hacc.2 j u (by rw [← Array.getElem?_toList]; exact hu)
          rw [hc2] at hx
          cases hx
          exact ⟨k, rfl⟩
        refine ⟨.ref s.heap.objs.size, upd H s.heap.objs.size (.lst (z.cps.toList.map fun c => V.str (sign c))), I.laid (t' := tk) hk (Nat.le_refl _)
          (show ObjOk X.prog X.w _ _ _ (.lst _) from ⟨by simpa using hz2, acc.toList, c', hv, by rw [Array.toArray_toList]; exact hD⟩), rfl, ro_newL ro le (dat_signs z) (I.hok.fresh (Nat.le_refl _))⟩
      · cases e
    · rename_i xs
      cases e
      obtain ⟨a, vs, rfl, h2, h3⟩ := vw_seq le (.inr rfl) h1
      exact call_list_of pins s σ H _ us Q I r ⟨a, vs, rfl, h2, fun l hl => ro_newL ro le h3 hl⟩
    · rename_i xs
      cases e
      obtain ⟨a, vs, rfl, h2, h3⟩ := vw_seq le (.inl rfl) h1
      exact call_list_of pins s σ H _ us Q I r ⟨a, vs, rfl, h2, fun l hl => ro_newL ro le h3 hl⟩
  · cases e
/-! ### items, cuts -/
theorem atI_of {α : Type} {xs : List α} {i : Int} : atI xs i = atD xs i := rfl
theorem dat_at {K : PySem.W.Frag} {C : Hp} {xs : List D} {vs : List V} {i : Int} {d : D} (h : DatL L K C xs vs) (e : atD xs i = some d) : ∃ v, atI vs i = some v ∧ Dat L K C d v := by
  unfold atD at e
  obtain ⟨j, h1, h2⟩ := Option.bind_eq_some_iff.mp e
  obtain ⟨v, h3, h4⟩ := h.get h2
  refine ⟨v, ?_, h4⟩
  unfold atI
  rw [show ixN vs.length i = some j from by rw [← h.len]; exact h1]
  exact h3
theorem ix_any : IxR X (rD2 L X.K ixO) := by
  intro value slice pins s σ H x y v u Q I rx ry h hsub
  obtain ⟨C, dx, dy, o, le, vx, vy, e, ro⟩ := h
  have seq : ∀ (xs : List D) (i : Int), (dx = .lst xs ∨ dx = .tup xs) → dy = .int i → (atD xs i).map O.d = some o → wpAny (model X.prog X.w) X.A (subscriptTail value slice v u) (EP X pins σ Q) X.xe s := fun xs i hx hy e => by
    obtain ⟨d, e1, e2⟩ := Option.map_eq_some_iff.mp e
    subst hy
    cases e2
    obtain ⟨a, vs, rfl, h2, h3⟩ := vw_seq le hx vx
    obtain ⟨v', e3, dv⟩ := dat_at h3 e1
    rcases h2 with h2 | h2
    · exact ix_list value slice pins s σ H _ _ v u Q I rx ry ⟨a, vs, i, v', rfl, vy, h2, e3, ro_d ro le dv⟩ hsub
    · exact ix_tup value slice pins s σ H _ _ v u Q I rx ry ⟨a, vs, i, v', rfl, vy, h2, e3, ro_d ro le dv⟩ hsub
  cases dx <;> cases dy <;> first | (cases e; done) | skip
  · rename_i z i
    unfold ixO at e
    simp only at e
    split at e
    · rename_i hz
      obtain ⟨c, e1, e2⟩ := Option.map_eq_some_iff.mp e
      cases e2
      exact ix_str value slice pins s σ H _ _ v u Q I rx ry ⟨z, i, c, vx, vy, by rw [sizeLine_eq]; omega, e1, ro_d ro le rfl⟩ hsub
    · cases e
  · exact seq _ _ (.inr rfl) rfl e
  · exact seq _ _ (.inl rfl) rfl e
  · rename_i xs i
    obtain ⟨k, e1, e2⟩ := Option.map_eq_some_iff.mp e
    cases e2
    obtain ⟨a, rfl, h2⟩ := vx
    refine ix_list value slice pins s σ H _ _ v u Q I rx ry ⟨a, xs.map V.int, i, .int k, rfl, vy, sqL_ext le h2, ?_, ro_d ro le rfl⟩ hsub
    unfold atD at e1
    obtain ⟨j, h1, h2'⟩ := Option.bind_eq_some_iff.mp e1
    unfold atI
    rw [show ixN (xs.map V.int).length i = some j from by rw [List.length_map]; exact h1]
    show (xs.map V.int)[j]? = _
    rw [List.getElem?_map, h2']; rfl
theorem bnd_ix (n d : Nat) (o : Option Int) : HT.sIx n d o = bnd n d o := by
  cases o <;> rfl
theorem cutV_eq (xs : List V) (lo hi : Option Int) : cutV xs lo hi = cutL xs lo hi := by
  unfold cutV cutL
  rw [bnd_ix, bnd_ix]
theorem cutS_eq (z : Str) (lo hi : Option Int) : cutS z lo hi = cutStr z lo hi := by
  unfold cutS cutStr cutL
  rw [bnd_ix, bnd_ix]
  rfl
theorem cutL_dat {K : PySem.W.Frag} {C : Hp} {xs : List D} {vs : List V} {lo hi : Option Int} (h : DatL L K C xs vs) : DatL L K C (cutL xs lo hi) (cutL vs lo hi) := by
  unfold cutL
  rw [h.len]
  exact (h.drop _).take _
theorem bnd_le (n d : Nat) (o : Option Int) (hd : d ≤ n) (hi : ∀ v, o = some v → True) : True := trivial
theorem cutL_all {α : Type} {xs : List α} {lo hi : Option Int} (h1 : bnd xs.length 0 lo = 0) (h2 : bnd xs.length xs.length hi = xs.length) : cutL xs lo hi = xs := by
  unfold cutL
  rw [h1, h2]
  simp
/-- x[lo:hi] -/
def rCut (L : Lk) (K : PySem.W.Frag) : V → Option Int → Option Int → Hp → VK → Prop := fun x lo hi H Q => ∃ C dx o, Ext C H ∧ Vw L K C H dx x ∧ cutO dx lo hi = some o ∧ RO L K C H o Q
theorem sl_any : SlR X (rCut L X.K) := by
  intro pins s σ H x v vl vu lo hi sl Q I rx hsl hlo hhi h
  obtain ⟨C, dx, o, le, vx, e, ro⟩ := h
  cases dx <;> first | (cases e; done) | skip
  · rename_i z
    unfold cutO at e
    simp only at e
    split at e
    · rename_i hz
      cases e
      exact sl_str pins s σ H x v vl vu lo hi sl Q I rx hsl hlo hhi ⟨z, vx, by rw [sizeLine_eq]; omega, by rw [cutS_eq]; exact ro_d ro le rfl⟩
    · cases e
  · rename_i xs
    cases e
    obtain ⟨a, vs, rfl, h2, h3⟩ := vx
    refine sl_tupA pins s σ H _ v vl vu lo hi sl Q I rx hsl hlo hhi ⟨a, vs, rfl, sqT_ext le h2, fun hh => ?_, fun _ p hp => ?_⟩
    · rw [bnd_ix, bnd_ix] at hh
      have : cutL xs lo hi = xs := cutL_all (by rw [h3.len]; exact hh.1) (by rw [h3.len]; exact hh.2)
      rw [this] at ro
      exact ro_d ro le ⟨a, vs, rfl, h2, h3⟩
    · rw [cutV_eq]
      exact ro_newT ro le (cutL_dat h3) hp
  · rename_i xs
    cases e
    obtain ⟨a, vs, rfl, h2, h3⟩ := vx
    exact sl_list pins s σ H _ v vl vu lo hi sl Q I rx hsl hlo hhi ⟨a, vs, rfl, SqL.of h2, fun p hp => by rw [cutV_eq]; exact ro_newL ro le (cutL_dat h3) hp⟩
/-! ### in -/
theorem dct_keys {K : PySem.W.Frag} {C : Hp} : ∀ {kvs : List (D × D)} {kv : List (Key × V)} {ks : List Key}, DatK L K C kvs kv → keysOf (kvs.map (·.1)) = some ks → kv.map (·.1) = ks
  | [], _, _, h, e => by
    rw [show _ = [] from h]
    cases e; rfl
  | (k, d) :: r, _, ks, h, e => by
    obtain ⟨q, v, r', rfl, h1, h2, h3⟩ := h
    rw [List.map_cons] at e
    unfold keysOf at e
    rw [h1] at e
    cases e2 : keysOf (r.map (·.1)) with
    | none => rw [e2] at e; cases e
    | some ks' =>
      rw [e2] at e
      cases e
      rw [List.map_cons, dct_keys h3 e2]
theorem inO_b {dx dy : D} {o : O} (e : inO dx dy = some o) : ∃ b, o = .d (.bl b) := by
  unfold inO at e
  split at e
  · split at e
    · cases e; exact ⟨_, rfl⟩
    · cases e
  · split at e
    · cases e; exact ⟨_, rfl⟩
    · cases e
  · split at e
    · split at e
      · cases e; exact ⟨_, rfl⟩
      · cases e
    · cases e
  · split at e
    · cases e; exact ⟨_, rfl⟩
    · cases e
  · split at e
    · cases e; exact ⟨_, rfl⟩
    · cases e
  · cases e
theorem toPL_mem (x : D) (hx : plainD x = true) : ∀ xs : List D, plainL xs = true → ((toPL xs).any fun y => PyData.eqv y (toP x)) = memD x xs
  | [], _ => rfl
  | y :: ys, h => by
    simp only [plainL, Bool.and_eq_true] at h
    unfold toPL memD
    rw [List.any_cons, List.any_cons, toP_eqv y x h.1 hx, toPL_mem x hx ys h.2]
    rfl
theorem in_core (neg : Bool) {pins : List (Addr × Obj)} {s : Shared} {σ : L2.St} {H C : Hp} {x y : V} {v u : Value} {Q : VK} {dx dy : D} {b : Bool} (hu : X.A.units + 64 < cLine) (hP : L.P = X.prog) (hw : L.w = X.w) (I : Inv X pins σ H s) (rx : RelV x v) (ry : RelV y u) (le : Ext C H) (vx : Vw L X.K C H dx x) (vy : Vw L X.K C H dy y)
    (e : inO dx dy = ob b) (q : Q (.bl (if neg then !b else b)) H) : wpAny (model X.prog X.w) X.A (compareOp (if neg then .NotIn else .In) v u) (EP X pins σ Q) X.xe s := by
  have fin : ∀ {k : Bool}, k = b → EP X pins σ Q (.bool (if neg then !k else k)) s := fun {k} hk => ⟨.bl (if neg then !k else k), H, I, rfl, by subst hk; exact q⟩
  cases dy <;> first | (cases e; done) | skip
  · rename_i z
    unfold inO at e
    cases dx <;> first | (cases e; done) | skip
    rename_i y'
    simp only at e
    split at e
    · rename_i n hn
      cases e
      have hy : y' = ⟨#[n]⟩ := by
        obtain ⟨a⟩ := y'
        congr 1
        exact Array.ext' (by simpa using hn)
      subst hy
      cases neg with
      | false => exact op_in_sign pins s σ H x y v u Q I rx ry ⟨n, z, vx, vy, q⟩
      | true =>
        cases (show x = V.str _ from vx)
        cases (show y = V.str _ from vy)
        exact op_notIn_sign pins s σ H _ _ v u Q I rx ry ⟨n, z, rfl, rfl, q⟩
    · cases e
  · rename_i xs
    unfold inO at e
    simp only at e
    split at e
    · rename_i hh
      cases e
      obtain ⟨as, r1⟩ := Dp.reads I _ x v (vw_dp le hh.2.1 vx) rx
      obtain ⟨bs, r2⟩ := Dp.reads I (toP (.tup xs)) y u (vw_dp le (by unfold plainD; exact hh.1) vy) ry
      unfold toP at r2
      have pa : PyData.plainAll (toPL xs) = true := toPL_plain xs
      have hd : X.A.units + 1 + min (PyData.depthAll (toPL xs)) (toP dx).depth < cLine := by rw [toPL_depth, toP_depth]; have := hh.2.2; omega
      cases neg with
      | false => exact SeqAt.in_tuple_data r2 r1 pa (toP_plain _) hd (fin (toPL_mem dx hh.2.1 xs hh.1))
      | true => exact SeqAt.notIn_tuple_data r2 r1 pa (toP_plain _) hd (fin (toPL_mem dx hh.2.1 xs hh.1))
    · cases e
  · rename_i xs
    unfold inO at e
    simp only at e
    split at e
    · rename_i hh
      cases e
      obtain ⟨as, r1⟩ := Dp.reads I _ x v (vw_dp le hh.2.1 vx) rx
      obtain ⟨bs, r2⟩ := Dp.reads I (toP (.lst xs)) y u (vw_dp le (by unfold plainD; exact hh.1) vy) ry
      unfold toP at r2
      have pa : PyData.plainAll (toPL xs) = true := toPL_plain xs
      have hd : X.A.units + 1 + min (PyData.depthAll (toPL xs)) (toP dx).depth < cLine := by rw [toPL_depth, toP_depth]; have := hh.2.2; omega
      cases neg with
      | false => exact SeqAt.in_list_data r2 r1 pa (toP_plain _) hd (fin (toPL_mem dx hh.2.1 xs hh.1))
      | true => exact SeqAt.notIn_list_data r2 r1 pa (toP_plain _) hd (fin (toPL_mem dx hh.2.1 xs hh.1))
    · cases e
  · rename_i xs
    unfold inO at e
    simp only at e
    split at e
    · rename_i k ks e1 e2
      cases e
      obtain ⟨a, ks', rfl, h2, h3⟩ := vy
      rw [e2] at h2
      cases h2
      rw [hP, hw] at h3
      cases neg with
      | false => exact or_sinK pins s σ H x _ v u Q I rx ry ⟨k, a, _, _, vw_key le e1 vx, rfl, h3, q⟩
      | true => exact or_snotinK pins s σ H x _ v u Q I rx ry ⟨k, a, _, _, vw_key le e1 vx, rfl, h3, q⟩
    · cases e
  · rename_i kvs
    unfold inO at e
    simp only at e
    split at e
    · rename_i k ks e1 e2
      cases e
      obtain ⟨a, kv, rfl, h2, h3⟩ := vy
      have hk : (valV kv k).isSome = hasK ks k := by
        rw [← valV_any, ← dct_keys h3 e2]
        unfold hasK
        rw [List.any_map]; rfl
      have g : DGet H a x (valV kv k) := .inl ⟨kv, k, .inl h2, vw_key le e1 vx, rfl⟩
      cases (show u = Value.ref a from ry)
      cases neg with
      | false => exact d_in (by omega) I g rx fun s' I' => ⟨.bl _, H, I', rfl, by rw [hk]; exact q⟩
      | true => exact d_notIn (by omega) I g rx fun s' I' => ⟨.bl _, H, I', rfl, by rw [hk]; exact q⟩
    · cases e
theorem op_inO (hu : X.A.units + 64 < cLine) (hP : L.P = X.prog) (hw : L.w = X.w) : OpR X (compareOp .In) (rD2 L X.K inO) := by
  intro pins s σ H x y v u Q I rx ry h
  obtain ⟨C, dx, dy, o, le, vx, vy, e, ro⟩ := h
  obtain ⟨b, rfl⟩ := inO_b e
  exact in_core false hu hP hw I rx ry le vx vy e (ro_d ro le rfl)
theorem op_ninO (hu : X.A.units + 64 < cLine) (hP : L.P = X.prog) (hw : L.w = X.w) : OpR X (compareOp .NotIn) (rD2 L X.K ninO) := by
  intro pins s σ H x y v u Q I rx ry h
  obtain ⟨C, dx, dy, o, le, vx, vy, e, ro⟩ := h
  unfold ninO at e
  cases ei : inO dx dy with
  | none => rw [ei] at e; cases e
  | some o' =>
    obtain ⟨b, rfl⟩ := inO_b ei
    rw [ei] at e
    cases e
    exact in_core true hu hP hw I rx ry le vx vy ei (ro_d ro le rfl)
/-! ### texts -/
theorem mt_joinO : MtR X "str.join" (fun x xs H Q => ∃ y, xs = [y] ∧ rD2 L X.K joinO x y H Q) := by
  intro pins s σ H x xs v us Q I rx rxs h
  obtain ⟨y, rfl, C, dx, dy, o, le, vx, vy, e, ro⟩ := h
  have fin : ∀ ls : List D, (dy = .lst ls ∨ dy = .tup ls) → joinL dx ls = some o → wpAny (model X.prog X.w) X.A (call (.builtin "str.join") (v :: us)) (EP X pins σ Q) X.xe s := fun ls hl e => by
    cases es : strsOf ls with
    | none => unfold joinL at e; rw [es] at e; cases dx <;> cases e
    | some ys =>
      cases dx <;> first | (unfold joinL at e; rw [es] at e; cases e; done) | skip
      rename_i a e9
      unfold joinL at e
      rw [es] at e
      simp only at e
      split at e
      · rename_i hz
        cases e
        obtain ⟨p, vs, rfl, h2, h3⟩ := vw_seq le hl vy
        rw [dat_strs es h3] at h2
        exact mt_join pins s σ H x _ v us Q I rx rxs ⟨a, p, ys, vx, rfl, h2, by have : (ys.map (·.length)).sum = totL ys := rfl; omega, ro_d ro le rfl⟩
      · cases e
  cases dy <;> first | (cases e; done) | skip
  · exact fin _ (.inr rfl) e
  · exact fin _ (.inl rfl) e
theorem dat_strL {K : PySem.W.Frag} {C : Hp} : ∀ ys : List Str, DatL L K C (ys.map .str) (ys.map V.str)
  | [] => rfl
  | y :: ys => ⟨_, _, rfl, rfl, dat_strL ys⟩
theorem mt_splitO : MtR X "str.split" (fun x xs H Q => ∃ y, xs = [y] ∧ rD2 L X.K splitO x y H Q) := by
  intro pins s σ H x xs v us Q I rx rxs h
  obtain ⟨y, rfl, C, dx, dy, o, le, vx, vy, e, ro⟩ := h
  cases dx <;> cases dy <;> first | (cases e; done) | skip
  rename_i a b
  unfold splitO at e
  simp only at e
  split at e
  · rename_i hz
    cases e
    exact mt_split pins s σ H x _ v us Q I rx rxs ⟨a, b, vx, by rw [show y = V.str b from vy], by simpa using hz.1, by rw [sizeLine_eq]; omega, fun p hp => ro_newL ro le (dat_strL _) hp⟩
  · cases e
/-! ### isinstance of built-in classes -/
theorem isi_kit (T : String) (h : T = "str" ∨ T = "int" ∨ T = "bool" ∨ T = "tuple" ∨ T = "list" ∨ T = "dict") {K : PySem.W.Frag} {C H : Hp} {d : D} {v : V} {b : Bool} (le : Ext C H) (hv : Vw L K C H d v) (e : isiB T d = some b) :
    ∃ t : String, TyX K H v (.type t) ∧ kitB t T = some b := by
  cases d <;> first | (cases e; done) | skip
  · refine ⟨"NoneType", by rw [show v = V.non from hv]; exact .base .non, ?_⟩
    cases e
    rcases h with rfl | rfl | rfl | rfl | rfl | rfl <;> decide +kernel
  · refine ⟨"bool", by rw [show v = V.bl _ from hv]; exact .base (.bl _), ?_⟩
    cases e
    rcases h with rfl | rfl | rfl | rfl | rfl | rfl <;> decide +kernel
  · refine ⟨"int", by rw [show v = V.int _ from hv]; exact .base (.int _), ?_⟩
    cases e
    rcases h with rfl | rfl | rfl | rfl | rfl | rfl <;> decide +kernel
  · refine ⟨"str", by rw [show v = V.str _ from hv]; exact .base (.str _), ?_⟩
    cases e
    rcases h with rfl | rfl | rfl | rfl | rfl | rfl <;> decide +kernel
  · refine ⟨"tuple", ?_, ?_⟩
    · obtain ⟨a, vs, rfl, h2, _⟩ := hv
      rcases sqT_ext le h2 with (h2 | ⟨o, h2⟩) | ⟨o, its, n, h2, hc, _⟩
      · exact .base (.tup h2)
      · exact .fTuple h2
      · exact .kTuple h2 hc
    · cases e
      rcases h with rfl | rfl | rfl | rfl | rfl | rfl <;> decide +kernel
  · refine ⟨"list", ?_, ?_⟩
    · obtain ⟨a, vs, rfl, h2, _⟩ := hv
      exact .base (.lst h2)
    · cases e
      rcases h with rfl | rfl | rfl | rfl | rfl | rfl <;> decide +kernel
  · refine ⟨"dict", ?_, ?_⟩
    · obtain ⟨a, vs, rfl, h2, _⟩ := hv
      exact .base (.dK h2)
    · cases e
      rcases h with rfl | rfl | rfl | rfl | rfl | rfl <;> decide +kernel
/-! ### repr -/
mutual
theorem toP_nodict : ∀ d : D, (toP d).hasDict = false
  | .non => by unfold toP; simp [PyData.hasDict]
  | .bl _ => by unfold toP; simp [PyData.hasDict]
  | .int _ => by unfold toP; simp [PyData.hasDict]
  | .str _ => by unfold toP; simp [PyData.hasDict]
  | .set _ => by unfold toP; simp [PyData.hasDict]
  | .dct _ => by unfold toP; simp [PyData.hasDict]
  | .obj _ _ => by unfold toP; simp [PyData.hasDict]
  | .fn _ => by unfold toP; simp [PyData.hasDict]
  | .scr _ => by unfold toP; simp [PyData.hasDict]
  | .tup xs => by unfold toP; simp only [PyData.hasDict]; exact toPL_nodict xs
  | .lst xs => by unfold toP; simp only [PyData.hasDict]; exact toPL_nodict xs
theorem toPL_nodict : ∀ ds : List D, PyData.hasDictAll (toPL ds) = false
  | [] => by unfold toPL; simp [PyData.hasDictAll]
  | d :: ds => by unfold toPL; simp only [PyData.hasDictAll, toP_nodict d, toPL_nodict ds]; rfl
end
theorem cr_reprO (hr : RoomG k X.A) : CallR X (.builtin "repr") (rDN L X.K (U1 reprO)) := by
  intro pins s σ H xs us Q I r h
  obtain ⟨C, ds, o, le, vw, e, ro⟩ := h
  have hu := hr.units
  unfold U1 at e
  split at e
  · rename_i d
    obtain ⟨v, r', rfl, h1, rfl⟩ := vw
    obtain ⟨u, rfl, r0⟩ := r.one
    have fin : ∀ (a : Addr), v = .ref a → (if plainD d = true ∧ depD d ≤ 40 ∧ (toP d).showable = true ∧ (toP d).shown.length ≤ 1000000 then some (O.d (.str (toP d).shown)) else none) = some o → wpAny (model X.prog X.w) X.A (call (.builtin "repr") [u]) (EP X pins σ Q) X.xe s := fun a ha e => by
      split at e
      · rename_i hh
        cases e
        subst ha
        obtain ⟨as, rd⟩ := Dp.reads I _ _ u (vw_dp le hh.1 h1) r0
        cases (show u = Value.ref a from r0)
        refine PySem.repr_of_reads' rd hh.2.2.1 (PyData.noDict_hsm (toP_nodict d)) hr.g (by rw [toP_depth]; have := hh.2.1; omega) (fun b o e => e) (fun h' u tk hk => ⟨.str _, H, I.kept hk, ⟨_, rfl⟩, ro_d ro le rfl⟩) (by rw [sizeLine_eq]; have := hh.2.2.2; omega)
      · cases e
    cases d <;> first | (cases e; done) | skip
    · obtain ⟨a, _, ha, _⟩ := h1
      exact fin a ha e
    · obtain ⟨a, _, ha, _⟩ := h1
      exact fin a ha e
  · cases e
end
end Dn
set_option autoImplicit false
set_option Elab.async false
set_option linter.all false
set_option maxRecDepth 100000
/-! DenD: the derivations' words. -/
namespace Dn
open PySem PySem.Spec PyProof.Rows L2
section
variable {L : Lk} {K : PySem.W.Frag} {σ σ' : L2.St} {w w0 w1 w2 : Wl} {δ δ1 δ2 : Sl} {E : XK} {H : Hp} {Q : VK} {lk : Nat → Bool} {D' : Ends}
theorem rd_eChain {f g : D → D → Option O} {a b c : BM} (h : tO L K E (eChain f g a b c) σ H Q) : tChain (rD2 L K f) (rD2 L K g) (tB L K E a) (tB L K E b) (tB L K E c) σ H Q := by
  obtain ⟨w, δ, e, st, h⟩ := h
  refine ⟨w, δ, e, st, (Fin.bind h).imp fun k w1 δ1 s1 k1 q => ?_⟩
  intro v F hv d
  refine ⟨w1, δ1, rfl, k1, (Fin.bind q).imp fun kk w2 δ2 s2 k2 q2 => ?_⟩
  intro v2 F2 hv2 d2
  have hv' := hv.pend d s2
  cases e1 : rd δ2 k with
  | none => rw [e1] at q2; simp only at q2; exact q2.elim
  | some x =>
    cases e2 : rd δ2 kk with
    | none => rw [e1, e2] at q2; simp only at q2; exact q2.elim
    | some y =>
      rw [e1, e2] at q2
      simp only at q2
      cases e3 : f x y with
      | none => rw [e3] at q2; exact q2.elim
      | some o =>
        rw [e3] at q2
        refine ⟨w2.C, x, y, o, k2.le, rd_vw k2 hv'.1 e1, rd_vw k2 hv2 e2, e3, ?_⟩
        cases o <;> first | exact q2.elim | skip
        rename_i z
        cases z <;> first | exact q2.elim | skip
        rename_i t
        refine ro_end (P := fun _ _ => True) k2 (Stp.refl w2) fun w' s' k' v' F' ho' d' => ⟨t, ho'.2, ?_⟩
        cases t with
        | false =>
          rw [if_neg Bool.false_ne_true]
          exact q2 w' s' k' (s2.trans s') (s1.trans (s2.trans s')) (.bl false) [] ⟨rfl, rfl⟩ (Dis.nil _ _)
        | true =>
          rw [if_pos rfl]
          have hv2' := hv2.pend d2 s'
          refine ⟨w', δ2, rfl, k', ?_⟩
          have q3 : Fin L K E σ w2 (c δ2) fun l w3 δ3 => _ := Fin.bind q2
          cases ec : c δ2 with
          | bad => rw [ec] at q3; exact q3
          | exc cc δ3 => rw [ec] at q3; exact fun w4 ca hc s4 k4 => q3 w4 ca hc (s'.trans s4) k4
          | ok l δ3 =>
            rw [ec] at q3
            intro w3 s3 k3 v3 F3 hv3 d3
            have q4 := q3 w3 (s'.trans s3) k3
            have hv2'' := hv2'.1.pend hv2'.2 s3
            cases e4 : rd δ3 kk with
            | none => simp only [e4] at q4; exact q4.elim
            | some y' =>
              cases e5 : rd δ3 l with
              | none => simp only [e4, e5] at q4; exact q4.elim
              | some z =>
                simp only [e4, e5] at q4
                cases e6 : g y' z with
                | none => rw [e6] at q4; exact q4.elim
                | some o =>
                  rw [e6] at q4
                  refine ⟨w3.C, y', z, o, k3.le, rd_vw k3 hv2''.1 e4, rd_vw k3 hv3 e5, e6, ro_end (P := fun _ _ => True) k3 (Stp.refl w3) fun w5 s5 k5 v5 F5 ho5 d5 => ?_⟩
                  exact q4 w5 s5 k5 (s'.trans (s3.trans s5)) (s2.trans (s'.trans (s3.trans s5))) (s1.trans (s2.trans (s'.trans (s3.trans s5)))) v5 F5 ho5 (d5.back (s1.trans (s2.trans (s'.trans s3))))
theorem rd_e2T {chk : D → Bool} {op : D → D → Option O} {a b : BM} {P : V → Hp → Prop} (hP : ∀ C H d v, Ext C H → chk d = true → Vw L K C H d v → P v H) (h : tO L K E (e2T chk op a b) σ H Q) :
    tB L K E a σ H fun x H1 => P x H1 ∧ tB L K E b σ H1 fun y H2 => rD2 L K op x y H2 Q := by
  obtain ⟨w, δ, e, st, h⟩ := h
  refine ⟨w, δ, e, st, (Fin.bind h).imp fun k w1 δ1 s1 k1 q => ?_⟩
  intro v F hv d
  cases e0 : rd δ1 k with
  | none => rw [e0] at q; exact q.elim
  | some x0 =>
    rw [e0] at q
    simp only at q
    by_cases hc : chk x0 = true
    · rw [if_pos hc] at q
      refine ⟨hP _ _ _ _ k1.le hc (rd_vw k1 hv e0), w1, δ1, rfl, k1, (Fin.bind q).imp fun kk w2 δ2 s2 k2 q2 => ?_⟩
      intro v2 F2 hv2 d2
      have hv' := hv.pend d s2
      cases e1 : rd δ2 k with
      | none => rw [e1] at q2; simp only at q2; exact q2.elim
      | some x =>
        cases e2 : rd δ2 kk with
        | none => rw [e1, e2] at q2; simp only at q2; exact q2.elim
        | some y =>
          rw [e1, e2] at q2
          simp only at q2
          cases e3 : op x y with
          | none => rw [e3] at q2; exact q2.elim
          | some o =>
            rw [e3] at q2
            exact ⟨w2.C, x, y, o, k2.le, rd_vw k2 hv'.1 e1, rd_vw k2 hv2 e2, e3, ro_end (P := fun _ _ => True) k2 (Stp.refl w2) fun w' s' k' v' F' ho' d' => q2 w' s' k' (s2.trans s') (s1.trans (s2.trans s')) v' F' ho' (d'.back (s1.trans s2))⟩
    · rw [if_neg hc] at q; exact q.elim
/-! ### cuts -/
def tP (L : Lk) (K : PySem.W.Frag) (E : XK) (f : PM) : TO := fun σ H Q => ∃ w δ, w.H = H ∧ StOk L K σ w δ ∧ Fin L K E σ w (f δ) fun o w' _ => Q o w'.H
theorem rd_pNone {Q : Option Int → Hp → Prop} (h : tP L K E pNone σ H Q) : tNoPart σ H Q := by
  obtain ⟨w, δ, e, st, h⟩ := h
  subst e
  exact h w (Stp.refl w) st
theorem rd_pSome {f : EM} {Q : Option Int → Hp → Prop} (h : tP L K E (pSome f) σ H Q) : tPart (tO L K E f) σ H Q := by
  obtain ⟨w, δ, e, st, h⟩ := h
  refine ⟨w, δ, e, st, (Fin.bind h).imp fun o w1 δ1 s1 k1 q => ?_⟩
  intro v F ho d
  cases o <;> first | exact q.elim | skip
  rename_i x
  cases x <;> first | exact q.elim | skip
  exact ⟨_, ho.2, q w1 (Stp.refl w1) k1 s1⟩
theorem rd_eCut {a : BM} {lo hi : PM} (h : tO L K E (eCut cutO a lo hi) σ H Q) : tSl (rCut L K) (tB L K E a) (tP L K E lo) (tP L K E hi) σ H Q := by
  obtain ⟨w, δ, e, st, h⟩ := h
  refine ⟨w, δ, e, st, (Fin.bind h).imp fun k w1 δ1 s1 k1 q => ?_⟩
  intro v F hv d
  refine ⟨w1, δ1, rfl, k1, (Fin.bind q).imp fun l w2 δ2 s2 k2 q2 => ?_⟩
  have hv2 := hv.pend d s2
  refine ⟨w2, δ2, rfl, k2, (Fin.bind q2).imp fun u w3 δ3 s3 k3 q3 => ?_⟩
  have hv3 := hv2.1.pend hv2.2 s3
  cases e1 : rd δ3 k with
  | none => rw [e1] at q3; exact q3.elim
  | some x =>
    rw [e1] at q3
    simp only at q3
    cases e2 : cutO x l u with
    | none => rw [e2] at q3; exact q3.elim
    | some o =>
      rw [e2] at q3
      exact ⟨w3.C, x, o, k3.le, rd_vw k3 hv3.1 e1, e2, ro_end (P := fun _ _ => True) k3 (Stp.refl w3) fun w' s' k' v' F' ho' d' => q3 w' s' k' (s3.trans s') (s2.trans (s3.trans s')) (s1.trans (s2.trans (s3.trans s'))) v' F' ho' (d'.back (s1.trans (s2.trans s3)))⟩
/-! ### displays -/
theorem dat_ext_clo {F : List Addr} {C H : Hp} (cn : ∀ a ∈ F, C a = none) {d : D} {v : V} (h : Dat L K C d v) : Dat L K (clo C H F) d v := Dat.ext (clo_ext cn) d v h
theorem tms_dat : ∀ {hs : List Hd} {vs : List V} {F G : List Addr} {os : List O}, HdsOk L K σ w hs vs F → tms hs = some os → (∀ a ∈ F, a ∈ G) → (∀ a ∈ G, w.C a = none) → DatL L K (clo w.C w.H G) (os.map view) vs
  | [], vs, F, G, os, h, e, s, n => by
    unfold tms at e
    cases e
    exact h.1
  | .tm o :: r, vs, F, G, os, h, e, s, n => by
    unfold tms at e
    obtain ⟨os', e1, rfl⟩ := Option.map_eq_some_iff.mp e
    obtain ⟨v, vs', F1, F2, rfl, rfl, h3, h4⟩ := h.cons_inv
    exact ⟨v, vs', rfl, Own.close o v F1 G h3 (fun a ha => s a (by simp [ha])) n, tms_dat h4 e1 (fun a ha => s a (by simp [ha])) n⟩
  | .sl i :: r, vs, F, G, os, h, e, s, n => by
    unfold tms at e
    cases e
theorem rd_eDisp {mk : List D → Option O} {as : AM} {R : List V → Hp → VK → Prop} (hR : ∀ C H ds vs o Q, Ext C H → DatL L K C ds vs → mk ds = some o → RO L K C H o Q → R vs H Q) (h : tO L K E (eDisp mk as) σ H Q) : tAs L K E as σ H fun vs H1 => R vs H1 Q := by
  obtain ⟨w, δ, e, st, h⟩ := h
  refine ⟨w, δ, e, st, ?_⟩
  unfold eDisp at h
  cases ef : as δ with
  | bad => rw [ef] at h; exact h
  | exc c δ1 => rw [ef] at h; exact h
  | ok hs δ1 =>
    rw [ef] at h
    intro w1 s1 k1 vs F hv d
    simp only [Res.bind_ok] at h
    cases et : tms hs with
    | none => rw [et] at h; exact h.elim
    | some os =>
      rw [et] at h
      simp only at h
      cases em : mk (os.map view) with
      | none => rw [em] at h; exact h.elim
      | some o =>
        rw [em] at h
        have kc : StOk L K σ ⟨clo w1.C w1.H F, w1.H, w1.Fs⟩ δ1 := by
          refine ⟨k1.len, clo_le k1.le, fun i o' h => ?_, k1.nil, k1.nd, k1.dj, fun i a ha => ?_⟩
          · obtain ⟨v', e1, e2⟩ := k1.sl i o' h
            exact ⟨v', e1, Own.ext (clo_ext d.cn) o' v' _ (fun _ _ _ h => h) e2⟩
          · show (if a ∈ F then w1.H a else w1.C a) = none
            rw [if_neg fun z => d.fs a z i ha]
            exact k1.op i a ha
        refine hR _ _ _ _ o Q kc.le (tms_dat hv et (fun _ h => h) d.cn) em (ro_end (w1 := ⟨clo w1.C w1.H F, w1.H, w1.Fs⟩) (P := fun _ _ => True) kc (close_stp s1 d) fun w' s' k' v' F' ho' d' => h w' s' k' v' F' ho' d')
theorem rd_lst {as : AM} (h : tO L K E (eDisp lstO as) σ H Q) : tLst (tAs L K E as) σ H Q := rd_eDisp (R := fun xs H1 Q => xs.length ≤ sizeLine ∧ ∀ p, H1 p = none → Q (.ref p) (upd H1 p (.lst xs))) (fun C H ds vs o Q le dv e ro => by
  unfold lstO at e
  split at e
  · rename_i hl
    cases e
    exact ⟨by rw [← dv.len, sizeLine_eq]; omega, fun p hp => ro_newL ro le dv hp⟩
  · cases e) h
theorem rd_tup {as : AM} (h : tO L K E (eDisp tupO as) σ H Q) : tTup (tAs L K E as) σ H Q := rd_eDisp (R := fun xs H1 Q => xs.length ≤ sizeLine ∧ ∀ p, H1 p = none → Q (.ref p) (upd H1 p (.tup xs))) (fun C H ds vs o Q le dv e ro => by
  unfold tupO at e
  split at e
  · rename_i hl
    cases e
    exact ⟨by rw [← dv.len, sizeLine_eq]; omega, fun p hp => ro_newT ro le dv hp⟩
  · cases e) h
/-! ### f'..' -/
theorem rd_eFs : ∀ {fs : List EM} {acc : Str} {H : Hp} {Q : Str → Hp → Prop}, tO L K E (eFs fs acc) σ H (fun v H1 => ∀ y, v = .str y → Q y H1) → tJs (fs.map fun f => tFmt (tO L K E f)) acc σ H Q
  | [], acc, H, Q, h => by
    obtain ⟨w, δ, e, st, h⟩ := h
    subst e
    exact h w (Stp.refl w) st (.str acc) [] ⟨rfl, rfl⟩ (Dis.nil _ _) acc rfl
  | f :: fs, acc, H, Q, h => by
    obtain ⟨w, δ, e, st, h⟩ := h
    refine ⟨w, δ, e, st, (Fin.bind h).imp fun o w1 δ1 s1 k1 q => ?_⟩
    intro v F ho d
    cases ey : fmtS o with
    | none => rw [ey] at q; exact q.elim
    | some y =>
      rw [ey] at q
      simp only at q
      split at q
      · rename_i hl
        have key : tJs (fs.map fun f => tFmt (tO L K E f)) (acc ++ y) σ w1.H Q := rd_eFs ⟨w1, δ1, rfl, k1, q.imp fun o2 w2 δ2 s2 k2 z v F ho d => z (s1.trans s2) v F ho (d.back s1)⟩
        cases o <;> first | (cases ey; done) | skip
        rename_i x
        cases x <;> first | (cases ey; done) | skip
        · rename_i i
          unfold fmtS at ey
          simp only at ey
          split at ey
          · rename_i hi
            cases ey
            exact .inr ⟨i, ho.2, hi, _, rfl, by rw [sizeLine_eq]; omega, key⟩
          · cases ey
        · rename_i z
          unfold fmtS at ey
          simp only at ey
          split at ey
          · rename_i hz
            cases ey
            exact .inl ⟨_, ho.2, by rw [sizeLine_eq]; omega, _, rfl, by rw [sizeLine_eq]; omega, key⟩
          · cases ey
      · exact q.elim
end
end Dn
set_option autoImplicit false
set_option Elab.async false
set_option linter.all false
set_option maxRecDepth 100000
/-! DenM: changes, stores, exceptions. -/
namespace Dn
open PySem PySem.Spec PyProof.Rows L2
section
variable {L : Lk} {K : PySem.W.Frag} {σ σ' : L2.St} {w w0 w1 w2 : Wl} {δ δ1 δ2 : Sl} {E : XK} {H : Hp} {Q : VK} {lk : Nat → Bool} {D' : Ends}
theorem close_st {F : List Addr} (k1 : StOk L K σ w1 δ) (d : Dis w w1 F) : StOk L K σ ⟨clo w1.C w1.H F, w1.H, w1.Fs⟩ δ := by
  refine ⟨k1.len, clo_le k1.le, fun i o' h => ?_, k1.nil, k1.nd, k1.dj, fun i a ha => ?_⟩
  · obtain ⟨v', e1, e2⟩ := k1.sl i o' h
    exact ⟨v', e1, Own.ext (clo_ext d.cn) o' v' _ (fun _ _ _ h => h) e2⟩
  · show (if a ∈ F then w1.H a else w1.C a) = none
    rw [if_neg fun z => d.fs a z i ha]
    exact k1.op i a ha
/-- an open object of a slot is written: its own first object -/
theorem write_ok {i : Nat} {o o' : O} {p : Addr} {u : HO} {v : V} {G : List Addr} (s1 : Stp w w1) (k1 : StOk L K σ w1 δ) (hs : δ[i]? = some (some o)) (hp : p ∈ w1.Fs i) (hv : σ[i]? = some (some v)) (ho : Own L K w1.C (upd w1.H p u) o' v (w1.Fs i)) :
    StOk L K σ ⟨w1.C, upd w1.H p u, w1.Fs⟩ (δ.set i (some o')) ∧ Stp w ⟨w1.C, upd w1.H p u, w1.Fs⟩ := by
  have hi := lt_of_get hs
  have ne : ∀ j, j ≠ i → ∀ a ∈ w1.Fs j, a ≠ p := fun j hj a ha z => hj (k1.dj j i a ha (z ▸ hp))
  have le : Ext w1.C (upd w1.H p u) := fun a x hx => by
    have : a ≠ p := fun z => by rw [z, k1.op i p hp] at hx; cases hx
    rw [upd_ne this]; exact k1.le a x hx
  have q := k1.upd (σ' := σ) (s' := some o') (F := w1.Fs i) hi rfl Ext.rfl' le (fun j hj a ha x hx => by rw [upd_ne (ne j hj a ha)]; exact hx) (fun j _ a h => k1.op j a h) (fun _ _ => rfl) (fun o2 h => ⟨v, hv, by cases h; exact ho⟩) (fun h => by cases h) (k1.nd i) (k1.op i) (fun a ha j hj h => hj (k1.dj j i a h ha))
  have e : updF w1.Fs i (w1.Fs i) = w1.Fs := funext fun j => by
    by_cases hj : j = i
    · subst hj; exact updF_same
    · exact updF_ne hj
  rw [e] at q
  refine ⟨q, s1.c, fun a x hx hn => ?_, fun a ha => ?_, s1.newC, s1.newF⟩
  · have : a ≠ p := fun z => by
      subst z
      rcases s1.newF i a hp with ⟨j, y⟩ | y
      · exact hn j y
      · rw [hx] at y; cases y
    show (upd w1.H p u) a = some x
    rw [upd_ne this]
    exact s1.keep a x hx hn
  · have ha : (upd w1.H p u) a = none := ha
    by_cases z : a = p
    · rw [z, upd_same] at ha; cases ha
    · rw [upd_ne z] at ha
      exact s1.live a ha
/-- how a list's method answers -/
def MutR (L : Lk) (K : PySem.W.Frag) (op : List D → List D → Option (D × List D)) (R : V → List V → Hp → VK → Prop) : Prop :=
  ∀ C H p xs vs ds args r ys Q, Ext C H → DatL L K C xs vs → DatL L K C ds args → H p = some (.lst vs) → op xs ds = some (r, ys) → (∀ rv vs', Dat L K C r rv → DatL L K C ys vs' → Q rv (upd H p (.lst vs'))) → R (.ref p) args H Q
theorem rd_eMut {i : Nat} {op : List D → List D → Option (D × List D)} {R : V → List V → Hp → VK → Prop} {as : AM} (hR : MutR L K op R) (h : tO L K E (eMut i op as) σ H Q) : tBM K "list" R (tVar i) (tAs L K E as) σ H Q := by
  obtain ⟨w, δ, e, st, h⟩ := h
  subst e
  unfold eMut at h
  split at h
  · rename_i xs0 hs0
    obtain ⟨v, e1, e2⟩ := st.sl i _ hs0
    obtain ⟨p, vs0, rfl, f1, f2, f3⟩ := e2
    refine ⟨.ref p, e1, .inl ⟨rfl, vs0, SqL.of f2⟩, w, δ, rfl, st, ?_⟩
    cases ef : as δ with
    | bad => rw [ef] at h; exact h
    | exc c δ1 => rw [ef] at h; exact h
    | ok hs δ1 =>
      rw [ef] at h
      intro w1 s1 k1 vs F hv d
      simp only [Res.bind_ok] at h
      cases et : tms hs with
      | none => rw [et] at h; exact h.elim
      | some os =>
        rw [et] at h
        simp only at h
        split at h
        · rename_i xs hs1
          cases eo : op xs (os.map view) with
          | none => rw [eo] at h; exact h.elim
          | some ry =>
            obtain ⟨r, ys⟩ := ry
            rw [eo] at h
            have kc := close_st k1 d
            have sc := close_stp s1 d
            obtain ⟨v', g1, g2⟩ := kc.sl i _ hs1
            rw [e1] at g1
            cases g1
            obtain ⟨p', vs1, hp', f1', f2', f3'⟩ := g2
            cases hp'
            refine hR _ _ p xs vs1 _ vs r ys Q kc.le f3' (tms_dat hv et (fun _ h => h) d.cn) f2' eo fun rv vs' hr hy => ?_
            have f1' : w1.Fs i = [p] := f1'
            have hpi : p ∈ w1.Fs i := by rw [f1']; simp
            obtain ⟨k2, s2⟩ := write_ok (G := []) (o' := .lst ys) (u := .lst vs') sc kc hs1 hpi e1 ⟨p, vs', rfl, f1', upd_same, hy⟩
            exact h _ s2 k2 rv [] ⟨rfl, hr⟩ (Dis.nil _ _)
        · exact h.elim
  · exact h.elim
theorem rd_eMut0 {i : Nat} {op : List D → List D → Option (D × List D)} {R : V → List V → Hp → VK → Prop} (hR : MutR L K op R) (h : tO L K E (eMut i op aNil) σ H Q) : tBM0 K "list" R (tVar i) σ H Q := by
  obtain ⟨v, e, ty, q⟩ := rd_eMut hR h
  exact ⟨v, e, ty, rd_aNil q⟩
/-! the methods -/
def mAppend (xs ds : List D) : Option (D × List D) := match ds with
  | [d] => if xs.length ≤ 1000000 then some (.non, xs ++ [d]) else none
  | _ => none
def mPop (xs ds : List D) : Option (D × List D) := match ds with
  | [] => match xs.getLast? with
    | some x => some (x, xs.dropLast)
    | none => none
  | _ => none
def mPopAt (xs ds : List D) : Option (D × List D) := match ds with
  | [.int i] => match ixNat xs.length i with
    | some k => if smallI i = true then (xs[k]?).map fun x => (x, xs.eraseIdx k) else none
    | none => none
  | _ => none
def mClear (xs ds : List D) : Option (D × List D) := match ds with
  | [] => some (.non, [])
  | _ => none
def mInsert (xs ds : List D) : Option (D × List D) := match ds with
  | [.int i, d] => if xs.length ≤ 1000000 ∧ 0 ≤ i ∧ smallI i = true then some (.non, xs.take i.toNat ++ [d] ++ xs.drop i.toNat) else none
  | _ => none
def mExtend (xs ds : List D) : Option (D × List D) := match ds with
  | [.lst ys] => if xs.length + ys.length ≤ 1000000 then some (.non, xs ++ ys) else none
  | _ => none
theorem mr_append : MutR L K mAppend rAppend := by
  intro C H p xs vs ds args r ys Q le dx da hp e q
  unfold mAppend at e
  split at e
  · split at e
    · rename_i d hl
      cases e
      obtain ⟨v, r', rfl, h1, rfl⟩ := da
      exact ⟨p, vs, v, rfl, rfl, hp, by rw [← dx.len, sizeLine_eq]; omega, q .non _ rfl (DatL.snoc dx h1)⟩
    · cases e
  · cases e
theorem DatL.dropLast : ∀ {xs : List D} {vs : List V} {C : Hp}, DatL L K C xs vs → DatL L K C xs.dropLast vs.dropLast
  | [], _, _, h => by rw [show _ = [] from h]; rfl
  | [x], _, _, h => by
    obtain ⟨v, r, rfl, h1, rfl⟩ := h
    rfl
  | x :: y :: xs, _, _, h => by
    obtain ⟨v, r, rfl, h1, h2⟩ := h
    have h3 := DatL.dropLast h2
    obtain ⟨v2, r2, rfl, h4, h5⟩ := h2
    exact ⟨v, _, rfl, h1, h3⟩
theorem DatL.erase : ∀ {xs : List D} {vs : List V} {C : Hp} (k : Nat), DatL L K C xs vs → DatL L K C (xs.eraseIdx k) (vs.eraseIdx k)
  | [], _, _, k, h => by rw [show _ = [] from h]; rfl
  | x :: xs, _, _, 0, h => by
    obtain ⟨v, r, rfl, h1, h2⟩ := h
    exact h2
  | x :: xs, _, _, k + 1, h => by
    obtain ⟨v, r, rfl, h1, h2⟩ := h
    exact ⟨v, _, rfl, h1, DatL.erase k h2⟩
theorem DatL.set : ∀ {xs : List D} {vs : List V} {C : Hp} {d : D} {v : V} (k : Nat), DatL L K C xs vs → Dat L K C d v → DatL L K C (xs.set k d) (vs.set k v)
  | [], _, _, _, _, k, h, _ => by rw [show _ = [] from h]; rfl
  | x :: xs, _, _, _, _, 0, h, hd => by
    obtain ⟨v, r, rfl, h1, h2⟩ := h
    exact ⟨_, _, rfl, hd, h2⟩
  | x :: xs, _, _, _, _, k + 1, h, hd => by
    obtain ⟨v, r, rfl, h1, h2⟩ := h
    exact ⟨v, _, rfl, h1, DatL.set k h2 hd⟩
theorem mr_pop : MutR L K mPop rPop := by
  intro C H p xs vs ds args r ys Q le dx da hp e q
  unfold mPop at e
  split at e
  · split at e
    · rename_i x hx
      cases e
      rw [show args = [] from da]
      rw [List.getLast?_eq_getElem?] at hx
      obtain ⟨v, hv, hd⟩ := dx.get hx
      exact ⟨p, vs, v, rfl, rfl, hp, by rw [← dx.len]; exact hv, q v _ hd dx.dropLast⟩
    · cases e
  · cases e
theorem mr_popAt : MutR L K mPopAt rPopAt := by
  intro C H p xs vs ds args r ys Q le dx da hp e q
  unfold mPopAt at e
  split at e
  · rename_i i
    split at e
    · rename_i k hk
      split at e
      · rename_i hi
        obtain ⟨x, hx, e2⟩ := Option.map_eq_some_iff.mp e
        cases e2
        obtain ⟨v, r', rfl, h1, rfl⟩ := da
        rw [show v = V.int i from h1]
        obtain ⟨v', hv', hd⟩ := dx.get hx
        have b := smallI_b hi
        refine ⟨p, vs, i, k, v', rfl, rfl, hp, by omega, by omega, ?_, hv', q v' _ hd (dx.erase k)⟩
        rw [← dx.len]
        unfold ixNat at hk
        unfold seqIndex?
        split at hk
        · rename_i h0
          split at hk
          · rename_i h2
            cases hk
            simp only [show ¬ i < 0 by omega, if_false]
            rw [if_pos (by simp; omega)]
          · cases hk
        · rename_i h0
          split at hk
          · rename_i h2
            cases hk
            simp only [show i < 0 by omega, if_true]
            rw [if_pos (by simp; omega)]
          · cases hk
      · cases e
    · cases e
  · cases e
theorem mr_clear : MutR L K mClear rClear := by
  intro C H p xs vs ds args r ys Q le dx da hp e q
  unfold mClear at e
  split at e
  · cases e
    rw [show args = [] from da]
    exact ⟨p, vs, rfl, rfl, hp, q .non [] rfl rfl⟩
  · cases e
theorem mr_insert : MutR L K mInsert (fun x vs H Q => ∃ (l : Addr) (xs : List V) (i : Int) (y : V), x = .ref l ∧ vs = [.int i, y] ∧ H l = some (.lst xs) ∧ xs.length < sizeLine ∧ 0 ≤ i ∧ i < 2 ^ 63 ∧
    Q .non (upd H l (.lst (xs.take i.toNat ++ [y] ++ xs.drop i.toNat)))) := by
  intro C H p xs vs ds args r ys Q le dx da hp e q
  unfold mInsert at e
  split at e
  · rename_i i d
    split at e
    · rename_i hi
      cases e
      obtain ⟨v, r', rfl, h1, v2, r2, rfl, h2, rfl⟩ := da
      rw [show v = V.int i from h1]
      have b := smallI_b hi.2.2
      exact ⟨p, vs, i, v2, rfl, rfl, hp, by rw [← dx.len, sizeLine_eq]; omega, hi.2.1, by omega, q .non _ rfl (((dx.take _).append (show DatL L K C [d] [v2] from ⟨v2, [], rfl, h2, rfl⟩)).append (dx.drop _))⟩
    · cases e
  · cases e
theorem mr_extend : MutR L K mExtend rExtend := by
  intro C H p xs vs ds args r ys Q le dx da hp e q
  unfold mExtend at e
  split at e
  · rename_i zs
    split at e
    · rename_i hl
      cases e
      obtain ⟨v, r', rfl, h1, rfl⟩ := da
      obtain ⟨b, us, rfl, h2, h3⟩ := h1
      exact ⟨p, b, vs, us, rfl, rfl, hp, le _ _ h2, by rw [← dx.len, ← h3.len, sizeLine_eq]; omega, q .non _ rfl (dx.append h3)⟩
    · cases e
  · cases e
/-! ### x[k] = v -/
def PutR (L : Lk) (K : PySem.W.Frag) (op : List D → D → D → Option (List D)) (T : TSet) : Prop :=
  ∀ C H p xs vs dk dv kv vv ys (Q : Hp → Prop), Ext C H → DatL L K C xs vs → Vw L K C H dk kv → Dat L K C dv vv → H p = some (.lst vs) → op xs dk dv = some ys → (∀ vs', DatL L K C ys vs' → Q (upd H p (.lst vs'))) → T (.ref p) kv vv H Q
def putAt (xs : List D) (k d : D) : Option (List D) := match k with
  | .int i => (ixNat xs.length i).map fun j => xs.set j d
  | _ => none
theorem pr_at : PutR L K putAt rSetL := by
  intro C H p xs vs dk dv kv vv ys Q le dx hk hd hp e q
  cases dk <;> first | (cases e; done) | skip
  rename_i i
  obtain ⟨j, hj, rfl⟩ := Option.map_eq_some_iff.mp e
  exact ⟨p, vs, i, j, rfl, hk, hp, by rw [← dx.len]; exact hj, q _ (dx.set j hd)⟩
theorem Vw.mono {C C' H : Hp} (e : Ext C C') : ∀ {d : D} {v : V}, Vw L K C H d v → Vw L K C' H d v
  | .lst xs, v, h => by
    obtain ⟨a, vs, e1, e2, e3⟩ := h
    exact ⟨a, vs, e1, e2, DatL.ext e _ _ e3⟩
  | .dct xs, v, h => by
    obtain ⟨a, vs, e1, e2, e3⟩ := h
    exact ⟨a, vs, e1, e2, DatK.ext e _ _ e3⟩
  | .set xs, v, h => h
  | .obj c fs, v, h => h
  | .non, v, h => h
  | .bl _, v, h => h
  | .int _, v, h => h
  | .str _, v, h => h
  | .fn _, v, h => h
  | .scr xs, v, h => Dat.ext (L := L) e (.scr xs) v h
  | .tup xs, v, h => Dat.ext (L := L) e (.tup xs) v h
theorem rd_sPut {i : Nat} {op : List D → D → D → Option (List D)} {ix : BM} {f : EM} {T : TSet} (hR : PutR L K op T) (h : tSm L K E lk (sPut i op ix f) D' σ H) : tAsg (tO L K E f) (gSub (tVar i) (tB L K E ix) T) D' σ H := by
  obtain ⟨w, δ, e, st, h⟩ := h
  refine ⟨w, δ, e, st, ?_⟩
  unfold sPut at h
  cases ef : f δ with
  | bad => rw [ef] at h; exact h
  | exc c δ1 => rw [ef] at h; exact fun w' ca hc s' k' => h w' σ ca hc s' k' (LkOk.refl _ _)
  | ok o δ1 =>
    rw [ef] at h
    simp only [ofRes_ok] at h
    intro w1 s1 k1 v F ho d
    split at h
    · rename_i o0 hs0
      obtain ⟨v0, g0, _⟩ := k1.sl i _ hs0
      refine ⟨v0, g0, w1, δ1, rfl, k1, ?_⟩
      cases ex : ix δ1 with
      | bad => rw [ex] at h; exact h
      | exc c δ2 => rw [ex] at h; exact fun w' ca hc s' k' => h w' σ ca hc (s1.trans s') k' (LkOk.refl _ _)
      | ok hd δ2 =>
        rw [ex] at h
        simp only [ofRes_ok] at h
        intro w2 s2 k2 iv F2 hv2 d2
        obtain ⟨ho2, do2⟩ := ho.pend d s2
        split at h
        · rename_i xs kd hs2 hr2
          cases eo : op xs kd (view o) with
          | none => rw [eo] at h; exact h.elim
          | some ys =>
            rw [eo] at h
            have kc := close_st k2 do2
            have sc := close_stp (s1.trans s2) do2
            obtain ⟨v', g1, g2⟩ := kc.sl i _ hs2
            rw [g0] at g1
            cases g1
            obtain ⟨p, vs1, rfl, f1', f2', f3'⟩ := g2
            have f1' : w2.Fs i = [p] := f1'
            refine hR (clo w2.C w2.H F) w2.H p xs vs1 kd (view o) iv v ys _ kc.le f3' ((rd_vw k2 hv2 hr2).mono (clo_ext do2.cn)) (Own.close o v F F ho2 (fun _ h => h) do2.cn) f2' eo fun vs' hy => ?_
            have hpi : p ∈ w2.Fs i := by rw [f1']; simp
            obtain ⟨k3, s3⟩ := write_ok (G := []) (o' := .lst ys) (u := .lst vs') sc kc hs2 hpi g0 ⟨p, vs', rfl, f1', upd_same, hy⟩
            exact h _ σ s3 k3 (LkOk.refl _ _)
        · exact h.elim
    · exact h.elim
/-! ### x, y = a, b -/
theorem put_to {i : Nat} {o : O} {v : V} {F : List Addr} {k : Sl → SR} {σ0 : L2.St} (st : StOk L K σ w1 δ) (l : LkOk lk σ0 σ) (s : Stp w w1) (ho : Own L K w1.C w1.H o v F) (d : Dis w w1 F) (q : FinS L K E D' lk σ0 w (put lk δ i o k)) :
    Stp w ⟨w1.C, w1.H, updF w1.Fs i F⟩ ∧ StOk L K (σ.set i (some v)) ⟨w1.C, w1.H, updF w1.Fs i F⟩ (δ.set i (some o)) ∧ LkOk lk σ0 (σ.set i (some v)) ∧ FinS L K E D' lk σ0 w (k (δ.set i (some o))) := by
  unfold put at q
  split at q
  · exact q.elim
  · rename_i hc
    have hi : i < δ.length := by omega
    have hl : ¬ lk i = true := fun z => hc (.inl z)
    refine ⟨⟨s.c, s.keep, s.live, s.newC, fun j a ha => ?_⟩, ?_, l.trans ⟨by simp, fun j hj => ?_⟩, q⟩
    · have ha : a ∈ updF w1.Fs i F j := ha
      by_cases hj : j = i
      · rw [hj, updF_same] at ha; exact d.og a ha
      · rw [updF_ne hj] at ha; exact s.newF j a ha
    · refine st.upd hi (by simp) Ext.rfl' st.le (fun _ _ _ _ _ h => h) (fun j _ a h => st.op j a h) (fun j hj => List.getElem?_set_ne (Ne.symm hj)) (fun o' h' => ?_) (fun h => by cases h) d.nd d.cn fun a ha j _ => d.fs a ha j
      cases h'
      exact ⟨v, List.getElem?_set_self (by rw [← st.len]; exact hi), ho⟩
    · exact List.getElem?_set_ne fun z => by subst z; exact hl hj
theorem rd_sPar {i j : Nat} {f g : EM} (h : tSm L K E lk (sPar i j f g) D' σ H) : tPar i j (tCons (tO L K E f) (tCons (tO L K E g) tNil)) D' σ H := by
  obtain ⟨w, δ, e, st, h⟩ := h
  refine ⟨w, δ, e, st, ?_⟩
  unfold sPar at h
  cases ef : f δ with
  | bad => rw [ef] at h; exact h
  | exc c δ1 => rw [ef] at h; exact fun w' ca hc s' k' => h w' σ ca hc s' k' (LkOk.refl _ _)
  | ok o δ1 =>
    rw [ef] at h
    simp only [ofRes_ok] at h
    intro w1 s1 k1 v F ho d
    refine ⟨w1, δ1, rfl, k1, ?_⟩
    cases eg : g δ1 with
    | bad => rw [eg] at h; exact h
    | exc c δ2 => rw [eg] at h; exact fun w' ca hc s' k' => h w' σ ca hc (s1.trans s') k' (LkOk.refl _ _)
    | ok p δ2 =>
      rw [eg] at h
      simp only [ofRes_ok] at h
      intro w2 s2 k2 v2 F2 hp d2
      obtain ⟨ho2, do2⟩ := ho.pend d s2
      obtain ⟨s3, k3, l3, h3⟩ := put_to k2 (LkOk.refl _ _) (s1.trans s2) ho2 do2 h
      have th : ∀ a ∈ F, ∃ u, w1.H a = some u := Own.there o v F ho
      have dp : Dis w ⟨w2.C, w2.H, updF w2.Fs i F⟩ F2 := ⟨d2.nd, d2.cn, fun a ha j hj => by
        have hj : a ∈ updF w2.Fs i F j := hj
        by_cases hji : j = i
        · rw [hji, updF_same] at hj
          rcases d2.og a ha with ⟨k, z⟩ | z
          · exact d.fs a hj k z
          · obtain ⟨u, hu⟩ := th a hj
            rw [hu] at z; cases z
        · rw [updF_ne hji] at hj
          exact d2.fs a ha j hj, fun a ha => by
        rcases d2.og a ha with ⟨k, z⟩ | z
        · exact s1.newF k a z
        · exact .inr (s1.live a z)⟩
      obtain ⟨s4, k4, l4, h4⟩ := put_to k3 l3 s3 (show Own L K w2.C w2.H p v2 F2 from hp) dp h3
      exact ⟨v, v2, rfl, h4 ⟨w2.C, w2.H, updF (updF w2.Fs i F) j F2⟩ _ s4 k4 l4⟩
/-! ### raise -/
theorem rd_sRaise {c : Str} {C : Addr} (hc : L.exc c = some C) (h : tSm L K E lk (sRaise c) D' σ H) : E (.ref C) none H := by
  obtain ⟨w, δ, e, st, h⟩ := h
  subst e
  exact h w σ C hc (Stp.refl w) st (LkOk.refl _ _)
end
end Dn
set_option autoImplicit false
set_option Elab.async false
set_option linter.all false
set_option maxRecDepth 100000
/-! DenX: one word a construct. -/
namespace Dn
open PySem PySem.Spec PyProof.Rows L2
/-- the built-in names are not taken by the module -/
structure Blt (mg : Str → Option Value) : Prop where
  len : mg "len" = none
  isi : mg "isinstance" = none
  all : mg "all" = none
  any : mg "any" = none
  list : mg "list" = none
  tuple : mg "tuple" = none
  set : mg "set" = none
  range : mg "range" = none
  min : mg "min" = none
  max : mg "max" = none
  abs : mg "abs" = none
  int : mg "int" = none
  str : mg "str" = none
  bool : mg "bool" = none
  repr : mg "repr" = none
  sorted : mg "sorted" = none
  enum : mg "enumerate" = none
  zip : mg "zip" = none
  sum : mg "sum" = none
  dict : mg "dict" = none
/-- where a derivation stands -/
structure Ctx (X : Cx) (L : Lk) (E : XK) (j : Nat) : Prop where
  xo : XOk X E
  hN : X.N.Nodup
  hr : RoomG j X.A
  B : Blt X.mg
  hP : L.P = X.prog
  hw : L.w = X.w
  lf : ∀ x a, L.fn x = some a → X.mg x = some (.ref a)
theorem Ctx.blk {X : Cx} {L : Lk} {E : XK} {j : Nat} (c : Ctx X L E j) (s : Shared) (H : Hp) (scope : Scope) (env : Env) (fp : List Addr) : Ctx (X.blk s H scope env fp) L E00 j :=
  ⟨xo_blk c.xo.calm, c.hN, c.hr, c.B, c.hP, c.hw, c.lf⟩
section
variable {X : Cx} {L : Lk} {E : XK} {j : Nat} {lk : Nat → Bool} {a b d e : Expr} {es : List Expr} {f g h : BM} {as : AM} {pos p : Pos}
/-! operators -/
theorem dop {op : Operator} {o : D → D → Option O} (ho : OpR X (binaryOp op) (rD2 L X.K o)) (ha : PB X L E a f) (hb : PB X L E b g) : PV X L E (.BinOp a op b pos) (e2 o f g) := (pe_op ho ha hb).imp' fun _ _ _ => rd_e2
theorem dAdd (ha : PB X L E a f) (hb : PB X L E b g) : PV X L E (.BinOp a .Add b pos) (e2 addO f g) := dop op_addO ha hb
theorem dSub (ha : PB X L E a f) (hb : PB X L E b g) : PV X L E (.BinOp a .Sub b pos) (e2 subO f g) := dop op_subO ha hb
theorem dMul (ha : PB X L E a f) (hb : PB X L E b g) : PV X L E (.BinOp a .Mult b pos) (e2 mulO f g) := dop op_mulO ha hb
theorem dFdiv (ha : PB X L E a f) (hb : PB X L E b g) : PV X L E (.BinOp a .FloorDiv b pos) (e2 fdivO f g) := dop op_fdivO ha hb
theorem dMod (ha : PB X L E a f) (hb : PB X L E b g) : PV X L E (.BinOp a .Mod b pos) (e2 modO f g) := dop op_modO ha hb
theorem dPow (ha : PB X L E a f) (hb : PB X L E b g) : PV X L E (.BinOp a .Pow b pos) (e2 powO f g) := dop op_powO ha hb
theorem dNeg (ha : PB X L E a f) : PV X L E (.UnaryOp .USub a pos) (e1 negO f) := (pe_un un_negO ha).imp' fun _ _ _ => rd_e1
/-! comparisons -/
theorem dcmp {op : CmpOp} {o : D → D → Option O} (ho : OpR X (compareOp op) (rD2 L X.K o)) (ha : PB X L E a f) (hb : PB X L E b g) (hm : behindInMarks op b = false := by first | exact nobehind _ (by decide) (by decide) | rfl) : PV X L E (.Compare a [op] [b] pos) (e2 o f g) :=
  (pe_cmpR ho ha hb hm).imp' fun _ _ _ => rd_e2
theorem dcmpT {op : CmpOp} {o : D → D → Option O} (ho : OpR X (compareOp op) (rD2 L X.K o)) (ha : PB X L E a f) (hb : PB X L E b g) (hm : behindInMarks op b = false := by first | exact nobehind _ (by decide) (by decide) | rfl) : PTt X L E (.Compare a [op] [b] pos) (tVal (e2 o f g)) :=
  (pt_cmpR ho ha hb hm).imp' fun _ _ _ h => rd_e2 (rd_tVal h)
theorem dchain {op op' : CmpOp} {o o' : D → D → Option O} (ho : OpR X (compareOp op) (rD2 L X.K o)) (ho' : OpR X (compareOp op') (rD2 L X.K o')) (ha : PB X L E a f) (hb : PB X L E b g) (hd : PB X L E d h) (hm : lastMarks [op, op'] [b, d] = false := by with_unfolding_all rfl) :
    PV X L E (.Compare a [op, op'] [b, d] pos) (eChain o o' f g h) := (pe_chain ho ho' ha hb hd hm).imp' fun _ _ _ => rd_eChain
theorem dchainT {op op' : CmpOp} {o o' : D → D → Option O} (ho : OpR X (compareOp op) (rD2 L X.K o)) (ho' : OpR X (compareOp op') (rD2 L X.K o')) (ha : PB X L E a f) (hb : PB X L E b g) (hd : PB X L E d h) (hm : lastMarks [op, op'] [b, d] = false := by with_unfolding_all rfl) :
    PTt X L E (.Compare a [op, op'] [b, d] pos) (tVal (eChain o o' f g h)) := (pt_chain ho ho' ha hb hd hm).imp' fun _ _ _ h => rd_eChain (rd_tVal h)
theorem op_isO : OpR X (compareOp .Is) (rD2 L X.K isO) := by
  intro pins s σ H x y v u Q I rx ry h
  obtain ⟨C, dx, dy, o, le, vx, vy, e, ro⟩ := h
  unfold isO at e
  split at e
  · cases e
    exact op_isN pins s σ H x y v u Q I rx ry ⟨vy, by rw [isNone_vw vx]; exact ro_d ro le rfl⟩
  · cases e
    exact op_isBl pins s σ H x y v u Q I rx ry ⟨_, _, vx, vy, ro_d ro le rfl⟩
  · cases e
theorem op_notIsO : OpR X (compareOp .IsNot) (rD2 L X.K notIsO) := by
  intro pins s σ H x y v u Q I rx ry h
  obtain ⟨C, dx, dy, o, le, vx, vy, e, ro⟩ := h
  unfold notIsO at e
  split at e
  · cases e
    exact op_notN pins s σ H x y v u Q I rx ry ⟨vy, by rw [isNone_vw vx]; exact ro_d ro le rfl⟩
  · cases e
    exact op_notBl pins s σ H x y v u Q I rx ry ⟨_, _, vx, vy, ro_d ro le rfl⟩
  · cases e
/-! items, cuts -/
theorem dIx (ha : PB X L E a f) (hb : PB X L E b g) (hs : PlainIx b := by exact fun _ _ => rfl) : PV X L E (.Subscript a b pos) (e2 ixO f g) := (pe_ix ix_any ha hb hs).imp' fun _ _ _ => rd_e2
abbrev PPt (X : Cx) (L : Lk) (E : XK) (e : Option Expr) (f : PM) : Prop := PO X e (tP L X.K E f)
theorem _root_.L2.PO.imp' {X : Cx} {e : Option Expr} {t t' : TO} (h : PO X e t) (f : ∀ σ H Q, t' σ H Q → t σ H Q) : PO X e t' := ⟨fun pins s σ H Q I q => h.run pins s σ H Q I (f σ H Q q)⟩
theorem dp0 : PPt X L E none pNone := po_none.imp' fun _ _ _ => rd_pNone
theorem dp1 {k : EM} (hk : PV X L E e k) : PPt X L E (some e) (pSome k) := (po_some hk).imp' fun _ _ _ => rd_pSome
theorem dCut {lo hi : Option Expr} {l u : PM} {p2 : Pos} (ha : PB X L E a f) (hl : PPt X L E lo l) (hu : PPt X L E hi u) : PV X L E (.Subscript a (.Slice lo hi none p2) pos) (eCut cutO f l u) := (pe_slice sl_any ha hl hu).imp' fun _ _ _ => rd_eCut
/-! displays -/
theorem dLst (ha : PAs X L E es as) : PV X L E (.List es pos) (eDisp lstO as) := (pe_lst ha).imp' fun _ _ _ => rd_lst
theorem dTup {x1} (ha : PAs X L E es as) : PV X L E (.Tuple es x1 pos) (eDisp tupO as) := (pe_tup ha).imp' fun _ _ _ => rd_tup
/-! built-ins -/
theorem dcb {id : String} {x : Str} {o : List D → Option O} (hc : CallR X (.builtin id) (rDN L X.K o)) (hm : X.mg x = none) (ha : PAs X L E (e :: es) as) (hv : bootBuiltins x = some (.builtin id)) (hg : Gl X x := by rfl) (hn : x ≠ "__name__" := by decide) (hdb : (x == ("__debug__" : Str)) = false := by decide)
    (he : starEach (e :: es) X.env = (false, eval e X.env) :: starEach es X.env := by rfl) (hpl : (backTo pos (starEach es X.env)).any (·.1) = false := by rfl) : PV X L E (.Call (.Name x p) (e :: es) [] pos) (eN o as) :=
  (pe_callB hc hg hm hv ha hn hdb he hpl).imp' fun _ _ _ => rd_eN
theorem dct {T : String} {x : Str} {o : List D → Option O} (hc : CallR X (.type T) (rDN L X.K o)) (hm : X.mg x = none) (ha : PAs X L E (e :: es) as) (hv : bootBuiltins x = some (.type T)) (hg : Gl X x := by rfl) (hn : x ≠ "__name__" := by decide) (hdb : (x == ("__debug__" : Str)) = false := by decide)
    (he : starEach (e :: es) X.env = (false, eval e X.env) :: starEach es X.env := by rfl) (hpl : (backTo pos (starEach es X.env)).any (·.1) = false := by rfl) : PV X L E (.Call (.Name x p) (e :: es) [] pos) (eN o as) :=
  (pe_callTy hc hg hm hv ha hn hdb he hpl).imp' fun _ _ _ => rd_eN
theorem boot_repr' : bootBuiltins "repr" = some (.builtin "repr") := by decide +kernel
theorem boot_all' : bootBuiltins "all" = some (.builtin "all") := by decide +kernel
theorem boot_any' : bootBuiltins "any" = some (.builtin "any") := by decide +kernel
theorem boot_abs' : bootBuiltins "abs" = some (.builtin "abs") := by decide +kernel
theorem boot_min' : bootBuiltins "min" = some (.builtin "min") := by decide +kernel
theorem boot_max' : bootBuiltins "max" = some (.builtin "max") := by decide +kernel
theorem boot_len' : bootBuiltins "len" = some (.builtin "len") := by decide +kernel
theorem boot_isi' : bootBuiltins "isinstance" = some (.builtin "isinstance") := by decide +kernel
theorem boot_list' : bootBuiltins "list" = some (.type "list") := by decide +kernel
theorem boot_tuple' : bootBuiltins "tuple" = some (.type "tuple") := by decide +kernel
theorem boot_set' : bootBuiltins "set" = some (.type "set") := by decide +kernel
theorem boot_int' : bootBuiltins "int" = some (.type "int") := by decide +kernel
theorem boot_str' : bootBuiltins "str" = some (.type "str") := by decide +kernel
theorem boot_bool' : bootBuiltins "bool" = some (.type "bool") := by decide +kernel
theorem dLen (c : Ctx X L E j) (ha : PB X L E e f) (hg : Gl X "len" := by rfl) (he : starEach [e] X.env = [(false, eval e X.env)] := by rfl) : PV X L E (.Call (.Name "len" p) [e] [] pos) (eN (U1 lenO) (aCons f aNil)) := dcb (cr_len c.hP c.hw) c.B.len (dac ha dan he) boot_len' hg (he := he)
theorem dAbs (c : Ctx X L E j) (ha : PB X L E e f) (hg : Gl X "abs" := by rfl) (he : starEach [e] X.env = [(false, eval e X.env)] := by rfl) : PV X L E (.Call (.Name "abs" p) [e] [] pos) (eN (U1 absO) (aCons f aNil)) := dcb cr_absO c.B.abs (dac ha dan he) boot_abs' hg (he := he)
theorem dAll (c : Ctx X L E j) (ha : PB X L E e f) (hg : Gl X "all" := by rfl) (he : starEach [e] X.env = [(false, eval e X.env)] := by rfl) : PV X L E (.Call (.Name "all" p) [e] [] pos) (eN (U1 allO) (aCons f aNil)) := dcb (cr_allO c.xo.calm) c.B.all (dac ha dan he) boot_all' hg (he := he)
theorem dAny (c : Ctx X L E j) (ha : PB X L E e f) (hg : Gl X "any" := by rfl) (he : starEach [e] X.env = [(false, eval e X.env)] := by rfl) : PV X L E (.Call (.Name "any" p) [e] [] pos) (eN (U1 anyO) (aCons f aNil)) := dcb (cr_anyO c.xo.calm) c.B.any (dac ha dan he) boot_any' hg (he := he)
theorem dRepr (c : Ctx X L E j) (ha : PB X L E e f) (hg : Gl X "repr" := by rfl) (he : starEach [e] X.env = [(false, eval e X.env)] := by rfl) : PV X L E (.Call (.Name "repr" p) [e] [] pos) (eN (U1 reprO) (aCons f aNil)) := dcb (cr_reprO c.hr) c.B.repr (dac ha dan he) boot_repr' hg (he := he)
theorem dList (c : Ctx X L E j) (ha : PB X L E e f) (hg : Gl X "list" := by rfl) (he : starEach [e] X.env = [(false, eval e X.env)] := by rfl) : PV X L E (.Call (.Name "list" p) [e] [] pos) (eN (U1 listO) (aCons f aNil)) := dct (cr_listO c.xo.calm) c.B.list (dac ha dan he) boot_list' hg (he := he)
theorem dTuple (c : Ctx X L E j) (ha : PB X L E e f) (hg : Gl X "tuple" := by rfl) (he : starEach [e] X.env = [(false, eval e X.env)] := by rfl) : PV X L E (.Call (.Name "tuple" p) [e] [] pos) (eN (U1 tupleO) (aCons f aNil)) := dct cr_tupleO c.B.tuple (dac ha dan he) boot_tuple' hg (he := he)
theorem dSet (c : Ctx X L E j) (ha : PB X L E e f) (hg : Gl X "set" := by rfl) (he : starEach [e] X.env = [(false, eval e X.env)] := by rfl) : PV X L E (.Call (.Name "set" p) [e] [] pos) (eN (U1 setO) (aCons f aNil)) := dct (cr_setO c.hP c.hw c.xo.calm) c.B.set (dac ha dan he) boot_set' hg (he := he)
theorem dInt (c : Ctx X L E j) (ha : PB X L E e f) (hg : Gl X "int" := by rfl) (he : starEach [e] X.env = [(false, eval e X.env)] := by rfl) : PV X L E (.Call (.Name "int" p) [e] [] pos) (eN (U1 intCO) (aCons f aNil)) := dct cr_intO c.B.int (dac ha dan he) boot_int' hg (he := he)
theorem dMax2 (c : Ctx X L E j) (ha : PB X L E a f) (hb : PB X L E b g) (hg : Gl X "max" := by rfl) (he : starEach [a, b] X.env = [(false, eval a X.env), (false, eval b X.env)] := by rfl) (he2 : starEach [b] X.env = [(false, eval b X.env)] := by rfl) :
    PV X L E (.Call (.Name "max" p) [a, b] [] pos) (eN (U2 max2O) (aCons f (aCons g aNil))) := dcb (cr_max2O c.xo.calm) c.B.max (dac ha (dac hb dan he2) (he.trans (by rw [he2]))) boot_max' hg (he := he.trans (by rw [he2])) (hpl := by rw [he2]; rfl)
theorem dMin2 (c : Ctx X L E j) (ha : PB X L E a f) (hb : PB X L E b g) (hg : Gl X "min" := by rfl) (he : starEach [a, b] X.env = [(false, eval a X.env), (false, eval b X.env)] := by rfl) (he2 : starEach [b] X.env = [(false, eval b X.env)] := by rfl) :
    PV X L E (.Call (.Name "min" p) [a, b] [] pos) (eN (U2 min2O) (aCons f (aCons g aNil))) := dcb (cr_min2O c.xo.calm) c.B.min (dac ha (dac hb dan he2) (he.trans (by rw [he2]))) boot_min' hg (he := he.trans (by rw [he2])) (hpl := by rw [he2]; rfl)
/-! isinstance -/
theorem disi {T : String} {x : Str} {p2 : Pos} (hT : T = "str" ∨ T = "int" ∨ T = "bool" ∨ T = "tuple" ∨ T = "list" ∨ T = "dict") (c : Ctx X L E j) (hmx : X.mg x = none) (hbx : bootBuiltins x = some (.type T)) (ha : PB X L E a f) (hg : Gl X "isinstance" := by rfl) (hgx : Gl X x := by rfl) (hnx : x ≠ "__name__" := by decide) (hdx : (x == ("__debug__" : Str)) = false := by decide)
    (he : starEach [a, .Name x p2] X.env = [(false, eval a X.env), (false, eval (.Name x p2) X.env)] := by rfl) (he2 : starEach [.Name x p2] X.env = [(false, eval (.Name x p2) X.env)] := by rfl) :
    PV X L E (.Call (.Name "isinstance" p) [a, .Name x p2] [] pos) (e1 (isiO T) f) := by
  refine (pe_callB (r := rIsi X.K) call_isi hg c.B.isi boot_isi' (pa_cons ha (pa_cons (pe_bltn (v := .ty T) hgx hmx hbx rfl hnx hdx) pa_nil he2) (he.trans (by rw [he2]))) (he := he.trans (by rw [he2])) (hpl := by rw [he2]; rfl)).imp' fun σ H Q hh => ?_
  obtain ⟨w, δ, e0, st, q⟩ := rd_e1 hh
  refine ⟨w, δ, e0, st, q.imp fun k w1 δ1 s1 k1 q1 v F hv d => ?_⟩
  obtain ⟨C, dx, o, le, vx, eo, ro⟩ := q1 v F hv d
  obtain ⟨b, e1, e2⟩ := Option.map_eq_some_iff.mp eo
  cases e2
  obtain ⟨t, ty, kb⟩ := isi_kit T hT le vx e1
  exact ⟨v, .ty T, .type t, .type T, b, rfl, .ty T, ty, kit_ty kb, ro_d ro le rfl⟩
theorem disiStr {p2 : Pos} (c : Ctx X L E j) (ha : PB X L E a f) (hg : Gl X "isinstance" := by rfl) (hgx : Gl X "str" := by rfl) (he : starEach [a, .Name "str" p2] X.env = [(false, eval a X.env), (false, eval (.Name "str" p2) X.env)] := by rfl) (he2 : starEach [.Name "str" p2] X.env = [(false, eval (.Name "str" p2) X.env)] := by rfl) :
    PV X L E (.Call (.Name "isinstance" p) [a, .Name "str" p2] [] pos) (e1 (isiO "str") f) := disi (.inl rfl) c c.B.str boot_str' ha hg hgx (he := he) (he2 := he2)
theorem disiInt {p2 : Pos} (c : Ctx X L E j) (ha : PB X L E a f) (hg : Gl X "isinstance" := by rfl) (hgx : Gl X "int" := by rfl) (he : starEach [a, .Name "int" p2] X.env = [(false, eval a X.env), (false, eval (.Name "int" p2) X.env)] := by rfl) (he2 : starEach [.Name "int" p2] X.env = [(false, eval (.Name "int" p2) X.env)] := by rfl) :
    PV X L E (.Call (.Name "isinstance" p) [a, .Name "int" p2] [] pos) (e1 (isiO "int") f) := disi (.inr (.inl rfl)) c c.B.int boot_int' ha hg hgx (he := he) (he2 := he2)
theorem disiBool {p2 : Pos} (c : Ctx X L E j) (ha : PB X L E a f) (hg : Gl X "isinstance" := by rfl) (hgx : Gl X "bool" := by rfl) (he : starEach [a, .Name "bool" p2] X.env = [(false, eval a X.env), (false, eval (.Name "bool" p2) X.env)] := by rfl) (he2 : starEach [.Name "bool" p2] X.env = [(false, eval (.Name "bool" p2) X.env)] := by rfl) :
    PV X L E (.Call (.Name "isinstance" p) [a, .Name "bool" p2] [] pos) (e1 (isiO "bool") f) := disi (.inr (.inr (.inl rfl))) c c.B.bool boot_bool' ha hg hgx (he := he) (he2 := he2)
theorem disiTuple {p2 : Pos} (c : Ctx X L E j) (ha : PB X L E a f) (hg : Gl X "isinstance" := by rfl) (hgx : Gl X "tuple" := by rfl) (he : starEach [a, .Name "tuple" p2] X.env = [(false, eval a X.env), (false, eval (.Name "tuple" p2) X.env)] := by rfl) (he2 : starEach [.Name "tuple" p2] X.env = [(false, eval (.Name "tuple" p2) X.env)] := by rfl) :
    PV X L E (.Call (.Name "isinstance" p) [a, .Name "tuple" p2] [] pos) (e1 (isiO "tuple") f) := disi (.inr (.inr (.inr (.inl rfl)))) c c.B.tuple boot_tuple' ha hg hgx (he := he) (he2 := he2)
theorem disiList {p2 : Pos} (c : Ctx X L E j) (ha : PB X L E a f) (hg : Gl X "isinstance" := by rfl) (hgx : Gl X "list" := by rfl) (he : starEach [a, .Name "list" p2] X.env = [(false, eval a X.env), (false, eval (.Name "list" p2) X.env)] := by rfl) (he2 : starEach [.Name "list" p2] X.env = [(false, eval (.Name "list" p2) X.env)] := by rfl) :
    PV X L E (.Call (.Name "isinstance" p) [a, .Name "list" p2] [] pos) (e1 (isiO "list") f) := disi (.inr (.inr (.inr (.inr (.inl rfl))))) c c.B.list boot_list' ha hg hgx (he := he) (he2 := he2)
/-! texts -/
theorem dStrM {id : String} {name : Str} {apos : Pos} {o : D → D → Option O} (slot : PySem.Slot "str" name id) (ty : typeOf (.builtin id) = pure (.type "method_descriptor")) (rule : MtR X id (fun x xs H Q => ∃ y, xs = [y] ∧ rD2 L X.K o x y H Q)) (ha : PB X L E a f) (hb : PB X L E b g)
    (hs : starEach [b] X.env = [(false, eval b X.env)] := by rfl) (hbase : attributeBase a name X.env (eval a X.env) = eval a X.env := by rfl) (hline : (apos.endLine == pos.line) = true := by rfl) : PV X L E (.Call (.Attribute a name apos) [b] [] pos) (e2T isStrD o f g) :=
  (pe_m1 slot ty rule ha hb hs hbase hline).imp' fun σ H Q hh => by
    obtain ⟨w, δ, e0, st, q⟩ := rd_e2T (P := fun v _ => ∃ a, v = .str a) (fun C H d v le hc vd => by
      cases d <;> first | (cases hc; done) | exact ⟨_, vd⟩) hh
    refine ⟨w, δ, e0, st, q.imp fun k w1 δ1 s1 k1 q1 v F hv d => ?_⟩
    obtain ⟨h1, w2, δ2, e2, st2, q2⟩ := q1 v F hv d
    exact ⟨h1, w2, δ2, e2, st2, q2.imp fun k w3 δ3 s3 k3 q3 v F hv d => ⟨v, rfl, q3 v F hv d⟩⟩
theorem dJoin {apos : Pos} (ha : PB X L E a f) (hb : PB X L E b g) (hs : starEach [b] X.env = [(false, eval b X.env)] := by rfl) (hbase : attributeBase a "join" X.env (eval a X.env) = eval a X.env := by rfl) (hline : (apos.endLine == pos.line) = true := by rfl) :
    PV X L E (.Call (.Attribute a "join" apos) [b] [] pos) (e2T isStrD joinO f g) := dStrM PySem.F.slot_str_join PySem.F.type_str_join mt_joinO ha hb hs hbase hline
theorem dSplit {apos : Pos} (ha : PB X L E a f) (hb : PB X L E b g) (hs : starEach [b] X.env = [(false, eval b X.env)] := by rfl) (hbase : attributeBase a "split" X.env (eval a X.env) = eval a X.env := by rfl) (hline : (apos.endLine == pos.line) = true := by rfl) :
    PV X L E (.Call (.Attribute a "split" apos) [b] [] pos) (e2T isStrD splitO f g) := dStrM PySem.F.slot_str_split PySem.F.type_str_split mt_splitO ha hb hs hbase hline
theorem dFs2 {k l : EM} {p1 p2 : Pos} (ha : PV X L E a k) (hb : PV X L E b l) : PV X L E (.JoinedStr [.FormattedValue a (-1) none p1, .FormattedValue b (-1) none p2] pos) (eFs [k, l] Str.empty) :=
  (pe_joined (.cons (pe_fmt ha) (.cons (pe_fmt hb) .nil))).imp' fun σ H Q hh => rd_eFs (fs := [k, l]) (by
    obtain ⟨w, δ, e0, st, q⟩ := hh
    exact ⟨w, δ, e0, st, q.imp fun o w1 δ1 s1 k1 z v F ho d y e => by subst e; exact z _ F ho d⟩)
/-! changes -/
theorem dMut {id : String} {name : Str} {apos q : Pos} {x : Str} {op : List D → List D → Option (D × List D)} {R : V → List V → Hp → VK → Prop} (i : Nat) (slot : PySem.Slot "list" name id) (ty : typeOf (.builtin id) = pure (.type "method_descriptor")) (rule : MtR X id R) (hR : MutR L X.K op R) (ha : PAs X L E (e :: es) as)
    (hi : X.N[i]? = some x := by rfl) (hv : Vis X.env.scope x := by first | exact Or.inl rfl | exact Or.inr (Or.inl rfl) | exact Or.inr (Or.inr rfl)) (hbase : attributeBase (.Name x q) name X.env (eval (.Name x q) X.env) = eval (.Name x q) X.env := by rfl)
    (hfew : ((backTo pos (starEach (e :: es) X.env)).all (fun x => !x.1) && (backToKw pos (keywordEach [] X.env)).all (fun x => x.1.isSome)
      && decide ((e :: es).length + ([] : List Keyword).length + (if ([] : List Keyword).isEmpty then 0 else 1) < 30)) = true := by rfl)
    (hline : (apos.endLine == pos.line) = true := by rfl) (hs : starEach (e :: es) X.env = (false, eval e X.env) :: starEach es X.env := by rfl) (hplain : (backTo pos (starEach es X.env)).any (·.1) = false := by rfl)
    (hd : (x == ("__debug__" : Str)) = false := by decide) (hcd : (x == ("__classdict__" : Str)) = false := by decide) : PV X L E (.Call (.Attribute (.Name x q) name apos) (e :: es) [] pos) (eMut i op as) :=
  (pe_bm PySem.F.plainAttrs_list slot ty rule (pe_var hi hv hd hcd) ha hbase hfew hline hs hplain).imp' fun _ _ _ => rd_eMut hR
theorem dMut0 {id : String} {name : Str} {apos q : Pos} {x : Str} {op : List D → List D → Option (D × List D)} {R : V → List V → Hp → VK → Prop} (i : Nat) (slot : PySem.Slot "list" name id) (ty : typeOf (.builtin id) = pure (.type "method_descriptor")) (rule : MtR X id R) (hR : MutR L X.K op R)
    (hi : X.N[i]? = some x := by rfl) (hv : Vis X.env.scope x := by first | exact Or.inl rfl | exact Or.inr (Or.inl rfl) | exact Or.inr (Or.inr rfl)) (hbase : attributeBase (.Name x q) name X.env (eval (.Name x q) X.env) = eval (.Name x q) X.env := by rfl)
    (hline : (apos.endLine == pos.line) = true := by rfl) (hd : (x == ("__debug__" : Str)) = false := by decide) (hcd : (x == ("__classdict__" : Str)) = false := by decide) : PV X L E (.Call (.Attribute (.Name x q) name apos) [] [] pos) (eMut i op aNil) :=
  (pe_bm0 PySem.F.plainAttrs_list slot ty rule (pe_var hi hv hd hcd) hbase hline).imp' fun _ _ _ => rd_eMut0 hR
theorem dPut (i : Nat) {x : Str} {q sp : Pos} {op : List D → D → D → Option (List D)} {T : TSet} {k : EM} (hT : PSet X T) (hR : PutR L X.K op T) (he : PV X L E e k) (hb : PB X L E b g) (hi : X.N[i]? = some x := by rfl) (hv : Vis X.env.scope x := by first | exact Or.inl rfl | exact Or.inr (Or.inl rfl) | exact Or.inr (Or.inr rfl))
    (ha : ∀ v, assign (.Subscript (.Name x q) b sp) X.env v = (do
      let ov ← holding [v] (eval (.Name x q) X.env)
      let iv ← holding [v, ov] (eval b X.env)
      standAt sp
      holding [v, ov, iv] (setItem ov iv v)
      release [v, ov, iv] []) := by intro _; rfl)
    (hs : swapsWithSole [.Subscript (.Name x q) b sp] e pos.line X.env = pure false := by rfl) (hw : swappedStores [.Subscript (.Name x q) b sp] e X.env = pure none := by rfl)
    (h1 : (assignEach [.Subscript (.Name x q) b sp] X.env).map (·.2) = [assign (.Subscript (.Name x q) b sp) X.env] := by rfl) (hd : (x == ("__debug__" : Str)) = false := by decide) (hcd : (x == ("__classdict__" : Str)) = false := by decide) :
    PSt X L E lk (.Assign [.Subscript (.Name x q) b sp] e pos) (sPut i op g k) := (ps_asg he (pg_sub (pe_var hi hv hd hcd) hb hT ha) hs hw h1).imp' fun _ _ _ => rd_sPut hR
theorem dPar (i l : Nat) {x y : Str} {k m : EM} {px py pt : Pos} {kt k2 pt2} (c : Ctx X L E j) (ha : PV X L E a k) (hb : PV X L E b m) (hi : X.N[i]? = some x := by rfl) (hj : X.N[l]? = some y := by rfl) (hij : i ≠ l := by decide)
    (hx : X.env.scope.names.lookup x = some .local := by rfl) (hy : X.env.scope.names.lookup y = some .local := by rfl) (hsa : starEach [a, b] X.env = [(false, eval a X.env), (false, eval b X.env)] := by rfl) (hsb : starEach [b] X.env = [(false, eval b X.env)] := by rfl)
    (hw : swappedStores [.Tuple [.Name x px, .Name y py] kt pt] (.Tuple [a, b] k2 pt2) X.env = pure (some [x, y]) := by rfl)
    (hs : swapsWithSole [.Tuple [.Name x px, .Name y py] kt pt] (.Tuple [a, b] k2 pt2) pos.line X.env = pure false := by rfl) : PSt X L E lk (.Assign [.Tuple [.Name x px, .Name y py] kt pt] (.Tuple [a, b] k2 pt2) pos) (sPar i l k m) :=
  (ps_par c.xo.calm c.hN hi hj hij hx hy (pa_cons ha (pa_cons hb pa_nil hsb) (hsa.trans (by rw [hsb]))) hw hs).imp' fun _ _ _ => rd_sPar
/-! raise X('m'), X a class of the module -/
structure ExcD (K : PySem.W.Frag) (mg : Str → Option Value) (L : Lk) (x : Str) : Prop where
  ex : ∃ (C : Addr) (bmB : List Value) (B newId initId : String), ExcBaseFacts B newId initId bmB ∧ PySem.W.excIn K C bmB newId = true ∧ mg x = some (.ref C) ∧ PySem.W.keepIn K (.ref C) = true ∧ PySem.W.subIn K (.ref C) (.type "BaseException") = some true ∧ PySem.W.typeIn K (.ref C) = some (.type "type") ∧ L.exc x = some C
theorem draise {x m : Str} {k : Nat} {p2 q : Pos} (c : Ctx X L E j) (G : ExcD X.K X.mg L x) (hg : Gl X x := by rfl) (hdb : (x == ("__debug__" : Str)) = false := by decide) : PSt X L E lk (.Raise (some (.Call (.Name x p) [.Constant (.str m) k p2] [] q)) none pos) (sRaise x) := by
  obtain ⟨C, bmB, B, n1, n2, F, h1, h2, h3, h4, h5, h6⟩ := G.ex
  exact (ps_raise c.xo.calm c.xo.takes (pmk_own F h1 h2 h3 (raises_own h4 h5) hg hdb)).imp' fun D σ H h => rd_sRaise h6 h
end
end Dn
set_option autoImplicit false
set_option Elab.async false
set_option linter.all false
set_option maxRecDepth 100000
/-! DenY: calls by keyword, calls of a def that a value stands for. -/
namespace Dn
open PySem PySem.Spec PyProof.Rows L2
section
variable {L : Lk} {K : PySem.W.Frag} {σ σ' : L2.St} {w w0 w1 w2 : Wl} {δ δ1 δ2 : Sl} {E : XK} {H : Hp} {Q : VK}
theorem hds_at : ∀ {hs : List Hd} {vs : List V} {F : List Addr}, HdsOk L K σ w hs vs F → ∃ Gs : List (List Addr), F = Gs.flatten ∧ vs.length = hs.length ∧ Gs.length = hs.length ∧ ∀ i h, hs[i]? = some h → HdOk L K σ w h (vs.getD i .non) (Gs.getD i [])
  | [], vs, F, h => by
    obtain ⟨rfl, rfl⟩ := h
    exact ⟨[], rfl, rfl, rfl, fun i h e => by simp at e⟩
  | h :: r, vs, F, q => by
    obtain ⟨v, vs', F1, F2, rfl, rfl, h3, h4⟩ := q.cons_inv
    obtain ⟨Gs, rfl, l1, l2, g⟩ := hds_at h4
    refine ⟨F1 :: Gs, rfl, by simp [l1], by simp [l2], fun i h' e => ?_⟩
    cases i with
    | zero => cases e; exact h3
    | succ i => exact g i h' e
theorem hds_perm {hs : List Hd} {vs : List V} {Gs : List (List Addr)} (g : ∀ i h, hs[i]? = some h → HdOk L K σ w h (vs.getD i .non) (Gs.getD i [])) : ∀ {perm : List Nat} {hs' : List Hd}, perm.mapM (fun i => hs[i]?) = some hs' → HdsOk L K σ w hs' (perm.map fun i => vs.getD i .non) (perm.map fun i => Gs.getD i []).flatten
  | [], hs', e => by
    simp at e
    subst e
    exact ⟨rfl, rfl⟩
  | i :: perm, hs', e => by
    rw [List.mapM_cons] at e
    cases e1 : hs[i]? with
    | none => rw [e1] at e; simp at e
    | some h =>
      cases e2 : perm.mapM (fun i => hs[i]?) with
      | none => rw [e1, e2] at e; simp at e
      | some r =>
        rw [e1, e2] at e
        simp at e
        subst e
        exact ⟨_, _, _, _, rfl, rfl, g i h e1, hds_perm g e2⟩
theorem nodup_perm {Gs : List (List Addr)} (nd : Gs.flatten.Nodup) {perm : List Nat} (pn : perm.Nodup) : (perm.map fun i => Gs.getD i []).flatten.Nodup ∧ ∀ a ∈ (perm.map fun i => Gs.getD i []).flatten, a ∈ Gs.flatten := by
  have hm : ∀ i a, a ∈ Gs.getD i [] → i < Gs.length ∧ a ∈ Gs.flatten := fun i a ha => by
    by_cases hi : i < Gs.length
    · rw [getD_lt hi] at ha
      exact ⟨hi, List.mem_flatten.mpr ⟨_, List.getElem_mem hi, ha⟩⟩
    · rw [getD_ge (by omega)] at ha; simp at ha
  have pw := List.pairwise_flatten.mp nd
  have ap : ∀ i j a, a ∈ Gs.getD i [] → a ∈ Gs.getD j [] → i = j := fun i j a h1 h2 => by
    have hi := (hm i a h1).1
    have hj := (hm j a h2).1
    rw [getD_lt hi] at h1
    rw [getD_lt hj] at h2
    have p2 := List.pairwise_iff_getElem.mp pw.2
    rcases Nat.lt_trichotomy i j with z | z | z
    · exact absurd rfl (p2 i j hi hj z a h1 a h2)
    · exact z
    · exact absurd rfl (p2 j i hj hi z a h2 a h1)
  refine ⟨?_, fun a ha => ?_⟩
  · induction perm with
    | nil => exact List.nodup_nil
    | cons i perm ih =>
      rw [List.map_cons, List.flatten_cons]
      have pn2 := List.nodup_cons.mp pn
      refine List.nodup_append.mpr ⟨?_, ih pn2.2, fun a ha b hb z => ?_⟩
      · by_cases hi : i < Gs.length
        · rw [getD_lt hi]; exact pw.1 _ (List.getElem_mem hi)
        · rw [getD_ge (by omega)]; exact List.nodup_nil
      · subst z
        obtain ⟨l, hl, hal⟩ := List.mem_flatten.mp hb
        obtain ⟨k, hk, rfl⟩ := List.mem_map.mp hl
        have := ap i k a ha hal
        subst this
        exact pn2.1 hk
  · obtain ⟨l, hl, hal⟩ := List.mem_flatten.mp ha
    obtain ⟨k, hk, rfl⟩ := List.mem_map.mp hl
    exact (hm k a hal).2
theorem mapM_len {hs : List Hd} : ∀ {perm : List Nat} {hs' : List Hd}, perm.mapM (fun i => hs[i]?) = some hs' → hs'.length = perm.length
  | [], hs', e => by simp at e; subst e; rfl
  | i :: perm, hs', e => by
    rw [List.mapM_cons] at e
    cases e1 : hs[i]? with
    | none => rw [e1] at e; simp at e
    | some h =>
      cases e2 : perm.mapM (fun i => hs[i]?) with
      | none => rw [e1, e2] at e; simp at e
      | some r =>
        rw [e1, e2] at e
        simp at e
        subst e
        simp [mapM_len e2]
/-- a call in any state behind the arguments -/
theorem call_go {m : Fn} {np : Nat} {hs : List Hd} {vs : List V} {F : List Addr} (hl : hs.length = np) (s1 : Stp w w1) (k1 : StOk L K σ w1 δ) (hk : HdsOk L K σ w1 hs vs F) (d : Dis w w1 F)
    (h : Fin L K E σ w (callF m hs δ) fun o w' _ => ∀ v F, Own L K w'.C w'.H o v F → Dis w w' F → Q v w'.H) : spD L K np m vs w1.H Q E := by
  refine call_ok hl s1 k1 hk d ?_ (fun c δ' e2 w2 ca hc s2 k2 => ?_) fun o δ' e2 w2 s2 k2 => ?_
  · cases e2 : callF m hs δ with
    | bad => rw [e2] at h; exact h
    | exc c δ' => rw [e2] at h; exact fun w2 ca hc s2 k2 => h w2 ca hc (s1.trans s2) k2
    | ok o δ' => rw [e2] at h; exact fun w2 s2 k2 s3 v F => h w2 s3 k2 v F
  · rw [e2] at h; exact h w2 ca hc s2 k2
  · rw [e2] at h; exact h w2 s2 k2
theorem rd_eCallK {m : Fn} {np : Nat} {perm : List Nat} {as : AM} (pn : perm.Nodup) (h : tO L K E (eCallK np m perm as) σ H Q) : tAs L K E as σ H fun vs H1 => vs.length = np ∧ spD L K np m (perm.map fun i => vs.getD i .non) H1 Q E := by
  obtain ⟨w, δ, e, st, h⟩ := h
  refine ⟨w, δ, e, st, ?_⟩
  unfold eCallK at h
  cases ea : as δ with
  | bad => rw [ea] at h; exact h
  | exc c δ' => rw [ea] at h; exact h
  | ok hs δ1 =>
    rw [ea] at h
    intro w1 s1 k1 vs F hk d
    simp only [Res.bind_ok] at h
    cases em : perm.mapM (fun i => hs[i]?) with
    | none => rw [em] at h; exact h.elim
    | some hs' =>
      rw [em] at h
      simp only at h
      by_cases hl : hs.length = np ∧ perm.length = np
      · rw [if_pos hl] at h
        obtain ⟨Gs, rfl, l1, l2, g⟩ := hds_at hk
        obtain ⟨n1, n2⟩ := nodup_perm d.nd pn
        exact ⟨l1.trans hl.1, call_go ((mapM_len em).trans hl.2) s1 k1 (hds_perm g em) ⟨n1, fun a ha => d.cn a (n2 a ha), fun a ha => d.fs a (n2 a ha), fun a ha => d.og a (n2 a ha)⟩ h⟩
      · rw [if_neg hl] at h; exact h.elim
end
structure FnDK (P : Program) (w : World) (K : PySem.W.Frag) (mg : Str → Option Value) (base : Heap) (L : Lk) (x : Str) (np : Nat) (m : Fn) (k : Nat) (ks : List Str) (perm : List Nat) : Prop where
  ex : ∃ (f : Addr) (fd : FuncData) (ps : List Str), FnG P w K mg base k f fd ps (spD L K np m) ∧ mg x = some (.ref f) ∧ PySem.W.keepIn K (.ref f) = true ∧ KwB K fd ps ks perm ∧ ks.length = np
section
variable {X : Cx} {L : Lk} {E : XK} {x : Str} {p pos : Pos} {e fe : Expr} {es : List Expr} {kws : List Keyword} {as : AM} {m : Fn} {np k j : Nat} {ks : List Str} {perm : List Nat} {f : EM}
abbrev PKs (X : Cx) (L : Lk) (E : XK) (kws : List Keyword) (as : AM) : Prop := PK X kws (tAs L X.K E as)
theorem _root_.L2.PK.imp' {X : Cx} {kws : List Keyword} {t t' : TA} (h : PK X kws t) (f : ∀ σ H Q, t' σ H Q → t σ H Q) : PK X kws t' := ⟨fun pos pins s σ H Q I q => h.run pos pins s σ H Q I (f σ H Q q)⟩
theorem dkn : PKs X L E [] aNil := pk_nil.imp' fun _ _ _ => rd_aNil
theorem dkc {nm : Option Str} {kpos : Pos} {g : BM} (he : PB X L E e g) (hr : PKs X L E kws as) : PKs X L E (⟨nm, e, kpos⟩ :: kws) (aCons g as) := (pk_cons he hr).imp' fun _ _ _ => rd_aCons
theorem dcallK (G : FnDK X.prog X.w X.K X.mg X.base L x np m k ks perm) (pn : perm.Nodup) (c : Ctx X L E j) (hkj : k ≤ j) (ha : PKs X L E kws as) (hall : (backToKw pos (keywordEach kws X.env)).all (·.1.isSome) = true := by rfl) (hks : (backToKw pos (keywordEach kws X.env)).filterMap (·.1) = ks := by rfl)
    (hpl : ((backTo pos (starEach [] X.env)).any (·.1) || (backToKw pos (keywordEach kws X.env)).any (·.1.isNone)) = false := by rfl) (hg : Gl X x := by rfl) (hdb : (x == ("__debug__" : Str)) = false := by decide) : PV X L E (.Call (.Name x p) [] kws pos) (eCallK np m perm as) := by
  obtain ⟨f, fd, ps, F, hm, hk, hb, hl⟩ := G.ex
  refine (pe_callGk F (c.hr.mono hkj) hg hm hk hb c.xo.pass ha hall hks hpl hdb).imp' fun σ H Q h => ?_
  obtain ⟨w, δ, e0, st, q⟩ := rd_eCallK pn h
  exact ⟨w, δ, e0, st, q.imp fun hs w1 δ1 s1 k1 z vs F hk d => ⟨(z vs F hk d).1.trans hl.symm, (z vs F hk d).2⟩⟩
/-- fe(e, ..) -/
theorem dcallV {tab : Str → Option (Nat × Fn)} (G : ∀ x np m, tab x = some (np, m) → FnD X.prog X.w X.K X.mg X.base L x np m k) (c : Ctx X L E j) (hkj : k ≤ j) (hf : PV X L E fe f) (ha : PAs X L E (e :: es) as)
    (ht : eval (.Call fe (e :: es) [] pos) X.env = (do callWith pos (← eval fe X.env) [] (backTo pos (starEach (e :: es) X.env)) (backToKw pos (keywordEach [] X.env))) := by rfl)
    (he : starEach (e :: es) X.env = (false, eval e X.env) :: starEach es X.env := by rfl) (hpl : (backTo pos (starEach es X.env)).any (·.1) = false := by rfl) : PV X L E (.Call fe (e :: es) [] pos) (eCallV tab f as) :=
  (pe_callGx (k := k) hf (c.hr.mono hkj) c.xo.pass ha ht he hpl).imp' fun σ H Q h => by
    obtain ⟨w, δ, e0, st, h⟩ := h
    refine ⟨w, δ, e0, st, (Fin.bind h).imp fun o w1 δ1 s1 k1 q => ?_⟩
    intro v F ho d
    split at q
    · rename_i y
      split at q
      · rename_i np m et
        obtain ⟨a, rfl, hla⟩ := ho.2
        obtain ⟨f', fd, ps, FG, hm, hk, hb⟩ := (G y np m et).ex
        rw [c.lf y a hla] at hm
        cases hm
        refine ⟨a, spD L X.K np m, rfl, ⟨fd, ps, FG, hk, hb⟩, w1, δ1, rfl, k1, ?_⟩
        cases ea : as δ1 with
        | bad => rw [ea] at q; exact q
        | exc cc δ' => rw [ea] at q; exact q
        | ok hs δ2 =>
          rw [ea] at q
          intro w2 s2 k2 vs F2 hk2 d2
          simp only [Res.bind_ok] at q
          by_cases hl : hs.length = np
          · rw [if_pos hl] at q
            refine call_go (w := w1) hl s2 k2 hk2 d2 ?_
            exact q.imp fun o w3 δ3 s3 k3 z v F ho d => z (s1.trans s3) v F ho (d.back s1)
          · rw [if_neg hl] at q; exact q.elim
      · exact q.elim
    · exact q.elim
theorem dcallVK {tab : Str → Option (Nat × Fn)} (G : ∀ x np m, tab x = some (np, m) → FnDK X.prog X.w X.K X.mg X.base L x np m k ks perm) (pn : perm.Nodup) (c : Ctx X L E j) (hkj : k ≤ j) (hf : PV X L E fe f) (ha : PKs X L E kws as)
    (ht : eval (.Call fe [] kws pos) X.env = (do callWith pos (← eval fe X.env) [] (backTo pos (starEach [] X.env)) (backToKw pos (keywordEach kws X.env))) := by rfl)
    (hall : (backToKw pos (keywordEach kws X.env)).all (·.1.isSome) = true := by rfl) (hks : (backToKw pos (keywordEach kws X.env)).filterMap (·.1) = ks := by rfl)
    (hpl : ((backTo pos (starEach [] X.env)).any (·.1) || (backToKw pos (keywordEach kws X.env)).any (·.1.isNone)) = false := by rfl) : PV X L E (.Call fe [] kws pos) (eCallVK tab perm f as) :=
  (pe_callGxk (k := k) (perm := perm) hf (c.hr.mono hkj) c.xo.pass ha ht hall hks hpl).imp' fun σ H Q h => by
    obtain ⟨w, δ, e0, st, h⟩ := h
    refine ⟨w, δ, e0, st, (Fin.bind h).imp fun o w1 δ1 s1 k1 q => ?_⟩
    intro v F ho d
    split at q
    · rename_i y
      split at q
      · rename_i np m et
        obtain ⟨a, rfl, hla⟩ := ho.2
        obtain ⟨f', fd, ps, FG, hm, hk, hb, hl⟩ := (G y np m et).ex
        rw [c.lf y a hla] at hm
        cases hm
        obtain ⟨w2, δ2, e2, st2, q2⟩ := rd_eCallK (σ := σ) (Q := Q) pn ⟨w1, δ1, rfl, k1, q.imp fun o w3 δ3 s3 k3 z v F ho d => z (s1.trans s3) v F ho (d.back s1)⟩
        exact ⟨a, spD L X.K np m, rfl, ⟨fd, ps, FG, hk, hb⟩, w2, δ2, e2, st2, q2.imp fun hs w3 δ3 s3 k3 z vs F hk d => ⟨(z vs F hk d).1.trans hl.symm, (z vs F hk d).2⟩⟩
      · exact q.elim
    · exact q.elim
end
end Dn
set_option autoImplicit false
set_option Elab.async false
set_option linter.all false
set_option maxRecDepth 100000
/-! DenZ: a module's defs. -/
namespace Dn
open PySem PySem.Spec PyProof.Rows L2
/-- a constant of the module -/
def Con (mg : Str → Option Value) (x : Str) (d : D) : Prop := ∃ v u, mg x = some u ∧ RelV v u ∧ ∀ (L : Lk) (K : PySem.W.Frag) (C : Hp), Dat L K C d v
def FnV (mg : Str → Option Value) (L : Lk) (x : Str) : Prop := ∃ a, mg x = some (.ref a) ∧ L.fn x = some a
/-- what all defs of a module share -/
structure Mo (P : Program) (w : World) (mg : Str → Option Value) (L : Lk) : Prop where
  B : Blt mg
  hP : L.P = P
  hw : L.w = w
  lf : ∀ x a, L.fn x = some a → mg x = some (.ref a)
/-- a def of the module, as it stands -/
structure DefK (K : PySem.W.Frag) (mg : Str → Option Value) (x qual : Str) (st : Stmt) : Prop where
  ex : ∃ (f : Addr) (fd : FuncData), Fun K x qual st f fd ∧ mg x = some (.ref f)
structure FnO (P : Program) (w : World) (K : PySem.W.Frag) (mg : Str → Option Value) (base : Heap) (L : Lk) (x qual : Str) (st : Stmt) (ps : List Str) (m : Fn) (k : Nat) : Prop where
  ex : ∃ (f : Addr) (fd : FuncData), FnG P w K mg base k f fd ps (spD L K ps.length m) ∧ Fun K x qual st f fd ∧ mg x = some (.ref f)
section
variable {P : Program} {w : World} {K : PySem.W.Frag} {mg : Str → Option Value} {base : Heap} {L : Lk} {x qual : Str} {st : Stmt} {ps : List Str} {np k j : Nat} {m : Fn} {body : SM} {N : List Str} {ks : List Str} {perm : List Nat}
theorem DefK.run (F : DefK K mg x qual st) (S : FnScope N ps (defScope st))
    (hb : ∀ (cdv : Value) (A : Around) (outer : List Env) (s : Shared) (H : Hp) (E : XK) (lk : Nat → Bool) (f : Addr), RoomG k (A.deeper (envOfC qual (defScope st) s.heap.objs.size f cdv)) → XOk (cxOf (L2.CX P w) P w K mg base N qual (defScope st) f cdv A outer s H E) E →
      PSts (cxOf (L2.CX P w) P w K mg base N qual (defScope st) f cdv A outer s H E) L E lk (defBody st) body) : FnO P w K mg base L x qual st ps (run ps.length (N.length - ps.length) body) (k + 1) := by
  obtain ⟨f, fd, F1, hm⟩ := F.ex
  exact ⟨f, fd, fn_run F1 S fun cdv A outer s H E lk hr xo => hb cdv A outer s H E lk f hr xo, F1, hm⟩
theorem FnO.fnD (F : FnO P w K mg base L x qual st ps m k) (hb : ∀ f fd, Fun K x qual st f fd → Binds K fd ps []) : FnD P w K mg base L x ps.length m k := by
  obtain ⟨f, fd, h1, h2, h3⟩ := F.ex
  exact ⟨f, fd, ps, h1, h3, h2.kp, hb f fd h2⟩
theorem FnO.fnDK (F : FnO P w K mg base L x qual st ps m k) (hb : ∀ f fd, Fun K x qual st f fd → KwB K fd ps ks perm) (hl : ks.length = ps.length) : FnDK P w K mg base L x ps.length m k ks perm := by
  obtain ⟨f, fd, h1, h2, h3⟩ := F.ex
  exact ⟨f, fd, ps, h1, h3, h2.kp, hb f fd h2, hl⟩
theorem FnG.mono {f : Addr} {fd : FuncData} {sp : Sp} (F : FnG P w K mg base j f fd ps sp) (h : j ≤ k) : FnG P w K mg base k f fd ps sp := ⟨F.len, fun A outer s H args us vs Q E hr => F.run A outer s H args us vs Q E (hr.mono h)⟩
theorem FnD.up (F : FnD P w K mg base L x np m j) (h : j ≤ k) : FnD P w K mg base L x np m k := by
  obtain ⟨f, fd, ps, h1, h2⟩ := F.ex
  exact ⟨f, fd, ps, h1.mono h, h2⟩
theorem FnDK.up (F : FnDK P w K mg base L x np m j ks perm) (h : j ≤ k) : FnDK P w K mg base L x np m k ks perm := by
  obtain ⟨f, fd, ps, h1, h2⟩ := F.ex
  exact ⟨f, fd, ps, h1.mono h, h2⟩
end
section
variable {X : Cx} {L : Lk} {E : XK} {x : Str} {pos : Pos} {d : D}
theorem dcon (G : Con X.mg x d) (hg : Gl X x := by rfl) (hd : (x == ("__debug__" : Str)) = false := by decide) : PV X L E (.Name x pos) (eC d) := by
  obtain ⟨v, u, h1, h2, h3⟩ := G
  exact dglob h1 h2 (fun C => h3 L X.K C) hg hd
theorem dfnv (G : FnV X.mg L x) (hg : Gl X x := by rfl) (hd : (x == ("__debug__" : Str)) = false := by decide) : PV X L E (.Name x pos) (eC (.fn x)) := by
  obtain ⟨a, h1, h2⟩ := G
  exact dglob (v := .ref a) h1 rfl (fun C => ⟨a, rfl, h2⟩) hg hd
end
/-! comprehensions, with their block's standing -/
section
variable {X : Cx} {L : Lk} {E : XK} {lk : Nat → Bool} {j : Nat} {elt tg iter : Expr} {ifs : List Expr} {scope : Scope} {pos spos : Pos} {it : IM} {g : GM} {t : TM} {e : EM}
theorem dlcC (own : List (Str × Nat)) (c : Ctx X L E j) (hi : PIt X L E tg iter it) (ok : blkC X.N X.env.scope scope own = true)
    (hg : ∀ (s : Shared) (H : Hp) (C : Addr) (cl : List (Str × Addr)) (fp : List Addr), Ctx (X.blk s H scope (compEnvC scope cl C X.env) fp) L E00 j → PGt (X.blk s H scope (compEnvC scope cl C X.env) fp) L (compl (own.map (·.2))) tg g) (ht : ∀ (s : Shared) (H : Hp) (C : Addr) (cl : List (Str × Addr)) (fp : List Addr), Ctx (X.blk s H scope (compEnvC scope cl C X.env) fp) L E00 j → PTst (X.blk s H scope (compEnvC scope cl C X.env) fp) L E00 ifs t) (he : ∀ (s : Shared) (H : Hp) (C : Addr) (cl : List (Str × Addr)) (fp : List Addr), Ctx (X.blk s H scope (compEnvC scope cl C X.env) fp) L E00 j → PV (X.blk s H scope (compEnvC scope cl C X.env) fp) L E00 elt e) (hs : ∀ x, foldedSetIterable iter X.env x = pure x := by intro _; rfl) :
    PV X L E (.ListComp elt [⟨tg, iter, ifs, 0⟩] scope pos) (eLc it (own.map (·.2)) g t e) :=
  dlc own c.xo.calm c.hN hi ok (fun s H C cl fp => hg s H C cl fp (c.blk s H _ _ fp)) (fun s H C cl fp => ht s H C cl fp (c.blk s H _ _ fp)) (fun s H C cl fp => he s H C cl fp (c.blk s H _ _ fp)) hs
theorem dsetLcC (i : Nat) {y : Str} {py : Pos} (own : List (Str × Nat)) (c : Ctx X L E j) (hi : PIt X L E tg iter it) (ok : blkC X.N X.env.scope scope own = true)
    (hg : ∀ (s : Shared) (H : Hp) (C : Addr) (cl : List (Str × Addr)) (fp : List Addr), Ctx (X.blk s H scope (compEnvC scope cl C X.env) fp) L E00 j → PGt (X.blk s H scope (compEnvC scope cl C X.env) fp) L (compl (own.map (·.2))) tg g) (ht : ∀ (s : Shared) (H : Hp) (C : Addr) (cl : List (Str × Addr)) (fp : List Addr), Ctx (X.blk s H scope (compEnvC scope cl C X.env) fp) L E00 j → PTst (X.blk s H scope (compEnvC scope cl C X.env) fp) L E00 ifs t) (he : ∀ (s : Shared) (H : Hp) (C : Addr) (cl : List (Str × Addr)) (fp : List Addr), Ctx (X.blk s H scope (compEnvC scope cl C X.env) fp) L E00 j → PV (X.blk s H scope (compEnvC scope cl C X.env) fp) L E00 elt e)
    (hy : X.N[i]? = some y := by rfl) (hyl : X.env.scope.names.lookup y = some .local := by rfl)
    (hsw : swapsWith (.ListComp elt [⟨tg, iter, ifs, 0⟩] scope pos) (some (.Name y py)) spos.line X.env = pure true := by exact sw_true rfl rfl rfl (by decide +kernel)) (hs : ∀ x, foldedSetIterable iter X.env x = pure x := by intro _; rfl) :
    PSt X L E lk (.Assign [.Name y py] (.ListComp elt [⟨tg, iter, ifs, 0⟩] scope pos) spos) (sSet i (eLc it (own.map (·.2)) g t e)) :=
  dsetLc i own c.xo.calm c.hN hi ok (fun s H C cl fp => hg s H C cl fp (c.blk s H _ _ fp)) (fun s H C cl fp => ht s H C cl fp (c.blk s H _ _ fp)) (fun s H C cl fp => he s H C cl fp (c.blk s H _ _ fp)) hy hyl hsw hs
theorem dlcHC (i : Nat) {x : Str} {p : Pos} (own : List (Str × Nat)) (c : Ctx X L E j) (ok : blkC X.N X.env.scope scope own = true)
    (hg : ∀ (s : Shared) (H : Hp) (C : Addr) (cl : List (Str × Addr)) (fp : List Addr), Ctx (X.blk s H scope (compEnvC scope cl C X.env) fp) L E00 j → PGt (X.blk s H scope (compEnvC scope cl C X.env) fp) L (compl (own.map (·.2))) tg g) (ht : ∀ (s : Shared) (H : Hp) (C : Addr) (cl : List (Str × Addr)) (fp : List Addr), Ctx (X.blk s H scope (compEnvC scope cl C X.env) fp) L E00 j → PTst (X.blk s H scope (compEnvC scope cl C X.env) fp) L E00 ifs t) (he : ∀ (s : Shared) (H : Hp) (C : Addr) (cl : List (Str × Addr)) (fp : List Addr), Ctx (X.blk s H scope (compEnvC scope cl C X.env) fp) L E00 j → PV (X.blk s H scope (compEnvC scope cl C X.env) fp) L E00 elt e)
    (hi : X.N[i]? = some x := by rfl) (hv : Vis X.env.scope x := by first | exact Or.inl rfl | exact Or.inr (Or.inl rfl) | exact Or.inr (Or.inr rfl)) (hd : (x == ("__debug__" : Str)) = false := by decide)
    (hcd : (x == ("__classdict__" : Str)) = false := by decide) (hs : ∀ y, foldedSetIterable (.Name x p) X.env y = pure y := by intro _; rfl) :
    PV X L E (.ListComp elt [⟨tg, .Name x p, ifs, 0⟩] scope pos) (eLcH i (own.map (·.2)) g t e) :=
  dlcH i own c.xo.calm c.hN ok (fun s H C cl fp => hg s H C cl fp (c.blk s H _ _ fp)) (fun s H C cl fp => ht s H C cl fp (c.blk s H _ _ fp)) (fun s H C cl fp => he s H C cl fp (c.blk s H _ _ fp)) hi hv hd hcd hs
theorem dsetLcHC (k i : Nat) {y x : Str} {py p : Pos} (own : List (Str × Nat)) (c : Ctx X L E j) (ok : blkC X.N X.env.scope scope own = true)
    (hg : ∀ (s : Shared) (H : Hp) (C : Addr) (cl : List (Str × Addr)) (fp : List Addr), Ctx (X.blk s H scope (compEnvC scope cl C X.env) fp) L E00 j → PGt (X.blk s H scope (compEnvC scope cl C X.env) fp) L (compl (own.map (·.2))) tg g) (ht : ∀ (s : Shared) (H : Hp) (C : Addr) (cl : List (Str × Addr)) (fp : List Addr), Ctx (X.blk s H scope (compEnvC scope cl C X.env) fp) L E00 j → PTst (X.blk s H scope (compEnvC scope cl C X.env) fp) L E00 ifs t) (he : ∀ (s : Shared) (H : Hp) (C : Addr) (cl : List (Str × Addr)) (fp : List Addr), Ctx (X.blk s H scope (compEnvC scope cl C X.env) fp) L E00 j → PV (X.blk s H scope (compEnvC scope cl C X.env) fp) L E00 elt e)
    (hy : X.N[k]? = some y := by rfl) (hyl : X.env.scope.names.lookup y = some .local := by rfl)
    (hsw : swapsWith (.ListComp elt [⟨tg, .Name x p, ifs, 0⟩] scope pos) (some (.Name y py)) spos.line X.env = pure true := by exact sw_true rfl rfl rfl (by decide +kernel))
    (hi : X.N[i]? = some x := by rfl) (hv : Vis X.env.scope x := by first | exact Or.inl rfl | exact Or.inr (Or.inl rfl) | exact Or.inr (Or.inr rfl)) (hd : (x == ("__debug__" : Str)) = false := by decide)
    (hcd : (x == ("__classdict__" : Str)) = false := by decide) (hs : ∀ z, foldedSetIterable (.Name x p) X.env z = pure z := by intro _; rfl) :
    PSt X L E lk (.Assign [.Name y py] (.ListComp elt [⟨tg, .Name x p, ifs, 0⟩] scope pos) spos) (sSet k (eLcH i (own.map (·.2)) g t e)) :=
  dsetLcH k i own c.xo.calm c.hN ok (fun s H C cl fp => hg s H C cl fp (c.blk s H _ _ fp)) (fun s H C cl fp => ht s H C cl fp (c.blk s H _ _ fp)) (fun s H C cl fp => he s H C cl fp (c.blk s H _ _ fp)) hy hyl hsw hi hv hd hcd hs
end
/-- facts of the top -/
theorem defK_of {K : PySem.W.Frag} {h : Heap} {mg : Str → Option Value} {x qual : Str} {st : Stmt} {f : Addr} {oc kV doc pm cdv ct : Value} {od an : Option Addr} {osl : Array (Option Value)} (X : K.In h) (G : h.Ns mainGlobals mg)
    (a : PySem.W.nsIn K mainGlobals x = some (some (.ref f))) (l : K.lookup f = some ⟨oc, od, .func (PySem.W.fnOf x qual (defArgs st) (defBody st) (defScope st) .none kV doc pm an cdv ct), osl⟩) (c : PySem.W.codeIn K cdv qual = true) (k : PySem.W.keepIn K (.ref f) = true) : DefK K mg x qual st :=
  ⟨f, _, fun_mk l c k, PySem.W.mg_of X G a⟩
theorem con_str {K : PySem.W.Frag} {h : Heap} {mg : Str → Option Value} {x y : Str} {t : Tok} (X : K.In h) (G : h.Ns mainGlobals mg) (a : PySem.W.nsIn K mainGlobals x = some (some (.str y t))) : Con mg x (.str y) :=
  ⟨.str y, _, PySem.W.mg_of X G a, ⟨t, rfl⟩, fun _ _ _ => rfl⟩
theorem con_int {K : PySem.W.Frag} {h : Heap} {mg : Str → Option Value} {x : Str} {y : Int} {t : Tok} (X : K.In h) (G : h.Ns mainGlobals mg) (a : PySem.W.nsIn K mainGlobals x = some (some (.int y t))) : Con mg x (.int y) :=
  ⟨.int y, _, PySem.W.mg_of X G a, ⟨t, rfl⟩, fun _ _ _ => rfl⟩
/-- defs as values: the link of the names -/
def fnOfMg (mg : Str → Option Value) : Str → Option Addr := fun x => match mg x with
  | some (.ref a) => some a
  | _ => none
theorem fnOfMg_ok {mg : Str → Option Value} {x : Str} {a : Addr} (h : fnOfMg mg x = some a) : mg x = some (.ref a) := by
  unfold fnOfMg at h
  split at h
  · cases h; assumption
  · cases h
/-- the links, by the module's names -/
def lkOf (P : Program) (w : World) (mg : Str → Option Value) : Lk := ⟨P, w, fnOfMg mg, fnOfMg mg, fnOfMg mg⟩
theorem fnOfMg_of {mg : Str → Option Value} {x : Str} {a : Addr} (h : mg x = some (.ref a)) : fnOfMg mg x = some a := by
  unfold fnOfMg; rw [h]
theorem DefK.fnV {P : Program} {w : World} {K : PySem.W.Frag} {mg : Str → Option Value} {x qual : Str} {st : Stmt} (F : DefK K mg x qual st) : FnV mg (lkOf P w mg) x := by
  obtain ⟨f, fd, h1, h2⟩ := F.ex
  exact ⟨f, h2, fnOfMg_of h2⟩
theorem mo_of {P : Program} {w : World} {mg : Str → Option Value} (B : Blt mg) : Mo P w mg (lkOf P w mg) := ⟨B, rfl, rfl, fun _ _ h => fnOfMg_ok h⟩
theorem excD_of {P : Program} {w : World} {K : PySem.W.Frag} {h : Heap} {mg : Str → Option Value} {x : Str} {C : Addr} {bmB : List Value} {B newId initId : String} (F : ExcBaseFacts B newId initId bmB) (X : K.In h) (G : h.Ns mainGlobals mg)
    (a : PySem.W.nsIn K mainGlobals x = some (some (.ref C))) (q : PySem.W.excIn K C bmB newId = true) (k : PySem.W.keepIn K (.ref C) = true) (s : PySem.W.subIn K (.ref C) (.type "BaseException") = some true) (t : PySem.W.typeIn K (.ref C) = some (.type "type")) : ExcD K mg (lkOf P w mg) x :=
  ⟨C, bmB, B, newId, initId, F, q, PySem.W.mg_of X G a, k, s, t, fnOfMg_of (PySem.W.mg_of X G a)⟩
theorem fun_inj {K : PySem.W.Frag} {x qual : Str} {st : Stmt} {f : Addr} {fd fd' : FuncData} (F : Fun K x qual st f fd) (F' : Fun K x qual st f fd') : fd = fd' := by
  obtain ⟨oc, od, kV, doc, pm, an, cdv, ct, osl, rfl, lk, _⟩ := F.ex
  obtain ⟨oc', od', kV', doc', pm', an', cdv', ct', osl', rfl, lk', _⟩ := F'.ex
  rw [lk] at lk'
  have e := Option.some.inj lk'
  have e2 := congrArg Obj.data e
  exact Data.func.inj e2
theorem law_top {P : Program} {w : World} {K : PySem.W.Frag} {mg : Str → Option Value} {fa : Addr} {st : Stmt} {m : Fn} {k : Nat} {L : Lk} (hfa : mg "law" = some (.ref fa)) (D : DefK K mg "law" "law" st) (hb : ∀ f fd, Fun K "law" "law" st f fd → ∀ (s : Shared) (v : Value), BindsTo s fd ⟨[v], []⟩ [("script", v)])
    (F : ∀ base : Heap, K.In base → base.Ns mainGlobals mg → FnO P w K mg base L "law" "law" st ["script"] m k) :
    ∃ fd : FuncData, (∀ (s : Shared) (v : Value), BindsTo s fd ⟨[v], []⟩ [("script", v)]) ∧ ∀ base : Heap, K.In base → base.Ns mainGlobals mg → FnG P w K mg base k fa fd ["script"] (spD L K 1 m) := by
  obtain ⟨f, fd, h1, h2⟩ := D.ex
  rw [hfa] at h2
  cases h2
  refine ⟨fd, hb _ _ h1, fun base X G => ?_⟩
  obtain ⟨f', fd', g1, g2, g3⟩ := (F base X G).ex
  rw [hfa] at g3
  cases g3
  rw [fun_inj h1 g2]
  exact g1
theorem law_sp {P : Program} {w : World} {K : PySem.W.Frag} {mg : Str → Option Value} {H : Hp} {a : Addr} {ns : List Int} {m : Fn} {outs : Sl} (hm : m [.d (.scr ns)] = .ret (.d (.bl true)) outs) (hS : SqL K H a (ns.map V.int)) :
    spD (lkOf P w mg) K 1 m [.ref a] H (fun v _ => v = .bl true) fun _ _ _ => False := by
  refine ⟨rfl, ⟨H, H, fun _ => []⟩, [.d (.scr ns)], rfl, ⟨rfl, Ext.rfl', fun i o h => ?_, fun _ _ => rfl, fun _ => List.nodup_nil, fun _ _ _ h => by simp at h, fun _ _ h => by simp at h⟩, ?_⟩
  · cases i with
    | zero =>
      cases h
      exact ⟨.ref a, rfl, rfl, a, rfl, hS⟩
    | succ i => simp at h
  · rw [hm]
    exact fun w' v F _ _ ho _ => ho.2
theorem cx_no {P : Program} {w : World} {H : Hp} {s : Shared} {e : Value} {s' : Shared} (h : L2.CX P w [] H s (fun _ _ _ => False) e s') : False := by
  obtain ⟨_, _, _, _, _, _, _, _, _, _, _, _, z⟩ := h
  exact z.elim
end Dn
set_option autoImplicit false
set_option linter.all false
/-! DenQ: reckoning with combinators. -/
namespace Dn
open PySem
theorem lcL_pure {vs : List Nat} {g : GM} {t : TM} {e : EM} {δ : Sl} {p : D → Bool} {F : D → D} : ∀ (ds acc : List D), (∀ d ∈ ds, ∃ δ1 δ2, g (fun i => !vs.contains i) d δ = some δ1 ∧ t δ1 = .ok (p d) δ2 ∧ (p d = false → wipeS δ2 vs = δ) ∧ (p d = true → ∃ o δ3, e δ2 = .ok o δ3 ∧ view o = F d ∧ wipeS δ3 vs = δ)) →
    lcL vs g t e ds δ acc = .ok (acc ++ (ds.filter p).map F) δ
  | [], acc, _ => by simp [lcL]
  | d :: ds, acc, h => by
    obtain ⟨δ1, δ2, h1, h2, h3, h4⟩ := h d (by simp)
    unfold lcL
    rw [h1]
    simp only [h2, Res.noexc_ok, Res.bind_ok]
    cases hp : p d with
    | false =>
      rw [if_neg Bool.false_ne_true, h3 hp, lcL_pure ds acc fun d' hd => h d' (by simp [hd])]
      simp [hp]
    | true =>
      obtain ⟨o, δ3, h5, h6, h7⟩ := h4 hp
      rw [if_pos rfl, h5]
      simp only [Res.noexc_ok, Res.bind_ok]
      rw [h7, lcL_pure ds _ fun d' hd => h d' (by simp [hd]), h6]
      simp [hp]
theorem back_wipe (δ : Sl) (vs : List Nat) : backS δ (wipeS δ vs) vs = δ := by
  refine List.ext_getElem? fun i => ?_
  by_cases hv : i ∈ vs
  · by_cases hi : i < δ.length
    · rw [backS_in (by rw [wipeS_len]; exact hi) hv, getD_lt hi, List.getElem?_eq_getElem hi]
    · rw [List.getElem?_eq_none (by rw [backS_len, wipeS_len]; omega), List.getElem?_eq_none (by omega)]
  · rw [backS_out hv, wipeS_out hv]
/-- a comprehension over a name, its parts pure -/
theorem eLcH_pure {i : Nat} {vs : List Nat} {g : GM} {t : TM} {e : EM} {δ : Sl} {o : O} {ds : List D} (p : D → Bool) (F : D → D) (hs : δ[i]? = some (some o)) (hq : seqOf (view o) = some ds) (hl : ds.length ≤ 1000000)
    (h : ∀ d ∈ ds, ∃ δ1 δ2, g (fun i => !vs.contains i) d (wipeS (if isOpen o = true then δ.set i none else δ) vs) = some δ1 ∧ t δ1 = .ok (p d) δ2 ∧ (p d = false → wipeS δ2 vs = wipeS (if isOpen o = true then δ.set i none else δ) vs) ∧
      (p d = true → ∃ o' δ3, e δ2 = .ok o' δ3 ∧ view o' = F d ∧ wipeS δ3 vs = wipeS (if isOpen o = true then δ.set i none else δ) vs)) :
    eLcH i vs g t e δ = .ok (.lst ((ds.filter p).map F)) δ := by
  unfold eLcH holdE
  rw [hs]
  simp only [hq]
  have hlen : ((ds.filter p).map F).length ≤ 1000000 := by
    rw [List.length_map]
    exact Nat.le_trans (List.length_filter_le _ _) hl
  by_cases ho : isOpen o = true
  · rw [if_pos ho] at h ⊢
    rw [lcL_pure ds [] h]
    simp only [List.nil_append, Res.noexc_ok, Res.bind_ok]
    rw [if_pos hlen, back_wipe]
    show Res.ok _ ((δ.set i none).set i (some o)) = _
    rw [List.set_set]
    congr 1
    refine List.ext_getElem? fun j => ?_
    by_cases hj : i = j
    · subst hj
      rw [List.getElem?_set_self (by have := List.getElem?_eq_some_iff.mp hs; obtain ⟨a, _⟩ := this; exact a), hs]
    · rw [List.getElem?_set_ne hj]
  · rw [if_neg ho] at h ⊢
    rw [lcL_pure ds [] h]
    simp only [List.nil_append, Res.noexc_ok, Res.bind_ok]
    rw [if_pos hlen, back_wipe]
theorem eLc_pure {it : IM} {vs : List Nat} {g : GM} {t : TM} {e : EM} {δ δ0 : Sl} {ds : List D} (p : D → Bool) (F : D → D) (hq : it δ0 = .ok ds δ) (hl : ds.length ≤ 1000000)
    (h : ∀ d ∈ ds, ∃ δ1 δ2, g (fun i => !vs.contains i) d (wipeS δ vs) = some δ1 ∧ t δ1 = .ok (p d) δ2 ∧ (p d = false → wipeS δ2 vs = wipeS δ vs) ∧
      (p d = true → ∃ o' δ3, e δ2 = .ok o' δ3 ∧ view o' = F d ∧ wipeS δ3 vs = wipeS δ vs)) :
    eLc it vs g t e δ0 = .ok (.lst ((ds.filter p).map F)) δ := by
  unfold eLc
  rw [hq]
  simp only [Res.bind_ok]
  have hlen : ((ds.filter p).map F).length ≤ 1000000 := by
    rw [List.length_map]
    exact Nat.le_trans (List.length_filter_le _ _) hl
  rw [lcL_pure ds [] h]
  simp only [List.nil_append, Res.noexc_ok, Res.bind_ok]
  rw [if_pos hlen, back_wipe]
theorem lcL_mapA {α : Type} {vs : List Nat} {g : GM} {t : TM} {e : EM} {δ : Sl} {G R : α → D} : ∀ (xs : List α) (acc : List D), (∀ x ∈ xs, ∃ δ1 δ2 o δ3, g (fun i => !vs.contains i) (G x) δ = some δ1 ∧ t δ1 = .ok true δ2 ∧ e δ2 = .ok o δ3 ∧ view o = R x ∧ wipeS δ3 vs = δ) →
    lcL vs g t e (xs.map G) δ acc = .ok (acc ++ xs.map R) δ
  | [], acc, _ => by simp [lcL]
  | x :: xs, acc, h => by
    obtain ⟨δ1, δ2, o, δ3, h1, h2, h3, h4, h5⟩ := h x (by simp)
    rw [List.map_cons]
    unfold lcL
    rw [h1]
    simp only [h2, Res.noexc_ok, Res.bind_ok, if_true, h3]
    rw [h5, lcL_mapA xs _ fun y hy => h y (by simp [hy]), h4]
    simp
theorem eLc_mapA {α : Type} {it : IM} {vs : List Nat} {g : GM} {t : TM} {e : EM} {δ δ0 : Sl} {G R : α → D} {xs : List α} (hq : it δ0 = .ok (xs.map G) δ) (hl : xs.length ≤ 1000000)
    (h : ∀ x ∈ xs, ∃ δ1 δ2 o δ3, g (fun i => !vs.contains i) (G x) (wipeS δ vs) = some δ1 ∧ t δ1 = .ok true δ2 ∧ e δ2 = .ok o δ3 ∧ view o = R x ∧ wipeS δ3 vs = wipeS δ vs) : eLc it vs g t e δ0 = .ok (.lst (xs.map R)) δ := by
  unfold eLc
  rw [hq]
  simp only [Res.bind_ok]
  rw [lcL_mapA xs [] h]
  simp only [List.nil_append, Res.noexc_ok, Res.bind_ok, List.length_map]
  rw [if_pos hl, back_wipe]
theorem eLcH_mapA {α : Type} {i : Nat} {vs : List Nat} {g : GM} {t : TM} {e : EM} {δ : Sl} {o : O} {G R : α → D} {xs : List α} (hs : δ[i]? = some (some o)) (hq : seqOf (view o) = some (xs.map G)) (hl : xs.length ≤ 1000000)
    (h : ∀ x ∈ xs, ∃ δ1 δ2 o' δ3, g (fun i => !vs.contains i) (G x) (wipeS (if isOpen o = true then δ.set i none else δ) vs) = some δ1 ∧ t δ1 = .ok true δ2 ∧ e δ2 = .ok o' δ3 ∧ view o' = R x ∧ wipeS δ3 vs = wipeS (if isOpen o = true then δ.set i none else δ) vs) :
    eLcH i vs g t e δ = .ok (.lst (xs.map R)) δ := by
  unfold eLcH holdE
  rw [hs]
  simp only [hq]
  by_cases ho : isOpen o = true
  · rw [if_pos ho] at h ⊢
    rw [lcL_mapA xs [] h]
    simp only [List.nil_append, Res.noexc_ok, Res.bind_ok, List.length_map]
    rw [if_pos hl, back_wipe]
    show Res.ok _ ((δ.set i none).set i (some o)) = _
    rw [List.set_set]
    congr 1
    refine List.ext_getElem? fun j => ?_
    by_cases hj : i = j
    · subst hj
      rw [List.getElem?_set_self (by have := List.getElem?_eq_some_iff.mp hs; obtain ⟨a, _⟩ := this; exact a), hs]
    · rw [List.getElem?_set_ne hj]
  · rw [if_neg ho] at h ⊢
    rw [lcL_mapA xs [] h]
    simp only [List.nil_append, Res.noexc_ok, Res.bind_ok, List.length_map]
    rw [if_pos hl, back_wipe]
theorem seq_nx {a b : SM} {lk : Nat → Bool} {δ δ1 : Sl} (h : a lk δ = .nx δ1) : sCons a b lk δ = b lk δ1 := by
  unfold sCons; rw [h]; rfl
theorem run_rt {np m : Nat} {body : SM} {os : List O} {o : O} {δ : Sl} (h : body (lent os) (os.map some ++ List.replicate m none) = .rt o δ) (hl : os.length = np) : Dn.run np m body os = .ret o (outsL os δ) := by
  unfold Dn.run
  rw [if_neg (by simpa using hl), h]
theorem filter_true (ds : List D) : ds.filter (fun _ => true) = ds := by simp
theorem boolsOf_map {α : Type} (f : α → Bool) : ∀ ds : List α, boolsOf (ds.map fun d => .bl (f d)) = some (ds.map f)
  | [] => rfl
  | d :: ds => by simp [boolsOf, boolsOf_map f ds]
theorem allO_map {α : Type} (f : α → Bool) (ds : List α) : allO (.lst (ds.map fun d => .bl (f d))) = some (.d (.bl (ds.all f))) := by
  simp [allO, boolsOf_map, ob]
theorem anyO_map {α : Type} (f : α → Bool) (ds : List α) : anyO (.lst (ds.map fun d => .bl (f d))) = some (.d (.bl (ds.any f))) := by
  simp [anyO, boolsOf_map, ob]
end Dn
set_option autoImplicit false
set_option linter.all false
set_option maxRecDepth 100000
namespace Dn
open PySem
/-! ### how long what repr shows is -/
theorem toPL_map : ∀ xs : List D, toPL xs = xs.map toP
  | [] => rfl
  | x :: xs => by simp [toPL, toPL_map xs]
theorem shownAll_map : ∀ xs : List PyData, PyData.shownAll xs = xs.map PyData.shown
  | [] => rfl
  | x :: xs => by simp [PyData.shownAll, shownAll_map xs]
theorem showableAll_map : ∀ xs : List PyData, PyData.showableAll xs = xs.all PyData.showable
  | [] => rfl
  | x :: xs => by simp [PyData.showableAll, showableAll_map xs]
def smallC (x : Str) : Prop := ∀ c ∈ x.cps.toList, c < 16 ^ 8
theorem shown_str {x : Str} {n : Nat} (h : smallC x) (hl : x.length ≤ n) : (toP (.str x)).shown.length ≤ 10 * n + 2 := by
  simp only [toP, PyData.shown]
  have := PySem.StrLaws.reprText_len x h
  omega
theorem piled_le {n : Nat} : ∀ {ts : List Str}, (∀ t ∈ ts, t.length ≤ n) → PySem.piled ts ≤ (n + 2) * ts.length
  | [], _ => by simp [PySem.piled]
  | t :: ts, h => by
    rw [PySem.piled_cons, List.length_cons, Nat.mul_add]
    have := piled_le fun u hu => h u (List.mem_cons_of_mem _ hu)
    have := h t (List.mem_cons_self ..)
    omega
theorem shown_items {n : Nat} {xs : List D} (h : ∀ x ∈ xs, (toP x).shown.length ≤ n) : (∀ t ∈ PyData.shownAll (toPL xs), t.length ≤ n) ∧ (PyData.shownAll (toPL xs)).length = xs.length := by
  rw [shownAll_map, toPL_map, List.map_map]
  exact ⟨fun t ht => by
    obtain ⟨x, hx, rfl⟩ := List.mem_map.mp ht
    exact h x hx, by simp⟩
theorem shown_tup {n : Nat} {xs : List D} (h : ∀ x ∈ xs, (toP x).shown.length ≤ n) : (toP (.tup xs)).shown.length ≤ (n + 2) * xs.length + 4 := by
  obtain ⟨h1, h2⟩ := shown_items h
  simp only [toP, PyData.shown]
  generalize PyData.shownAll (toPL xs) = ts at h1 h2
  have hp := piled_le h1
  rw [h2] at hp
  unfold PySem.tupleText
  rw [Str.length_append, Str.length_append]
  have e1 : (("(" : String) : Str).length = 1 := rfl
  have e2 : ((if ts.length == 1 then ",)" else ")" : String) : Str).length ≤ 2 := by split <;> decide
  have e3 : (Str.join ", " ts).length ≤ PySem.piled ts := by
    by_cases hz : ts = []
    · subst hz; decide
    · have := PySem.join_length_add ts hz
      omega
  omega
theorem shown_lst {n : Nat} {xs : List D} (h : ∀ x ∈ xs, (toP x).shown.length ≤ n) : (toP (.lst xs)).shown.length ≤ (n + 2) * xs.length + 4 := by
  obtain ⟨h1, h2⟩ := shown_items h
  simp only [toP, PyData.shown]
  generalize PyData.shownAll (toPL xs) = ts at h1 h2
  have hp := piled_le h1
  rw [h2] at hp
  unfold PySem.listText
  rw [Str.length_append]
  have e1 : (("]" : String) : Str).length = 1 := rfl
  have e2 : (PySem.textFrom 0 "[" ts).length ≤ 1 + PySem.piled ts := by
    cases ts with
    | nil => decide
    | cons t r =>
      rw [PySem.piled_cons]
      have := PySem.textFrom_length_pos r 1 (("[" : Str) ++ ((if 0 > 0 then ", " else "" : String) : Str) ++ t) (by decide)
      show (PySem.textFrom 1 (("[" : Str) ++ ((if 0 > 0 then ", " else "" : String) : Str) ++ t) r).length ≤ _
      rw [this, Str.length_append, Str.length_append]
      have e1 : (("[" : String) : Str).length = 1 := rfl
      have e2 : ((if 0 > 0 then ", " else "" : String) : Str).length = 0 := by decide
      omega
  omega
theorem showable_tup {xs : List D} (h : ∀ x ∈ xs, (toP x).showable = true) : (toP (.tup xs)).showable = true := by
  simp only [toP, PyData.showable]
  rw [showableAll_map, toPL_map, List.all_map, List.all_eq_true]
  exact h
theorem showable_lst {xs : List D} (h : ∀ x ∈ xs, (toP x).showable = true) : (toP (.lst xs)).showable = true := by
  simp only [toP, PyData.showable]
  rw [showableAll_map, toPL_map, List.all_map, List.all_eq_true]
  exact h
structure Rp (d : D) (n k : Nat) : Prop where
  pl : plainD d = true
  dp : depD d ≤ k
  sh : (toP d).showable = true
  ln : (toP d).shown.length ≤ n
theorem Rp.mono {d : D} {n k n' k' : Nat} (h : Rp d n k) (hn : n ≤ n') (hk : k ≤ k') : Rp d n' k' := ⟨h.pl, Nat.le_trans h.dp hk, h.sh, Nat.le_trans h.ln hn⟩
theorem rp_str {x : Str} {n : Nat} (h : smallC x) (hl : x.length ≤ n) : Rp (.str x) (10 * n + 2) 0 := ⟨rfl, Nat.le_refl _, rfl, shown_str h hl⟩
theorem rp_non : Rp .non 4 0 := ⟨rfl, Nat.le_refl _, rfl, by decide⟩
theorem rp_items {n k : Nat} : ∀ {xs : List D}, (∀ x ∈ xs, Rp x n k) → plainL xs = true ∧ depL xs ≤ k
  | [], _ => ⟨rfl, Nat.zero_le _⟩
  | x :: xs, h => by
    obtain ⟨a, b⟩ := rp_items fun y hy => h y (List.mem_cons_of_mem _ hy)
    have hx := h x (List.mem_cons_self ..)
    exact ⟨by simp [plainL, a, hx.pl], by
      show max (depD x) (depL xs) ≤ k
      have := hx.dp
      omega⟩
theorem rp_tup {xs : List D} {n k : Nat} (h : ∀ x ∈ xs, Rp x n k) : Rp (.tup xs) ((n + 2) * xs.length + 4) (k + 1) :=
  ⟨(rp_items h).1, Nat.succ_le_succ (rp_items h).2, showable_tup fun x hx => (h x hx).sh, shown_tup fun x hx => (h x hx).ln⟩
theorem rp_lst {xs : List D} {n k : Nat} (h : ∀ x ∈ xs, Rp x n k) : Rp (.lst xs) ((n + 2) * xs.length + 4) (k + 1) :=
  ⟨(rp_items h).1, Nat.succ_le_succ (rp_items h).2, showable_lst fun x hx => (h x hx).sh, shown_lst fun x hx => (h x hx).ln⟩
theorem repr_tup {xs : List D} {n k : Nat} (h : Rp (.tup xs) n k) (hn : n ≤ 1000000) (hk : k ≤ 40) : reprO (.tup xs) = some (.d (.str (toP (.tup xs)).shown)) := by
  simp only [reprO]
  rw [if_pos ⟨h.pl, Nat.le_trans h.dp hk, h.sh, Nat.le_trans h.ln hn⟩]
theorem repr_lst {xs : List D} {n k : Nat} (h : Rp (.lst xs) n k) (hn : n ≤ 1000000) (hk : k ≤ 40) : reprO (.lst xs) = some (.d (.str (toP (.lst xs)).shown)) := by
  simp only [reprO]
  rw [if_pos ⟨h.pl, Nat.le_trans h.dp hk, h.sh, Nat.le_trans h.ln hn⟩]
end Dn
set_option autoImplicit false
set_option Elab.async false
set_option linter.all false
set_option maxRecDepth 100000
namespace Tk46
open PySem PySem.Spec PyProof.Rows L2 Dn
def topS (i : Nat) : Stmt := PySem.Challenge.pw_openlane_k46_texts_both_ways.main.body.getD i (.Pass ⟨0, 0, 0, 0⟩)
/-! is_car -/
abbrev s_is_car : Stmt := topS 14
theorem sc_is_car : FnScope ["value", "letter"] ["value"] (defScope s_is_car) := ⟨rfl, rfl, rfl, by decide +kernel, rfl, by decide +kernel, by decide +kernel⟩
def m_is_car : SM := sCons (sIf (tOrM (tNotM (tVal (e1 (isiO "str") (bVar 0)))) (tNotM (tVal (eChain leO leO (bVal (eC (D.int 1))) (bVal (eN (U1 lenO) (aCons (bVar 0) aNil))) (bVal (eC (D.int 4))))))) (sRet (eC (D.bl false))) (sNil)) (sRet (eN (U1 allO) (aCons (bVal (eLcH 0 [1] (gN 1) (tYesM) (e2 inO (bVar 1) (bVal (eC (D.str "abcdefghijklmnopqrstuvwxyz")))))) aNil)))
def f_is_car : Fn := run 1 1 m_is_car
theorem ok_is_car {P : Program} {w : World} {K : PySem.W.Frag} {mg : Str → Option Value} {base : Heap} {L : Lk} (M : Mo P w mg L) (F : DefK K mg "is_car" "is_car" s_is_car)
    (g_MAX_LETTERS : Con mg "MAX_LETTERS" (D.int 4))
    (g_LETTERS : Con mg "LETTERS" (D.str "abcdefghijklmnopqrstuvwxyz")) : FnO P w K mg base L "is_car" "is_car" s_is_car ["value"] f_is_car 1 :=
  F.run sc_is_car fun cdv A outer s H E lk f hr xo => have c : Ctx _ L E 0 := ⟨xo, sc_is_car.nd, hr, M.B, M.hP, M.hw, M.lf⟩;
    dsc (dif ((dorT (dnotT (dtst (disiStr c (dvar 0)))) (dorT1 (dnotT (dchainT op_leO op_leO (dval (dint)) (dval (dLen c (dvar 0))) (dval (dcon g_MAX_LETTERS)))))).pt) (ds1 (dret (dbl))) (dsn)) (ds1 (dret (dAll c (dval (dlcHC 0 [("letter", 1)] c (by rfl) (fun s H C cl fp c => dgN 1 c.hN) (fun s H C cl fp c => dts0) (fun s H C cl fp c => dcmp (op_inO c.hr.units c.hP c.hw) (dvar 1) (dval (dcon g_LETTERS))))))))
theorem b_is_car {K : PySem.W.Frag} (f : Addr) (fd : FuncData) (F : Fun K "is_car" "is_car" s_is_car f fd) : Binds K fd ["value"] [] := F.binds fun _ _ _ _ _ _ us hl => match us, hl with | [_], _ => rfl
/-! is_lane -/
abbrev s_is_lane : Stmt := topS 15
theorem sc_is_lane : FnScope ["value", "car"] ["value"] (defScope s_is_lane) := ⟨rfl, rfl, rfl, by decide +kernel, rfl, by decide +kernel, by decide +kernel⟩
def m_is_lane : SM := sRet (eAnd (e1 (isiO "tuple") (bVar 0)) (eAnd (eN (U1 allO) (aCons (bVal (eLcH 0 [1] (gN 1) (tYesM) (eCall 1 f_is_car (aCons (bVar 1) (aNil))))) aNil)) (e2 eqO (bVal (eN (U1 lenO) (aCons (bVal (eN (U1 setO) (aCons (bVar 0) aNil))) aNil))) (bVal (eN (U1 lenO) (aCons (bVar 0) aNil))))))
def f_is_lane : Fn := run 1 1 m_is_lane
theorem ok_is_lane {P : Program} {w : World} {K : PySem.W.Frag} {mg : Str → Option Value} {base : Heap} {L : Lk} (M : Mo P w mg L) (F : DefK K mg "is_lane" "is_lane" s_is_lane)
    (d_is_car : FnD P w K mg base L "is_car" 1 f_is_car 1) : FnO P w K mg base L "is_lane" "is_lane" s_is_lane ["value"] f_is_lane 2 :=
  F.run sc_is_lane fun cdv A outer s H E lk f hr xo => have c : Ctx _ L E 1 := ⟨xo, sc_is_lane.nd, hr, M.B, M.hP, M.hw, M.lf⟩;
    ds1 (dret (dandV (disiTuple c (dvar 0)) (dandV (dAll c (dval (dlcHC 0 [("car", 1)] c (by rfl) (fun s H C cl fp c => dgN 1 c.hN) (fun s H C cl fp c => dts0) (fun s H C cl fp c => dcall d_is_car c.xo c.hr (by decide) (dac (dvar 1) (dan)))))) (dandV1 (dcmp (op_eqO c.hr.units) (dval (dLen c (dval (dSet c (dvar 0))))) (dval (dLen c (dvar 0))))))))
theorem b_is_lane {K : PySem.W.Frag} (f : Addr) (fd : FuncData) (F : Fun K "is_lane" "is_lane" s_is_lane f fd) : Binds K fd ["value"] [] := F.binds fun _ _ _ _ _ _ us hl => match us, hl with | [_], _ => rfl
/-! is_side -/
abbrev s_is_side : Stmt := topS 16
theorem sc_is_side : FnScope ["value"] ["value"] (defScope s_is_side) := ⟨rfl, rfl, rfl, by decide +kernel, rfl, by decide +kernel, by decide +kernel⟩
def m_is_side : SM := sRet (eAnd (e1 (isiO "str") (bVar 0)) (e2 inO (bVar 0) (bVal (eDisp tupO (aCons (bVal (eC (D.str "L"))) (aCons (bVal (eC (D.str "R"))) (aNil)))))))
def f_is_side : Fn := run 1 0 m_is_side
theorem ok_is_side {P : Program} {w : World} {K : PySem.W.Frag} {mg : Str → Option Value} {base : Heap} {L : Lk} (M : Mo P w mg L) (F : DefK K mg "is_side" "is_side" s_is_side)
    (g_RIGHT : Con mg "RIGHT" (D.str "R"))
    (g_LEFT : Con mg "LEFT" (D.str "L")) : FnO P w K mg base L "is_side" "is_side" s_is_side ["value"] f_is_side 1 :=
  F.run sc_is_side fun cdv A outer s H E lk f hr xo => have c : Ctx _ L E 0 := ⟨xo, sc_is_side.nd, hr, M.B, M.hP, M.hw, M.lf⟩;
    ds1 (dret (dandV (disiStr c (dvar 0)) (dandV1 (dcmp (op_inO c.hr.units c.hP c.hw) (dvar 0) (dval (dTup (dac (dval (dcon g_LEFT)) (dac (dval (dcon g_RIGHT)) (dan)))))))))
theorem b_is_side {K : PySem.W.Frag} (f : Addr) (fd : FuncData) (F : Fun K "is_side" "is_side" s_is_side f fd) : Binds K fd ["value"] [] := F.binds fun _ _ _ _ _ _ us hl => match us, hl with | [_], _ => rfl
/-! is_arrival -/
abbrev s_is_arrival : Stmt := topS 17
theorem sc_is_arrival : FnScope ["value"] ["value"] (defScope s_is_arrival) := ⟨rfl, rfl, rfl, by decide +kernel, rfl, by decide +kernel, by decide +kernel⟩
def m_is_arrival : SM := sCons (sIf (tOrM (tNotM (tVal (e1 (isiO "tuple") (bVar 0)))) (tVal (e2 neO (bVal (eN (U1 lenO) (aCons (bVar 0) aNil))) (bVal (eC (D.int 2)))))) (sRet (eC (D.bl false))) (sNil)) (sRet (eAnd (e1 (isiO "str") (bVal (e2 ixO (bVar 0) (bVal (eC (D.int 0)))))) (eAnd (e2 eqO (bVal (e2 ixO (bVar 0) (bVal (eC (D.int 0))))) (bVal (eC (D.str "in")))) (eCall 1 f_is_car (aCons (bVal (e2 ixO (bVar 0) (bVal (eC (D.int 1))))) (aNil))))))
def f_is_arrival : Fn := run 1 0 m_is_arrival
theorem ok_is_arrival {P : Program} {w : World} {K : PySem.W.Frag} {mg : Str → Option Value} {base : Heap} {L : Lk} (M : Mo P w mg L) (F : DefK K mg "is_arrival" "is_arrival" s_is_arrival)
    (d_is_car : FnD P w K mg base L "is_car" 1 f_is_car 1)
    (g_IN : Con mg "IN" (D.str "in")) : FnO P w K mg base L "is_arrival" "is_arrival" s_is_arrival ["value"] f_is_arrival 2 :=
  F.run sc_is_arrival fun cdv A outer s H E lk f hr xo => have c : Ctx _ L E 1 := ⟨xo, sc_is_arrival.nd, hr, M.B, M.hP, M.hw, M.lf⟩;
    dsc (dif ((dorT (dnotT (dtst (disiTuple c (dvar 0)))) (dorT1 (dcmpT (op_neO c.hr.units) (dval (dLen c (dvar 0))) (dval (dint))))).pt) (ds1 (dret (dbl))) (dsn)) (ds1 (dret (dandV (disiStr c (dval (dIx (dvar 0) (dval (dint))))) (dandV (dcmp (op_eqO c.hr.units) (dval (dIx (dvar 0) (dval (dint)))) (dval (dcon g_IN))) (dandV1 (dcall d_is_car c.xo c.hr (by decide) (dac (dval (dIx (dvar 0) (dval (dint)))) (dan))))))))
theorem b_is_arrival {K : PySem.W.Frag} (f : Addr) (fd : FuncData) (F : Fun K "is_arrival" "is_arrival" s_is_arrival f fd) : Binds K fd ["value"] [] := F.binds fun _ _ _ _ _ _ us hl => match us, hl with | [_], _ => rfl
/-! is_departure -/
abbrev s_is_departure : Stmt := topS 18
theorem sc_is_departure : FnScope ["value"] ["value"] (defScope s_is_departure) := ⟨rfl, rfl, rfl, by decide +kernel, rfl, by decide +kernel, by decide +kernel⟩
def m_is_departure : SM := sRet (eAnd (e1 (isiO "tuple") (bVar 0)) (eAnd (e2 eqO (bVal (eN (U1 lenO) (aCons (bVar 0) aNil))) (bVal (eC (D.int 1)))) (eAnd (e1 (isiO "str") (bVal (e2 ixO (bVar 0) (bVal (eC (D.int 0)))))) (e2 eqO (bVal (e2 ixO (bVar 0) (bVal (eC (D.int 0))))) (bVal (eC (D.str "out")))))))
def f_is_departure : Fn := run 1 0 m_is_departure
theorem ok_is_departure {P : Program} {w : World} {K : PySem.W.Frag} {mg : Str → Option Value} {base : Heap} {L : Lk} (M : Mo P w mg L) (F : DefK K mg "is_departure" "is_departure" s_is_departure)
    (g_OUT : Con mg "OUT" (D.str "out")) : FnO P w K mg base L "is_departure" "is_departure" s_is_departure ["value"] f_is_departure 1 :=
  F.run sc_is_departure fun cdv A outer s H E lk f hr xo => have c : Ctx _ L E 0 := ⟨xo, sc_is_departure.nd, hr, M.B, M.hP, M.hw, M.lf⟩;
    ds1 (dret (dandV (disiTuple c (dvar 0)) (dandV (dcmp (op_eqO c.hr.units) (dval (dLen c (dvar 0))) (dval (dint))) (dandV (disiStr c (dval (dIx (dvar 0) (dval (dint))))) (dandV1 (dcmp (op_eqO c.hr.units) (dval (dIx (dvar 0) (dval (dint)))) (dval (dcon g_OUT))))))))
theorem b_is_departure {K : PySem.W.Frag} (f : Addr) (fd : FuncData) (F : Fun K "is_departure" "is_departure" s_is_departure f fd) : Binds K fd ["value"] [] := F.binds fun _ _ _ _ _ _ us hl => match us, hl with | [_], _ => rfl
/-! are_distinct -/
abbrev s_are_distinct : Stmt := topS 24
theorem sc_are_distinct : FnScope ["cars"] ["cars"] (defScope s_are_distinct) := ⟨rfl, rfl, rfl, by decide +kernel, rfl, by decide +kernel, by decide +kernel⟩
def m_are_distinct : SM := sRet (e2 eqO (bVal (eN (U1 lenO) (aCons (bVal (eN (U1 setO) (aCons (bVar 0) aNil))) aNil))) (bVal (eN (U1 lenO) (aCons (bVar 0) aNil))))
def f_are_distinct : Fn := run 1 0 m_are_distinct
theorem ok_are_distinct {P : Program} {w : World} {K : PySem.W.Frag} {mg : Str → Option Value} {base : Heap} {L : Lk} (M : Mo P w mg L) (F : DefK K mg "are_distinct" "are_distinct" s_are_distinct) : FnO P w K mg base L "are_distinct" "are_distinct" s_are_distinct ["cars"] f_are_distinct 1 :=
  F.run sc_are_distinct fun cdv A outer s H E lk f hr xo => have c : Ctx _ L E 0 := ⟨xo, sc_are_distinct.nd, hr, M.B, M.hP, M.hw, M.lf⟩;
    ds1 (dret (dcmp (op_eqO c.hr.units) (dval (dLen c (dval (dSet c (dvar 0))))) (dval (dLen c (dvar 0)))))
theorem b_are_distinct {K : PySem.W.Frag} (f : Addr) (fd : FuncData) (F : Fun K "are_distinct" "are_distinct" s_are_distinct f fd) : Binds K fd ["cars"] [] := F.binds fun _ _ _ _ _ _ us hl => match us, hl with | [_], _ => rfl
/-! is_some_log -/
abbrev s_is_some_log : Stmt := topS 25
theorem sc_is_some_log : FnScope ["value", "event"] ["value"] (defScope s_is_some_log) := ⟨rfl, rfl, rfl, by decide +kernel, rfl, by decide +kernel, by decide +kernel⟩
def m_is_some_log : SM := sCons (sIf (tOrM (tNotM (tVal (e1 (isiO "list") (bVar 0)))) (tNotM (tVal (eN (U1 allO) (aCons (bVal (eLcH 0 [1] (gN 1) (tYesM) (eOr (eCall 1 f_is_arrival (aCons (bVar 1) (aNil))) (eCall 1 f_is_departure (aCons (bVar 1) (aNil)))))) aNil))))) (sRet (eC (D.bl false))) (sNil)) (sRet (eCall 1 f_are_distinct (aCons (bVal (eLcH 0 [1] (gN 1) (tVal (e2 eqO (bVal (e2 ixO (bVar 1) (bVal (eC (D.int 0))))) (bVal (eC (D.str "in"))))) (e2 ixO (bVar 1) (bVal (eC (D.int 1)))))) (aNil))))
def f_is_some_log : Fn := run 1 1 m_is_some_log
theorem ok_is_some_log {P : Program} {w : World} {K : PySem.W.Frag} {mg : Str → Option Value} {base : Heap} {L : Lk} (M : Mo P w mg L) (F : DefK K mg "is_some_log" "is_some_log" s_is_some_log)
    (d_is_arrival : FnD P w K mg base L "is_arrival" 1 f_is_arrival 2)
    (d_is_departure : FnD P w K mg base L "is_departure" 1 f_is_departure 1)
    (d_are_distinct : FnD P w K mg base L "are_distinct" 1 f_are_distinct 1)
    (g_IN : Con mg "IN" (D.str "in")) : FnO P w K mg base L "is_some_log" "is_some_log" s_is_some_log ["value"] f_is_some_log 3 :=
  F.run sc_is_some_log fun cdv A outer s H E lk f hr xo => have c : Ctx _ L E 2 := ⟨xo, sc_is_some_log.nd, hr, M.B, M.hP, M.hw, M.lf⟩;
    dsc (dif ((dorT (dnotT (dtst (disiList c (dvar 0)))) (dorT1 (dnotT (dtst (dAll c (dval (dlcHC 0 [("event", 1)] c (by rfl) (fun s H C cl fp c => dgN 1 c.hN) (fun s H C cl fp c => dts0) (fun s H C cl fp c => dorV (dcall d_is_arrival c.xo c.hr (by decide) (dac (dvar 1) (dan))) (dandV1 (dcall d_is_departure c.xo c.hr (by decide) (dac (dvar 1) (dan)))))))))))).pt) (ds1 (dret (dbl))) (dsn)) (ds1 (dret (dcall d_are_distinct c.xo c.hr (by decide) (dac (dval (dlcHC 0 [("event", 1)] c (by rfl) (fun s H C cl fp c => dgN 1 c.hN) (fun s H C cl fp c => dts1 (dcmpT (op_eqO c.hr.units) (dval (dIx (dvar 1) (dval (dint)))) (dval (dcon g_IN)))) (fun s H C cl fp c => dIx (dvar 1) (dval (dint))))) (dan)))))
theorem b_is_some_log {K : PySem.W.Frag} (f : Addr) (fd : FuncData) (F : Fun K "is_some_log" "is_some_log" s_is_some_log f fd) : Binds K fd ["value"] [] := F.binds fun _ _ _ _ _ _ us hl => match us, hl with | [_], _ => rfl
/-! is_some_pattern -/
abbrev s_is_some_pattern : Stmt := topS 26
theorem sc_is_some_pattern : FnScope ["value", "entry"] ["value"] (defScope s_is_some_pattern) := ⟨rfl, rfl, rfl, by decide +kernel, rfl, by decide +kernel, by decide +kernel⟩
def m_is_some_pattern : SM := sCons (sIf (tOrM (tNotM (tVal (e1 (isiO "tuple") (bVar 0)))) (tNotM (tVal (eN (U1 allO) (aCons (bVal (eLcH 0 [1] (gN 1) (tYesM) (eOr (e2 isO (bVar 1) (bVal (eC D.non))) (eCall 1 f_is_car (aCons (bVar 1) (aNil)))))) aNil))))) (sRet (eC (D.bl false))) (sNil)) (sRet (eCall 1 f_are_distinct (aCons (bVal (eLcH 0 [1] (gN 1) (tVal (e2 notIsO (bVar 1) (bVal (eC D.non)))) (eVar 1))) (aNil))))
def f_is_some_pattern : Fn := run 1 1 m_is_some_pattern
theorem ok_is_some_pattern {P : Program} {w : World} {K : PySem.W.Frag} {mg : Str → Option Value} {base : Heap} {L : Lk} (M : Mo P w mg L) (F : DefK K mg "is_some_pattern" "is_some_pattern" s_is_some_pattern)
    (d_is_car : FnD P w K mg base L "is_car" 1 f_is_car 1)
    (d_are_distinct : FnD P w K mg base L "are_distinct" 1 f_are_distinct 1) : FnO P w K mg base L "is_some_pattern" "is_some_pattern" s_is_some_pattern ["value"] f_is_some_pattern 2 :=
  F.run sc_is_some_pattern fun cdv A outer s H E lk f hr xo => have c : Ctx _ L E 1 := ⟨xo, sc_is_some_pattern.nd, hr, M.B, M.hP, M.hw, M.lf⟩;
    dsc (dif ((dorT (dnotT (dtst (disiTuple c (dvar 0)))) (dorT1 (dnotT (dtst (dAll c (dval (dlcHC 0 [("entry", 1)] c (by rfl) (fun s H C cl fp c => dgN 1 c.hN) (fun s H C cl fp c => dts0) (fun s H C cl fp c => dorV (dcmp op_isO (dvar 1) (dval (dnon))) (dandV1 (dcall d_is_car c.xo c.hr (by decide) (dac (dvar 1) (dan)))))))))))).pt) (ds1 (dret (dbl))) (dsn)) (ds1 (dret (dcall d_are_distinct c.xo c.hr (by decide) (dac (dval (dlcHC 0 [("entry", 1)] c (by rfl) (fun s H C cl fp c => dgN 1 c.hN) (fun s H C cl fp c => dts1 (dcmpT op_notIsO (dvar 1) (dval (dnon)))) (fun s H C cl fp c => dvarE 1))) (dan)))))
theorem b_is_some_pattern {K : PySem.W.Frag} (f : Addr) (fd : FuncData) (F : Fun K "is_some_pattern" "is_some_pattern" s_is_some_pattern f fd) : Binds K fd ["value"] [] := F.binds fun _ _ _ _ _ _ us hl => match us, hl with | [_], _ => rfl
/-! format_lane -/
abbrev s_format_lane : Stmt := topS 27
theorem sc_format_lane : FnScope ["lane"] ["lane"] (defScope s_format_lane) := ⟨rfl, rfl, rfl, by decide +kernel, rfl, by decide +kernel, by decide +kernel⟩
def m_format_lane : SM := sCons (sIf (tNotM (tVal (eCall 1 f_is_lane (aCons (bVar 0) (aNil))))) (sRaise "InvalidLane") (sNil)) (sRet (e2T isStrD joinO (bVal (eC (D.str " "))) (bVar 0)))
def f_format_lane : Fn := run 1 0 m_format_lane
theorem ok_format_lane {P : Program} {w : World} {K : PySem.W.Frag} {mg : Str → Option Value} {base : Heap} {L : Lk} (M : Mo P w mg L) (F : DefK K mg "format_lane" "format_lane" s_format_lane)
    (d_is_lane : FnD P w K mg base L "is_lane" 1 f_is_lane 2)
    (g_SPACE : Con mg "SPACE" (D.str " "))
    (x_InvalidLane : ExcD K mg L "InvalidLane") : FnO P w K mg base L "format_lane" "format_lane" s_format_lane ["lane"] f_format_lane 3 :=
  F.run sc_format_lane fun cdv A outer s H E lk f hr xo => have c : Ctx _ L E 2 := ⟨xo, sc_format_lane.nd, hr, M.B, M.hP, M.hw, M.lf⟩;
    dsc (dif (dnotT (dtst (dcall d_is_lane c.xo c.hr (by decide) (dac (dvar 0) (dan))))) (ds1 (draise c x_InvalidLane)) (dsn)) (ds1 (dret (dJoin (dval (dcon g_SPACE)) (dvar 0))))
theorem b_format_lane {K : PySem.W.Frag} (f : Addr) (fd : FuncData) (F : Fun K "format_lane" "format_lane" s_format_lane f fd) : Binds K fd ["lane"] [] := F.binds fun _ _ _ _ _ _ us hl => match us, hl with | [_], _ => rfl
/-! format_log -/
abbrev s_format_log : Stmt := topS 28
theorem sc_format_log : FnScope ["log", "event"] ["log"] (defScope s_format_log) := ⟨rfl, rfl, rfl, by decide +kernel, rfl, by decide +kernel, by decide +kernel⟩
def m_format_log : SM := sCons (sIf (tNotM (tVal (eCall 1 f_is_some_log (aCons (bVar 0) (aNil))))) (sRaise "InvalidLog") (sNil)) (sRet (e2T isStrD joinO (bVal (eC (D.str " "))) (bVal (eLcH 0 [1] (gN 1) (tYesM) (eIf (tVal (e2 eqO (bVal (e2 ixO (bVar 1) (bVal (eC (D.int 0))))) (bVal (eC (D.str "in"))))) (eFs [eC (D.str "+"), e2 ixO (bVar 1) (bVal (eC (D.int 1)))] Str.empty) (eC (D.str "-")))))))
def f_format_log : Fn := run 1 1 m_format_log
theorem ok_format_log {P : Program} {w : World} {K : PySem.W.Frag} {mg : Str → Option Value} {base : Heap} {L : Lk} (M : Mo P w mg L) (F : DefK K mg "format_log" "format_log" s_format_log)
    (d_is_some_log : FnD P w K mg base L "is_some_log" 1 f_is_some_log 3)
    (g_SPACE : Con mg "SPACE" (D.str " "))
    (g_IN : Con mg "IN" (D.str "in"))
    (g_ARRIVAL : Con mg "ARRIVAL" (D.str "+"))
    (g_DEPARTURE : Con mg "DEPARTURE" (D.str "-"))
    (x_InvalidLog : ExcD K mg L "InvalidLog") : FnO P w K mg base L "format_log" "format_log" s_format_log ["log"] f_format_log 4 :=
  F.run sc_format_log fun cdv A outer s H E lk f hr xo => have c : Ctx _ L E 3 := ⟨xo, sc_format_log.nd, hr, M.B, M.hP, M.hw, M.lf⟩;
    dsc (dif (dnotT (dtst (dcall d_is_some_log c.xo c.hr (by decide) (dac (dvar 0) (dan))))) (ds1 (draise c x_InvalidLog)) (dsn)) (ds1 (dret (dJoin (dval (dcon g_SPACE)) (dval (dlcHC 0 [("event", 1)] c (by rfl) (fun s H C cl fp c => dgN 1 c.hN) (fun s H C cl fp c => dts0) (fun s H C cl fp c => difE (dcmpT (op_eqO c.hr.units) (dval (dIx (dvar 1) (dval (dint)))) (dval (dcon g_IN))) (dFs2 (dcon g_ARRIVAL) (dIx (dvar 1) (dval (dint)))) (dcon g_DEPARTURE)))))))
theorem b_format_log {K : PySem.W.Frag} (f : Addr) (fd : FuncData) (F : Fun K "format_log" "format_log" s_format_log f fd) : Binds K fd ["log"] [] := F.binds fun _ _ _ _ _ _ us hl => match us, hl with | [_], _ => rfl
/-! format_sides -/
abbrev s_format_sides : Stmt := topS 29
theorem sc_format_sides : FnScope ["sides", "side"] ["sides"] (defScope s_format_sides) := ⟨rfl, rfl, rfl, by decide +kernel, rfl, by decide +kernel, by decide +kernel⟩
def m_format_sides : SM := sCons (sIf (tOrM (tNotM (tVal (e1 (isiO "list") (bVar 0)))) (tNotM (tVal (eN (U1 allO) (aCons (bVal (eLcH 0 [1] (gN 1) (tYesM) (eCall 1 f_is_side (aCons (bVar 1) (aNil))))) aNil))))) (sRaise "InvalidSides") (sNil)) (sRet (e2T isStrD joinO (bVal (eC (D.str ""))) (bVar 0)))
def f_format_sides : Fn := run 1 1 m_format_sides
theorem ok_format_sides {P : Program} {w : World} {K : PySem.W.Frag} {mg : Str → Option Value} {base : Heap} {L : Lk} (M : Mo P w mg L) (F : DefK K mg "format_sides" "format_sides" s_format_sides)
    (d_is_side : FnD P w K mg base L "is_side" 1 f_is_side 1)
    (x_InvalidSides : ExcD K mg L "InvalidSides") : FnO P w K mg base L "format_sides" "format_sides" s_format_sides ["sides"] f_format_sides 2 :=
  F.run sc_format_sides fun cdv A outer s H E lk f hr xo => have c : Ctx _ L E 1 := ⟨xo, sc_format_sides.nd, hr, M.B, M.hP, M.hw, M.lf⟩;
    dsc (dif ((dorT (dnotT (dtst (disiList c (dvar 0)))) (dorT1 (dnotT (dtst (dAll c (dval (dlcHC 0 [("side", 1)] c (by rfl) (fun s H C cl fp c => dgN 1 c.hN) (fun s H C cl fp c => dts0) (fun s H C cl fp c => dcall d_is_side c.xo c.hr (by decide) (dac (dvar 1) (dan)))))))))).pt) (ds1 (draise c x_InvalidSides)) (dsn)) (ds1 (dret (dJoin (dval (dstr)) (dvar 0))))
theorem b_format_sides {K : PySem.W.Frag} (f : Addr) (fd : FuncData) (F : Fun K "format_sides" "format_sides" s_format_sides f fd) : Binds K fd ["sides"] [] := F.binds fun _ _ _ _ _ _ us hl => match us, hl with | [_], _ => rfl
/-! format_pattern -/
abbrev s_format_pattern : Stmt := topS 30
theorem sc_format_pattern : FnScope ["pattern", "entry"] ["pattern"] (defScope s_format_pattern) := ⟨rfl, rfl, rfl, by decide +kernel, rfl, by decide +kernel, by decide +kernel⟩
def m_format_pattern : SM := sCons (sIf (tNotM (tVal (eCall 1 f_is_some_pattern (aCons (bVar 0) (aNil))))) (sRaise "InvalidPattern") (sNil)) (sRet (e2T isStrD joinO (bVal (eC (D.str " "))) (bVal (eLcH 0 [1] (gN 1) (tYesM) (eIf (tVal (e2 isO (bVar 1) (bVal (eC D.non)))) (eC (D.str "?")) (eVar 1))))))
def f_format_pattern : Fn := run 1 1 m_format_pattern
theorem ok_format_pattern {P : Program} {w : World} {K : PySem.W.Frag} {mg : Str → Option Value} {base : Heap} {L : Lk} (M : Mo P w mg L) (F : DefK K mg "format_pattern" "format_pattern" s_format_pattern)
    (d_is_some_pattern : FnD P w K mg base L "is_some_pattern" 1 f_is_some_pattern 2)
    (g_SPACE : Con mg "SPACE" (D.str " "))
    (g_UNKNOWN : Con mg "UNKNOWN" (D.str "?"))
    (x_InvalidPattern : ExcD K mg L "InvalidPattern") : FnO P w K mg base L "format_pattern" "format_pattern" s_format_pattern ["pattern"] f_format_pattern 3 :=
  F.run sc_format_pattern fun cdv A outer s H E lk f hr xo => have c : Ctx _ L E 2 := ⟨xo, sc_format_pattern.nd, hr, M.B, M.hP, M.hw, M.lf⟩;
    dsc (dif (dnotT (dtst (dcall d_is_some_pattern c.xo c.hr (by decide) (dac (dvar 0) (dan))))) (ds1 (draise c x_InvalidPattern)) (dsn)) (ds1 (dret (dJoin (dval (dcon g_SPACE)) (dval (dlcHC 0 [("entry", 1)] c (by rfl) (fun s H C cl fp c => dgN 1 c.hN) (fun s H C cl fp c => dts0) (fun s H C cl fp c => difE (dcmpT op_isO (dvar 1) (dval (dnon))) (dcon g_UNKNOWN) (dvarE 1)))))))
theorem b_format_pattern {K : PySem.W.Frag} (f : Addr) (fd : FuncData) (F : Fun K "format_pattern" "format_pattern" s_format_pattern f fd) : Binds K fd ["pattern"] [] := F.binds fun _ _ _ _ _ _ us hl => match us, hl with | [_], _ => rfl
def tab0 : Str → Option (Nat × Fn) := fun x => if x = "format_lane" then some (1, f_format_lane) else if x = "format_log" then some (1, f_format_log) else if x = "format_sides" then some (1, f_format_sides) else if x = "format_pattern" then some (1, f_format_pattern) else none
theorem tab0_all {P : Program} {w : World} {K : PySem.W.Frag} {mg : Str → Option Value} {base : Heap} {L : Lk} {k : Nat} (h0 : FnD P w K mg base L "format_lane" 1 f_format_lane k) (h1 : FnD P w K mg base L "format_log" 1 f_format_log k) (h2 : FnD P w K mg base L "format_sides" 1 f_format_sides k) (h3 : FnD P w K mg base L "format_pattern" 1 f_format_pattern k) : ∀ x np m, tab0 x = some (np, m) → FnD P w K mg base L x np m k := by
  intro x np m h
  unfold tab0 at h
  repeat (first | (split at h; (rename_i hx; subst hx; cases h; assumption)) | (cases h; done))
theorem tab0_allK {P : Program} {w : World} {K : PySem.W.Frag} {mg : Str → Option Value} {base : Heap} {L : Lk} {k : Nat} {ks : List Str} {perm : List Nat} (h0 : FnDK P w K mg base L "format_lane" 1 f_format_lane k ks perm) (h1 : FnDK P w K mg base L "format_log" 1 f_format_log k ks perm) (h2 : FnDK P w K mg base L "format_sides" 1 f_format_sides k ks perm) (h3 : FnDK P w K mg base L "format_pattern" 1 f_format_pattern k ks perm) : ∀ x np m, tab0 x = some (np, m) → FnDK P w K mg base L x np m k ks perm := by
  intro x np m h
  unfold tab0 at h
  repeat (first | (split at h; (rename_i hx; subst hx; cases h; assumption)) | (cases h; done))
/-! words_of -/
abbrev s_words_of : Stmt := topS 31
theorem sc_words_of : FnScope ["text"] ["text"] (defScope s_words_of) := ⟨rfl, rfl, rfl, by decide +kernel, rfl, by decide +kernel, by decide +kernel⟩
def m_words_of : SM := sCons (sIf (tNotM (tVal (e1 (isiO "str") (bVar 0)))) (sRaise "InvalidText") (sNil)) (sRet (eIf (tVal (e2 neO (bVar 0) (bVal (eC (D.str ""))))) (e2T isStrD splitO (bVar 0) (bVal (eC (D.str " ")))) (eDisp lstO (aNil))))
def f_words_of : Fn := run 1 0 m_words_of
theorem ok_words_of {P : Program} {w : World} {K : PySem.W.Frag} {mg : Str → Option Value} {base : Heap} {L : Lk} (M : Mo P w mg L) (F : DefK K mg "words_of" "words_of" s_words_of)
    (g_SPACE : Con mg "SPACE" (D.str " "))
    (x_InvalidText : ExcD K mg L "InvalidText") : FnO P w K mg base L "words_of" "words_of" s_words_of ["text"] f_words_of 1 :=
  F.run sc_words_of fun cdv A outer s H E lk f hr xo => have c : Ctx _ L E 0 := ⟨xo, sc_words_of.nd, hr, M.B, M.hP, M.hw, M.lf⟩;
    dsc (dif (dnotT (dtst (disiStr c (dvar 0)))) (ds1 (draise c x_InvalidText)) (dsn)) (ds1 (dret (difE (dcmpT (op_neO c.hr.units) (dvar 0) (dval (dstr))) (dSplit (dvar 0) (dval (dcon g_SPACE))) (dLst (dan)))))
theorem b_words_of {K : PySem.W.Frag} (f : Addr) (fd : FuncData) (F : Fun K "words_of" "words_of" s_words_of f fd) : Binds K fd ["text"] [] := F.binds fun _ _ _ _ _ _ us hl => match us, hl with | [_], _ => rfl
/-! check_text -/
abbrev s_check_text : Stmt := topS 32
theorem sc_check_text : FnScope ["is_valid"] ["is_valid"] (defScope s_check_text) := ⟨rfl, rfl, rfl, by decide +kernel, rfl, by decide +kernel, by decide +kernel⟩
def m_check_text : SM := sIf (tNotM (tVal (eVar 0))) (sRaise "InvalidText") (sNil)
def f_check_text : Fn := run 1 0 m_check_text
theorem ok_check_text {P : Program} {w : World} {K : PySem.W.Frag} {mg : Str → Option Value} {base : Heap} {L : Lk} (M : Mo P w mg L) (F : DefK K mg "check_text" "check_text" s_check_text)
    (x_InvalidText : ExcD K mg L "InvalidText") : FnO P w K mg base L "check_text" "check_text" s_check_text ["is_valid"] f_check_text 1 :=
  F.run sc_check_text fun cdv A outer s H E lk f hr xo => have c : Ctx _ L E 0 := ⟨xo, sc_check_text.nd, hr, M.B, M.hP, M.hw, M.lf⟩;
    ds1 (dif (dnotT (dtst (dvarE 0))) (ds1 (draise c x_InvalidText)) (dsn))
theorem b_check_text {K : PySem.W.Frag} (f : Addr) (fd : FuncData) (F : Fun K "check_text" "check_text" s_check_text f fd) : Binds K fd ["is_valid"] [] := F.binds fun _ _ _ _ _ _ us hl => match us, hl with | [_], _ => rfl
/-! parse_lane -/
abbrev s_parse_lane : Stmt := topS 33
theorem sc_parse_lane : FnScope ["text", "lane"] ["text"] (defScope s_parse_lane) := ⟨rfl, rfl, rfl, by decide +kernel, rfl, by decide +kernel, by decide +kernel⟩
def m_parse_lane : SM := sCons (sSet 1 (eN (U1 tupleO) (aCons (bVal (eCall 1 f_words_of (aCons (bVar 0) (aNil)))) aNil))) (sCons (sExpr (eCall 1 f_check_text (aCons (bVal (eCall 1 f_is_lane (aCons (bVar 1) (aNil)))) (aNil)))) (sRetV 1))
def f_parse_lane : Fn := run 1 1 m_parse_lane
theorem ok_parse_lane {P : Program} {w : World} {K : PySem.W.Frag} {mg : Str → Option Value} {base : Heap} {L : Lk} (M : Mo P w mg L) (F : DefK K mg "parse_lane" "parse_lane" s_parse_lane)
    (d_words_of : FnD P w K mg base L "words_of" 1 f_words_of 1)
    (d_check_text : FnD P w K mg base L "check_text" 1 f_check_text 1)
    (d_is_lane : FnD P w K mg base L "is_lane" 1 f_is_lane 2) : FnO P w K mg base L "parse_lane" "parse_lane" s_parse_lane ["text"] f_parse_lane 3 :=
  F.run sc_parse_lane fun cdv A outer s H E lk f hr xo => have c : Ctx _ L E 2 := ⟨xo, sc_parse_lane.nd, hr, M.B, M.hP, M.hw, M.lf⟩;
    dsc (dset 1 c.hN (dTuple c (dval (dcall d_words_of c.xo c.hr (by decide) (dac (dvar 0) (dan)))))) (dsc (dsx (dcall d_check_text c.xo c.hr (by decide) (dac (dval (dcall d_is_lane c.xo c.hr (by decide) (dac (dvar 1) (dan)))) (dan)))) (ds1 (dretV 1)))
theorem b_parse_lane {K : PySem.W.Frag} (f : Addr) (fd : FuncData) (F : Fun K "parse_lane" "parse_lane" s_parse_lane f fd) : Binds K fd ["text"] [] := F.binds fun _ _ _ _ _ _ us hl => match us, hl with | [_], _ => rfl
/-! event_of -/
abbrev s_event_of : Stmt := topS 34
theorem sc_event_of : FnScope ["word"] ["word"] (defScope s_event_of) := ⟨rfl, rfl, rfl, by decide +kernel, rfl, by decide +kernel, by decide +kernel⟩
def m_event_of : SM := sCons (sIf (tVal (e2 eqO (bVar 0) (bVal (eC (D.str "-"))))) (sRet (eDisp tupO (aCons (bVal (eC (D.str "out"))) (aNil)))) (sNil)) (sRet (eIf (tVal (e2 eqO (bVal (eCut cutO (bVar 0) (pNone) (pSome (eC (D.int 1))))) (bVal (eC (D.str "+"))))) (eDisp tupO (aCons (bVal (eC (D.str "in"))) (aCons (bVal (eCut cutO (bVar 0) (pSome (eC (D.int 1))) (pNone))) (aNil)))) (eC D.non)))
def f_event_of : Fn := run 1 0 m_event_of
theorem ok_event_of {P : Program} {w : World} {K : PySem.W.Frag} {mg : Str → Option Value} {base : Heap} {L : Lk} (M : Mo P w mg L) (F : DefK K mg "event_of" "event_of" s_event_of)
    (g_DEPARTURE : Con mg "DEPARTURE" (D.str "-"))
    (g_OUT : Con mg "OUT" (D.str "out"))
    (g_ARRIVAL : Con mg "ARRIVAL" (D.str "+"))
    (g_IN : Con mg "IN" (D.str "in")) : FnO P w K mg base L "event_of" "event_of" s_event_of ["word"] f_event_of 1 :=
  F.run sc_event_of fun cdv A outer s H E lk f hr xo => have c : Ctx _ L E 0 := ⟨xo, sc_event_of.nd, hr, M.B, M.hP, M.hw, M.lf⟩;
    dsc (dif (dcmpT (op_eqO c.hr.units) (dvar 0) (dval (dcon g_DEPARTURE))) (ds1 (dret (dTup (dac (dval (dcon g_OUT)) (dan))))) (dsn)) (ds1 (dret (difE (dcmpT (op_eqO c.hr.units) (dval (dCut (dvar 0) (dp0) (dp1 (dint)))) (dval (dcon g_ARRIVAL))) (dTup (dac (dval (dcon g_IN)) (dac (dval (dCut (dvar 0) (dp1 (dint)) (dp0))) (dan)))) (dnon))))
theorem b_event_of {K : PySem.W.Frag} (f : Addr) (fd : FuncData) (F : Fun K "event_of" "event_of" s_event_of f fd) : Binds K fd ["word"] [] := F.binds fun _ _ _ _ _ _ us hl => match us, hl with | [_], _ => rfl
/-! parse_log -/
abbrev s_parse_log : Stmt := topS 35
theorem sc_parse_log : FnScope ["text", "log", "word"] ["text"] (defScope s_parse_log) := ⟨rfl, rfl, rfl, by decide +kernel, rfl, by decide +kernel, by decide +kernel⟩
def m_parse_log : SM := sCons (sSet 1 (eLc (iSeq (eCall 1 f_words_of (aCons (bVar 0) (aNil)))) [2] (gN 2) (tYesM) (eCall 1 f_event_of (aCons (bVar 2) (aNil))))) (sCons (sExpr (eCall 1 f_check_text (aCons (bVal (eCall 1 f_is_some_log (aCons (bVar 1) (aNil)))) (aNil)))) (sRetV 1))
def f_parse_log : Fn := run 1 2 m_parse_log
theorem ok_parse_log {P : Program} {w : World} {K : PySem.W.Frag} {mg : Str → Option Value} {base : Heap} {L : Lk} (M : Mo P w mg L) (F : DefK K mg "parse_log" "parse_log" s_parse_log)
    (d_event_of : FnD P w K mg base L "event_of" 1 f_event_of 1)
    (d_words_of : FnD P w K mg base L "words_of" 1 f_words_of 1)
    (d_check_text : FnD P w K mg base L "check_text" 1 f_check_text 1)
    (d_is_some_log : FnD P w K mg base L "is_some_log" 1 f_is_some_log 3) : FnO P w K mg base L "parse_log" "parse_log" s_parse_log ["text"] f_parse_log 4 :=
  F.run sc_parse_log fun cdv A outer s H E lk f hr xo => have c : Ctx _ L E 3 := ⟨xo, sc_parse_log.nd, hr, M.B, M.hP, M.hw, M.lf⟩;
    dsc (dsetLcC 1 [("word", 2)] c (diSeq (dcall d_words_of c.xo c.hr (by decide) (dac (dvar 0) (dan)))) (by rfl) (fun s H C cl fp c => dgN 2 c.hN) (fun s H C cl fp c => dts0) (fun s H C cl fp c => dcall d_event_of c.xo c.hr (by decide) (dac (dvar 2) (dan)))) (dsc (dsx (dcall d_check_text c.xo c.hr (by decide) (dac (dval (dcall d_is_some_log c.xo c.hr (by decide) (dac (dvar 1) (dan)))) (dan)))) (ds1 (dretV 1)))
theorem b_parse_log {K : PySem.W.Frag} (f : Addr) (fd : FuncData) (F : Fun K "parse_log" "parse_log" s_parse_log f fd) : Binds K fd ["text"] [] := F.binds fun _ _ _ _ _ _ us hl => match us, hl with | [_], _ => rfl
/-! parse_sides -/
abbrev s_parse_sides : Stmt := topS 36
theorem sc_parse_sides : FnScope ["text", "sides", "side"] ["text"] (defScope s_parse_sides) := ⟨rfl, rfl, rfl, by decide +kernel, rfl, by decide +kernel, by decide +kernel⟩
def m_parse_sides : SM := sCons (sIf (tNotM (tVal (e1 (isiO "str") (bVar 0)))) (sRaise "InvalidText") (sNil)) (sCons (sSet 1 (eN (U1 listO) (aCons (bVar 0) aNil))) (sCons (sExpr (eCall 1 f_check_text (aCons (bVal (eN (U1 allO) (aCons (bVal (eLcH 1 [2] (gN 2) (tYesM) (eCall 1 f_is_side (aCons (bVar 2) (aNil))))) aNil))) (aNil)))) (sRetV 1)))
def f_parse_sides : Fn := run 1 2 m_parse_sides
theorem ok_parse_sides {P : Program} {w : World} {K : PySem.W.Frag} {mg : Str → Option Value} {base : Heap} {L : Lk} (M : Mo P w mg L) (F : DefK K mg "parse_sides" "parse_sides" s_parse_sides)
    (d_check_text : FnD P w K mg base L "check_text" 1 f_check_text 1)
    (d_is_side : FnD P w K mg base L "is_side" 1 f_is_side 1)
    (x_InvalidText : ExcD K mg L "InvalidText") : FnO P w K mg base L "parse_sides" "parse_sides" s_parse_sides ["text"] f_parse_sides 2 :=
  F.run sc_parse_sides fun cdv A outer s H E lk f hr xo => have c : Ctx _ L E 1 := ⟨xo, sc_parse_sides.nd, hr, M.B, M.hP, M.hw, M.lf⟩;
    dsc (dif (dnotT (dtst (disiStr c (dvar 0)))) (ds1 (draise c x_InvalidText)) (dsn)) (dsc (dset 1 c.hN (dList c (dvar 0))) (dsc (dsx (dcall d_check_text c.xo c.hr (by decide) (dac (dval (dAll c (dval (dlcHC 1 [("side", 2)] c (by rfl) (fun s H C cl fp c => dgN 2 c.hN) (fun s H C cl fp c => dts0) (fun s H C cl fp c => dcall d_is_side c.xo c.hr (by decide) (dac (dvar 2) (dan))))))) (dan)))) (ds1 (dretV 1))))
theorem b_parse_sides {K : PySem.W.Frag} (f : Addr) (fd : FuncData) (F : Fun K "parse_sides" "parse_sides" s_parse_sides f fd) : Binds K fd ["text"] [] := F.binds fun _ _ _ _ _ _ us hl => match us, hl with | [_], _ => rfl
/-! parse_pattern -/
abbrev s_parse_pattern : Stmt := topS 37
theorem sc_parse_pattern : FnScope ["text", "pattern", "word"] ["text"] (defScope s_parse_pattern) := ⟨rfl, rfl, rfl, by decide +kernel, rfl, by decide +kernel, by decide +kernel⟩
def m_parse_pattern : SM := sCons (sSet 1 (eN (U1 tupleO) (aCons (bVal (eLc (iSeq (eCall 1 f_words_of (aCons (bVar 0) (aNil)))) [2] (gN 2) (tYesM) (eIf (tVal (e2 eqO (bVar 2) (bVal (eC (D.str "?"))))) (eC D.non) (eVar 2)))) aNil))) (sCons (sExpr (eCall 1 f_check_text (aCons (bVal (eCall 1 f_is_some_pattern (aCons (bVar 1) (aNil)))) (aNil)))) (sRetV 1))
def f_parse_pattern : Fn := run 1 2 m_parse_pattern
theorem ok_parse_pattern {P : Program} {w : World} {K : PySem.W.Frag} {mg : Str → Option Value} {base : Heap} {L : Lk} (M : Mo P w mg L) (F : DefK K mg "parse_pattern" "parse_pattern" s_parse_pattern)
    (d_words_of : FnD P w K mg base L "words_of" 1 f_words_of 1)
    (d_check_text : FnD P w K mg base L "check_text" 1 f_check_text 1)
    (d_is_some_pattern : FnD P w K mg base L "is_some_pattern" 1 f_is_some_pattern 2)
    (g_UNKNOWN : Con mg "UNKNOWN" (D.str "?")) : FnO P w K mg base L "parse_pattern" "parse_pattern" s_parse_pattern ["text"] f_parse_pattern 3 :=
  F.run sc_parse_pattern fun cdv A outer s H E lk f hr xo => have c : Ctx _ L E 2 := ⟨xo, sc_parse_pattern.nd, hr, M.B, M.hP, M.hw, M.lf⟩;
    dsc (dset 1 c.hN (dTuple c (dval (dlcC [("word", 2)] c (diSeq (dcall d_words_of c.xo c.hr (by decide) (dac (dvar 0) (dan)))) (by rfl) (fun s H C cl fp c => dgN 2 c.hN) (fun s H C cl fp c => dts0) (fun s H C cl fp c => difE (dcmpT (op_eqO c.hr.units) (dvar 2) (dval (dcon g_UNKNOWN))) (dnon) (dvarE 2)))))) (dsc (dsx (dcall d_check_text c.xo c.hr (by decide) (dac (dval (dcall d_is_some_pattern c.xo c.hr (by decide) (dac (dvar 1) (dan)))) (dan)))) (ds1 (dretV 1)))
theorem b_parse_pattern {K : PySem.W.Frag} (f : Addr) (fd : FuncData) (F : Fun K "parse_pattern" "parse_pattern" s_parse_pattern f fd) : Binds K fd ["text"] [] := F.binds fun _ _ _ _ _ _ us hl => match us, hl with | [_], _ => rfl
def tab1 : Str → Option (Nat × Fn) := fun x => if x = "parse_lane" then some (1, f_parse_lane) else if x = "parse_log" then some (1, f_parse_log) else if x = "parse_sides" then some (1, f_parse_sides) else if x = "parse_pattern" then some (1, f_parse_pattern) else none
theorem tab1_all {P : Program} {w : World} {K : PySem.W.Frag} {mg : Str → Option Value} {base : Heap} {L : Lk} {k : Nat} (h0 : FnD P w K mg base L "parse_lane" 1 f_parse_lane k) (h1 : FnD P w K mg base L "parse_log" 1 f_parse_log k) (h2 : FnD P w K mg base L "parse_sides" 1 f_parse_sides k) (h3 : FnD P w K mg base L "parse_pattern" 1 f_parse_pattern k) : ∀ x np m, tab1 x = some (np, m) → FnD P w K mg base L x np m k := by
  intro x np m h
  unfold tab1 at h
  repeat (first | (split at h; (rename_i hx; subst hx; cases h; assumption)) | (cases h; done))
theorem tab1_allK {P : Program} {w : World} {K : PySem.W.Frag} {mg : Str → Option Value} {base : Heap} {L : Lk} {k : Nat} {ks : List Str} {perm : List Nat} (h0 : FnDK P w K mg base L "parse_lane" 1 f_parse_lane k ks perm) (h1 : FnDK P w K mg base L "parse_log" 1 f_parse_log k ks perm) (h2 : FnDK P w K mg base L "parse_sides" 1 f_parse_sides k ks perm) (h3 : FnDK P w K mg base L "parse_pattern" 1 f_parse_pattern k ks perm) : ∀ x np m, tab1 x = some (np, m) → FnDK P w K mg base L x np m k ks perm := by
  intro x np m h
  unfold tab1 at h
  repeat (first | (split at h; (rename_i hx; subst hx; cases h; assumption)) | (cases h; done))
/-! _law_source -/
abbrev s__law_source : Stmt := topS 39
theorem sc__law_source : FnScope ["script", "k", "cell"] ["script", "k"] (defScope s__law_source) := ⟨rfl, rfl, rfl, by decide +kernel, rfl, by decide +kernel, by decide +kernel⟩
def m__law_source : SM := sCons (sSet 2 (eIf (tVal (e2 ltO (bVar 1) (bVal (eN (U1 lenO) (aCons (bVar 0) aNil))))) (e2 ixO (bVar 0) (bVar 1)) (eC (D.int 0)))) (sRet (eDisp lstO (aCons (bVal (eN (U2 max2O) (aCons (bVal (eC (D.int 0))) (aCons (bVal (e2 subO (bVal (eN (U1 absO) (aCons (bVar 2) aNil))) (bVal (e2 powO (bVal (eC (D.int 10))) (bVal (eC (D.int 18))))))) aNil)))) (aCons (bVal (e2 addO (bVal (e2 modO (bVar 2) (bVal (e2 addO (bVal (e2 powO (bVal (eC (D.int 10))) (bVal (eC (D.int 38))))) (bVal (eC (D.int 133))))))) (bVal (e2 mulO (bVal (eC (D.int 31607))) (bVar 1))))) (aCons (bVal (eC (D.int 0))) (aNil))))))
def f__law_source : Fn := run 2 1 m__law_source
theorem ok__law_source {P : Program} {w : World} {K : PySem.W.Frag} {mg : Str → Option Value} {base : Heap} {L : Lk} (M : Mo P w mg L) (F : DefK K mg "_law_source" "_law_source" s__law_source) : FnO P w K mg base L "_law_source" "_law_source" s__law_source ["script", "k"] f__law_source 1 :=
  F.run sc__law_source fun cdv A outer s H E lk f hr xo => have c : Ctx _ L E 0 := ⟨xo, sc__law_source.nd, hr, M.B, M.hP, M.hw, M.lf⟩;
    dsc (dset 2 c.hN (difE (dcmpT op_ltO (dvar 1) (dval (dLen c (dvar 0)))) (dIx (dvar 0) (dvar 1)) (dint))) (ds1 (dret (dLst (dac (dval (dMax2 c (dval (dint)) (dval (dSub (dval (dAbs c (dvar 2))) (dval (dPow (dval (dint)) (dval (dint)))))))) (dac (dval (dAdd (dval (dMod (dvar 2) (dval (dAdd (dval (dPow (dval (dint)) (dval (dint)))) (dval (dint)))))) (dval (dMul (dval (dint)) (dvar 1))))) (dac (dval (dint)) (dan)))))))
theorem b__law_source {K : PySem.W.Frag} (f : Addr) (fd : FuncData) (F : Fun K "_law_source" "_law_source" s__law_source f fd) : Binds K fd ["script", "k"] [] := F.binds fun _ _ _ _ _ _ us hl => match us, hl with | [_, _], _ => rfl
/-! _law_draw -/
abbrev s__law_draw : Stmt := topS 40
theorem sc__law_draw : FnScope ["source", "limit", "found", "mixed"] ["source", "limit"] (defScope s__law_draw) := ⟨rfl, rfl, rfl, by decide +kernel, rfl, by decide +kernel, by decide +kernel⟩
def m__law_draw : SM := sCons (sIf (tVal (e2 gtO (bVal (e2 ixO (bVar 0) (bVal (eC (D.int 0))))) (bVal (eC (D.int 0))))) (sCons (sSet 2 (e2 modO (bVal (e2 ixO (bVar 0) (bVal (eC (D.int 0))))) (bVar 1))) (sCons (sPut 0 putAt (bVal (eC (D.int 0))) (e2 fdivO (bVal (e2 ixO (bVar 0) (bVal (eC (D.int 0))))) (bVar 1))) (sRetV 2))) (sNil)) (sCons (sPut 0 putAt (bVal (eC (D.int 2))) (e2 addO (bVal (e2 ixO (bVar 0) (bVal (eC (D.int 2))))) (bVal (eC (D.int 1))))) (sCons (sSet 3 (e2 modO (bVal (e2 powO (bVal (e2 addO (bVal (e2 ixO (bVar 0) (bVal (eC (D.int 1))))) (bVal (e2 mulO (bVal (eC (D.int 49979687))) (bVal (e2 ixO (bVar 0) (bVal (eC (D.int 2))))))))) (bVal (eC (D.int 3))))) (bVal (e2 addO (bVal (e2 powO (bVal (eC (D.int 10))) (bVal (eC (D.int 37))))) (bVal (eC (D.int 43))))))) (sCons (sSet 3 (e2 modO (bVal (e2 powO (bVal (e2 addO (bVar 3) (bVal (e2 mulO (bVal (eC (D.int 15485863))) (bVal (e2 ixO (bVar 0) (bVal (eC (D.int 2))))))))) (bVal (eC (D.int 3))))) (bVal (e2 addO (bVal (e2 powO (bVal (eC (D.int 10))) (bVal (eC (D.int 36))))) (bVal (eC (D.int 67))))))) (sRet (e2 modO (bVal (e2 fdivO (bVar 3) (bVal (eC (D.int 131071))))) (bVar 1))))))
def f__law_draw : Fn := run 2 2 m__law_draw
theorem ok__law_draw {P : Program} {w : World} {K : PySem.W.Frag} {mg : Str → Option Value} {base : Heap} {L : Lk} (M : Mo P w mg L) (F : DefK K mg "_law_draw" "_law_draw" s__law_draw) : FnO P w K mg base L "_law_draw" "_law_draw" s__law_draw ["source", "limit"] f__law_draw 1 :=
  F.run sc__law_draw fun cdv A outer s H E lk f hr xo => have c : Ctx _ L E 0 := ⟨xo, sc__law_draw.nd, hr, M.B, M.hP, M.hw, M.lf⟩;
    dsc (dif (dcmpT op_gtO (dval (dIx (dvar 0) (dval (dint)))) (dval (dint))) (dsc (dset 2 c.hN (dMod (dval (dIx (dvar 0) (dval (dint)))) (dvar 1))) (dsc (dPut 0 set_list pr_at (dFdiv (dval (dIx (dvar 0) (dval (dint)))) (dvar 1)) (dval (dint))) (ds1 (dretV 2)))) (dsn)) (dsc (dPut 0 set_list pr_at (dAdd (dval (dIx (dvar 0) (dval (dint)))) (dval (dint))) (dval (dint))) (dsc (dset 3 c.hN (dMod (dval (dPow (dval (dAdd (dval (dIx (dvar 0) (dval (dint)))) (dval (dMul (dval (dint)) (dval (dIx (dvar 0) (dval (dint)))))))) (dval (dint)))) (dval (dAdd (dval (dPow (dval (dint)) (dval (dint)))) (dval (dint)))))) (dsc (dset 3 c.hN (dMod (dval (dPow (dval (dAdd (dvar 3) (dval (dMul (dval (dint)) (dval (dIx (dvar 0) (dval (dint)))))))) (dval (dint)))) (dval (dAdd (dval (dPow (dval (dint)) (dval (dint)))) (dval (dint)))))) (ds1 (dret (dMod (dval (dFdiv (dvar 3) (dval (dint)))) (dvar 1)))))))
theorem b__law_draw {K : PySem.W.Frag} (f : Addr) (fd : FuncData) (F : Fun K "_law_draw" "_law_draw" s__law_draw f fd) : Binds K fd ["source", "limit"] [] := F.binds fun _ _ _ _ _ _ us hl => match us, hl with | [_, _], _ => rfl
/-! _law_mixed -/
abbrev s__law_mixed : Stmt := topS 41
theorem sc__law_mixed : FnScope ["source", "things", "spare", "k"] ["source", "things"] (defScope s__law_mixed) := ⟨rfl, rfl, rfl, by decide +kernel, rfl, by decide +kernel, by decide +kernel⟩
def m__law_mixed : SM := sCons (sSet 2 (eN (U1 listO) (aCons (bVar 1) aNil))) (sRet (eLc (iN rangeOp (aCons (bVal (eN (U1 lenO) (aCons (bVar 1) aNil))) (aNil))) [3] (gN 3) (tYesM) (eMut 2 mPopAt (aCons (bVal (eCall 2 f__law_draw (aCons (bVar 0) (aCons (bVal (eN (U1 lenO) (aCons (bVar 2) aNil))) (aNil))))) (aNil)))))
def f__law_mixed : Fn := run 2 2 m__law_mixed
theorem ok__law_mixed {P : Program} {w : World} {K : PySem.W.Frag} {mg : Str → Option Value} {base : Heap} {L : Lk} (M : Mo P w mg L) (F : DefK K mg "_law_mixed" "_law_mixed" s__law_mixed)
    (d__law_draw : FnD P w K mg base L "_law_draw" 2 f__law_draw 1) : FnO P w K mg base L "_law_mixed" "_law_mixed" s__law_mixed ["source", "things"] f__law_mixed 2 :=
  F.run sc__law_mixed fun cdv A outer s H E lk f hr xo => have c : Ctx _ L E 1 := ⟨xo, sc__law_mixed.nd, hr, M.B, M.hP, M.hw, M.lf⟩;
    dsc (dset 2 c.hN (dList c (dvar 1))) (ds1 (dret (dlcC [("k", 3)] c (diN1 c.B.range (dac (dval (dLen c (dvar 1))) (dan))) (by rfl) (fun s H C cl fp c => dgN 3 c.hN) (fun s H C cl fp c => dts0) (fun s H C cl fp c => dMut 2 PySem.F.slot_list_pop PySem.F.type_list_pop mt_popAt mr_popAt (dac (dval (dcall d__law_draw c.xo c.hr (by decide) (dac (dvar 0) (dac (dval (dLen c (dvar 2))) (dan))))) (dan))))))
theorem b__law_mixed {K : PySem.W.Frag} (f : Addr) (fd : FuncData) (F : Fun K "_law_mixed" "_law_mixed" s__law_mixed f fd) : Binds K fd ["source", "things"] [] := F.binds fun _ _ _ _ _ _ us hl => match us, hl with | [_, _], _ => rfl
/-! _law_vehicles -/
abbrev s__law_vehicles : Stmt := topS 42
theorem sc__law_vehicles : FnScope ["source", "count", "letters", "found", "style", "k", "name"] ["source", "count"] (defScope s__law_vehicles) := ⟨rfl, rfl, rfl, by decide +kernel, rfl, by decide +kernel, by decide +kernel⟩
def m__law_vehicles : SM := sCons (sSet 2 (eC (D.str "abcdefghijklmnopqrstuvwxyz"))) (sCons (sSet 3 (eLc (iN rangeOp (aCons (bVar 1) (aNil))) [5] (gN 5) (tYesM) (e2 addO (bVal (e2 ixO (bVar 2) (bVal (e2 fdivO (bVar 5) (bVal (eC (D.int 26))))))) (bVal (e2 ixO (bVar 2) (bVal (e2 modO (bVar 5) (bVal (eC (D.int 26)))))))))) (sCons (sSet 4 (eCall 2 f__law_draw (aCons (bVar 0) (aCons (bVal (eC (D.int 4))) (aNil))))) (sCons (sIf (tVal (e2 eqO (bVar 4) (bVal (eC (D.int 0))))) (sSet 3 (eLcH 3 [6] (gN 6) (tYesM) (e2 addO (bVal (eC (D.str "zy"))) (bVar 6)))) (sNil)) (sCons (sIf (tVal (e2 eqO (bVar 4) (bVal (eC (D.int 1))))) (sSet 3 (eLcH 3 [6] (gN 6) (tYesM) (e2 addO (bVal (e2 ixO (bVar 6) (bVal (eC (D.int 1))))) (bVal (e2 ixO (bVar 6) (bVal (eC (D.int 0)))))))) (sNil)) (sCons (sIf (tVal (e2 eqO (bVar 4) (bVal (eC (D.int 2))))) (sSet 3 (eCut cutO (bVal (e2 addO (bVal (eDisp lstO (aCons (bVal (eC (D.str "in"))) (aCons (bVal (eC (D.str "out"))) (aCons (bVal (eC (D.str "l"))) (aCons (bVal (eC (D.str "r"))) (aCons (bVal (eC (D.str "a"))) (aCons (bVal (eC (D.str "zzzz"))) (aCons (bVal (eC (D.str "aaaa"))) (aCons (bVal (eC (D.str "none"))) (aCons (bVal (eC (D.str "x"))) (aNil)))))))))))) (bVal (eLcH 3 [6] (gN 6) (tYesM) (e2 addO (bVar 6) (bVal (eC (D.str "q")))))))) (pNone) (pSome (eVar 1)))) (sNil)) (sRet (eCall 2 f__law_mixed (aCons (bVar 0) (aCons (bVar 3) (aNil))))))))))
def f__law_vehicles : Fn := run 2 5 m__law_vehicles
theorem ok__law_vehicles {P : Program} {w : World} {K : PySem.W.Frag} {mg : Str → Option Value} {base : Heap} {L : Lk} (M : Mo P w mg L) (F : DefK K mg "_law_vehicles" "_law_vehicles" s__law_vehicles)
    (d__law_draw : FnD P w K mg base L "_law_draw" 2 f__law_draw 1)
    (d__law_mixed : FnD P w K mg base L "_law_mixed" 2 f__law_mixed 2) : FnO P w K mg base L "_law_vehicles" "_law_vehicles" s__law_vehicles ["source", "count"] f__law_vehicles 3 :=
  F.run sc__law_vehicles fun cdv A outer s H E lk f hr xo => have c : Ctx _ L E 2 := ⟨xo, sc__law_vehicles.nd, hr, M.B, M.hP, M.hw, M.lf⟩;
    dsc (dset 2 c.hN (dstr)) (dsc (dsetLcC 3 [("k", 5)] c (diN1 c.B.range (dac (dvar 1) (dan))) (by rfl) (fun s H C cl fp c => dgN 5 c.hN) (fun s H C cl fp c => dts0) (fun s H C cl fp c => dAdd (dval (dIx (dvar 2) (dval (dFdiv (dvar 5) (dval (dint)))))) (dval (dIx (dvar 2) (dval (dMod (dvar 5) (dval (dint)))))))) (dsc (dset 4 c.hN (dcall d__law_draw c.xo c.hr (by decide) (dac (dvar 0) (dac (dval (dint)) (dan))))) (dsc (dif (dcmpT (op_eqO c.hr.units) (dvar 4) (dval (dint))) (ds1 (dsetLcHC 3 3 [("name", 6)] c (by rfl) (fun s H C cl fp c => dgN 6 c.hN) (fun s H C cl fp c => dts0) (fun s H C cl fp c => dAdd (dval (dstr)) (dvar 6)))) (dsn)) (dsc (dif (dcmpT (op_eqO c.hr.units) (dvar 4) (dval (dint))) (ds1 (dsetLcHC 3 3 [("name", 6)] c (by rfl) (fun s H C cl fp c => dgN 6 c.hN) (fun s H C cl fp c => dts0) (fun s H C cl fp c => dAdd (dval (dIx (dvar 6) (dval (dint)))) (dval (dIx (dvar 6) (dval (dint))))))) (dsn)) (dsc (dif (dcmpT (op_eqO c.hr.units) (dvar 4) (dval (dint))) (ds1 (dset 3 c.hN (dCut (dval (dAdd (dval (dLst (dac (dval (dstr)) (dac (dval (dstr)) (dac (dval (dstr)) (dac (dval (dstr)) (dac (dval (dstr)) (dac (dval (dstr)) (dac (dval (dstr)) (dac (dval (dstr)) (dac (dval (dstr)) (dan)))))))))))) (dval (dlcHC 3 [("name", 6)] c (by rfl) (fun s H C cl fp c => dgN 6 c.hN) (fun s H C cl fp c => dts0) (fun s H C cl fp c => dAdd (dvar 6) (dval (dstr))))))) (dp0) (dp1 (dvarE 1))))) (dsn)) (ds1 (dret (dcall d__law_mixed c.xo c.hr (by decide) (dac (dvar 0) (dac (dvar 3) (dan)))))))))))
theorem b__law_vehicles {K : PySem.W.Frag} (f : Addr) (fd : FuncData) (F : Fun K "_law_vehicles" "_law_vehicles" s__law_vehicles f fd) : Binds K fd ["source", "count"] [] := F.binds fun _ _ _ _ _ _ us hl => match us, hl with | [_, _], _ => rfl
/-! _law_made -/
abbrev s__law_made : Stmt := topS 43
theorem sc__law_made : FnScope ["source", "fleet", "most", "spare", "happened", "step", "moves", "whole", "holes", "name"] ["source"] (defScope s__law_made) := ⟨rfl, rfl, rfl, by decide +kernel, rfl, by decide +kernel, by decide +kernel⟩
def m__law_made : SM := sCons (sSet 1 (eCall 2 f__law_vehicles (aCons (bVar 0) (aCons (bVal (e2 addO (bVal (eC (D.int 1))) (bVal (eCall 2 f__law_draw (aCons (bVar 0) (aCons (bVal (eC (D.int 160))) (aNil))))))) (aNil))))) (sCons (sSet 2 (e2 ixO (bVal (eDisp lstO (aCons (bVal (eC (D.int 6))) (aCons (bVal (eC (D.int 120))) (aNil))))) (bVal (eCall 2 f__law_draw (aCons (bVar 0) (aCons (bVal (eC (D.int 2))) (aNil))))))) (sCons (sPar 3 4 (eN (U1 listO) (aCons (bVar 1) aNil)) (eDisp lstO (aNil))) (sCons (sFor (iN rangeOp (aCons (bVal (eCall 2 f__law_draw (aCons (bVar 0) (aCons (bVal (e2 addO (bVar 2) (bVal (eC (D.int 1))))) (aNil))))) (aNil))) (gN 5) (sIf (tAndM (tVal (e2 neO (bVar 3) (bVal (eDisp lstO (aNil))))) (tVal (e2 gtO (bVal (eCall 2 f__law_draw (aCons (bVar 0) (aCons (bVal (eC (D.int 3))) (aNil))))) (bVal (eC (D.int 0)))))) (sExpr (eMut 4 mAppend (aCons (bVal (eDisp tupO (aCons (bVal (eC (D.str "in"))) (aCons (bVal (eMut 3 mPop aNil)) (aNil))))) (aNil)))) (sExpr (eMut 4 mAppend (aCons (bVal (eDisp tupO (aCons (bVal (eC (D.str "out"))) (aNil)))) (aNil)))))) (sCons (sSet 6 (eLc (iN rangeOp (aCons (bVal (eCall 2 f__law_draw (aCons (bVar 0) (aCons (bVal (e2 addO (bVar 2) (bVal (eC (D.int 1))))) (aNil))))) (aNil))) [5] (gN 5) (tYesM) (e2 ixO (bVal (eC (D.str "LR"))) (bVal (eCall 2 f__law_draw (aCons (bVar 0) (aCons (bVal (eC (D.int 2))) (aNil)))))))) (sCons (sSet 7 (eN (U1 tupleO) (aCons (bVal (eCut cutO (bVar 1) (pNone) (pSome (eN (U2 min2O) (aCons (bVal (eC (D.int 40))) (aCons (bVal (eCall 2 f__law_draw (aCons (bVar 0) (aCons (bVal (e2 addO (bVal (eN (U1 lenO) (aCons (bVar 1) aNil))) (bVal (eC (D.int 1))))) (aNil))))) aNil)))))) aNil))) (sCons (sSet 8 (eN (U1 tupleO) (aCons (bVal (eLcH 7 [9] (gN 9) (tYesM) (eIf (tVal (e2 gtO (bVal (eCall 2 f__law_draw (aCons (bVar 0) (aCons (bVal (eC (D.int 3))) (aNil))))) (bVal (eC (D.int 0))))) (eVar 9) (eC D.non)))) aNil))) (sRet (eDisp lstO (aCons (bVal (eVar 7)) (aCons (bVal (eVar 4)) (aCons (bVal (eVar 6)) (aCons (bVal (eVar 8)) (aNil)))))))))))))
def f__law_made : Fn := run 1 9 m__law_made
theorem ok__law_made {P : Program} {w : World} {K : PySem.W.Frag} {mg : Str → Option Value} {base : Heap} {L : Lk} (M : Mo P w mg L) (F : DefK K mg "_law_made" "_law_made" s__law_made)
    (d__law_vehicles : FnD P w K mg base L "_law_vehicles" 2 f__law_vehicles 3)
    (d__law_draw : FnD P w K mg base L "_law_draw" 2 f__law_draw 1) : FnO P w K mg base L "_law_made" "_law_made" s__law_made ["source"] f__law_made 4 :=
  F.run sc__law_made fun cdv A outer s H E lk f hr xo => have c : Ctx _ L E 3 := ⟨xo, sc__law_made.nd, hr, M.B, M.hP, M.hw, M.lf⟩;
    dsc (dset 1 c.hN (dcall d__law_vehicles c.xo c.hr (by decide) (dac (dvar 0) (dac (dval (dAdd (dval (dint)) (dval (dcall d__law_draw c.xo c.hr (by decide) (dac (dvar 0) (dac (dval (dint)) (dan))))))) (dan))))) (dsc (dset 2 c.hN (dIx (dval (dLst (dac (dval (dint)) (dac (dval (dint)) (dan))))) (dval (dcall d__law_draw c.xo c.hr (by decide) (dac (dvar 0) (dac (dval (dint)) (dan))))))) (dsc (dPar 3 4 c (dList c (dvar 1)) (dLst (dan))) (dsc (dfor c.xo (diN1 c.B.range (dac (dval (dcall d__law_draw c.xo c.hr (by decide) (dac (dvar 0) (dac (dval (dAdd (dvar 2) (dval (dint)))) (dan))))) (dan))) (dgN 5 c.hN) (ds1 (dif ((dandT (dcmpT (op_neO c.hr.units) (dvar 3) (dval (dLst (dan)))) (dandT1 (dcmpT op_gtO (dval (dcall d__law_draw c.xo c.hr (by decide) (dac (dvar 0) (dac (dval (dint)) (dan))))) (dval (dint))))).pt) (ds1 (dsx (dMut 4 PySem.F.slot_list_append PySem.F.type_list_append mt_append mr_append (dac (dval (dTup (dac (dval (dstr)) (dac (dval (dMut0 3 PySem.F.slot_list_pop PySem.F.type_list_pop mt_pop mr_pop)) (dan))))) (dan))))) (ds1 (dsx (dMut 4 PySem.F.slot_list_append PySem.F.type_list_append mt_append mr_append (dac (dval (dTup (dac (dval (dstr)) (dan)))) (dan)))))))) (dsc (dsetLcC 6 [("step", 5)] c (diN1 c.B.range (dac (dval (dcall d__law_draw c.xo c.hr (by decide) (dac (dvar 0) (dac (dval (dAdd (dvar 2) (dval (dint)))) (dan))))) (dan))) (by rfl) (fun s H C cl fp c => dgN 5 c.hN) (fun s H C cl fp c => dts0) (fun s H C cl fp c => dIx (dval (dstr)) (dval (dcall d__law_draw c.xo c.hr (by decide) (dac (dvar 0) (dac (dval (dint)) (dan))))))) (dsc (dset 7 c.hN (dTuple c (dval (dCut (dvar 1) (dp0) (dp1 (dMin2 c (dval (dint)) (dval (dcall d__law_draw c.xo c.hr (by decide) (dac (dvar 0) (dac (dval (dAdd (dval (dLen c (dvar 1))) (dval (dint)))) (dan))))))))))) (dsc (dset 8 c.hN (dTuple c (dval (dlcHC 7 [("name", 9)] c (by rfl) (fun s H C cl fp c => dgN 9 c.hN) (fun s H C cl fp c => dts0) (fun s H C cl fp c => difE (dcmpT op_gtO (dval (dcall d__law_draw c.xo c.hr (by decide) (dac (dvar 0) (dac (dval (dint)) (dan))))) (dval (dint))) (dvarE 9) (dnon)))))) (ds1 (dret (dLst (dac (dval (dvarE 7)) (dac (dval (dvarE 4)) (dac (dval (dvarE 6)) (dac (dval (dvarE 8)) (dan))))))))))))))
theorem b__law_made {K : PySem.W.Frag} (f : Addr) (fd : FuncData) (F : Fun K "_law_made" "_law_made" s__law_made f fd) : Binds K fd ["source"] [] := F.binds fun _ _ _ _ _ _ us hl => match us, hl with | [_], _ => rfl
/-! _law_joined -/
abbrev s__law_joined : Stmt := topS 44
theorem sc__law_joined : FnScope ["parts", "mark", "note", "k"] ["parts", "mark"] (defScope s__law_joined) := ⟨rfl, rfl, rfl, by decide +kernel, rfl, by decide +kernel, by decide +kernel⟩
def m__law_joined : SM := sCons (sSet 2 (eC (D.str ""))) (sCons (sFor (iN rangeOp (aCons (bVal (eN (U1 lenO) (aCons (bVar 0) aNil))) (aNil))) (gN 3) (sSet 2 (e2 addO (bVal (e2 addO (bVar 2) (bVal (eIf (tVal (e2 gtO (bVar 3) (bVal (eC (D.int 0))))) (eVar 1) (eC (D.str "")))))) (bVal (e2 ixO (bVar 0) (bVar 3)))))) (sRetV 2))
def f__law_joined : Fn := run 2 2 m__law_joined
theorem ok__law_joined {P : Program} {w : World} {K : PySem.W.Frag} {mg : Str → Option Value} {base : Heap} {L : Lk} (M : Mo P w mg L) (F : DefK K mg "_law_joined" "_law_joined" s__law_joined) : FnO P w K mg base L "_law_joined" "_law_joined" s__law_joined ["parts", "mark"] f__law_joined 1 :=
  F.run sc__law_joined fun cdv A outer s H E lk f hr xo => have c : Ctx _ L E 0 := ⟨xo, sc__law_joined.nd, hr, M.B, M.hP, M.hw, M.lf⟩;
    dsc (dset 2 c.hN (dstr)) (dsc (dfor c.xo (diN1 c.B.range (dac (dval (dLen c (dvar 0))) (dan))) (dgN 3 c.hN) (ds1 (dset 2 c.hN (dAdd (dval (dAdd (dvar 2) (dval (difE (dcmpT op_gtO (dvar 3) (dval (dint))) (dvarE 1) (dstr))))) (dval (dIx (dvar 0) (dvar 3))))))) (ds1 (dretV 2)))
theorem b__law_joined {K : PySem.W.Frag} (f : Addr) (fd : FuncData) (F : Fun K "_law_joined" "_law_joined" s__law_joined f fd) : Binds K fd ["parts", "mark"] [] := F.binds fun _ _ _ _ _ _ us hl => match us, hl with | [_, _], _ => rfl
/-! _law_word -/
abbrev s__law_word : Stmt := topS 45
theorem sc__law_word : FnScope ["one"] ["one"] (defScope s__law_word) := ⟨rfl, rfl, rfl, by decide +kernel, rfl, by decide +kernel, by decide +kernel⟩
def m__law_word : SM := sCons (sIf (tVal (e2 isO (bVar 0) (bVal (eC D.non)))) (sRet (eC (D.str "?"))) (sNil)) (sCons (sIf (tVal (e1 (isiO "str") (bVar 0))) (sRetV 0) (sNil)) (sRet (eIf (tVal (e2 eqO (bVal (e2 ixO (bVar 0) (bVal (eC (D.int 0))))) (bVal (eC (D.str "in"))))) (e2 addO (bVal (eC (D.str "+"))) (bVal (e2 ixO (bVar 0) (bVal (eC (D.int 1)))))) (eC (D.str "-")))))
def f__law_word : Fn := run 1 0 m__law_word
theorem ok__law_word {P : Program} {w : World} {K : PySem.W.Frag} {mg : Str → Option Value} {base : Heap} {L : Lk} (M : Mo P w mg L) (F : DefK K mg "_law_word" "_law_word" s__law_word) : FnO P w K mg base L "_law_word" "_law_word" s__law_word ["one"] f__law_word 1 :=
  F.run sc__law_word fun cdv A outer s H E lk f hr xo => have c : Ctx _ L E 0 := ⟨xo, sc__law_word.nd, hr, M.B, M.hP, M.hw, M.lf⟩;
    dsc (dif (dcmpT op_isO (dvar 0) (dval (dnon))) (ds1 (dret (dstr))) (dsn)) (dsc (dif (dtst (disiStr c (dvar 0))) (ds1 (dretV 0)) (dsn)) (ds1 (dret (difE (dcmpT (op_eqO c.hr.units) (dval (dIx (dvar 0) (dval (dint)))) (dval (dstr))) (dAdd (dval (dstr)) (dval (dIx (dvar 0) (dval (dint))))) (dstr)))))
theorem b__law_word {K : PySem.W.Frag} (f : Addr) (fd : FuncData) (F : Fun K "_law_word" "_law_word" s__law_word f fd) : Binds K fd ["one"] [] := F.binds fun _ _ _ _ _ _ us hl => match us, hl with | [_], _ => rfl
/-! _law_note -/
abbrev s__law_note : Stmt := topS 46
theorem sc__law_note : FnScope ["door", "what", "one"] ["door", "what"] (defScope s__law_note) := ⟨rfl, rfl, rfl, by decide +kernel, rfl, by decide +kernel, by decide +kernel⟩
def m__law_note : SM := sRet (eCall 2 f__law_joined (aCons (bVal (eLcH 1 [2] (gN 2) (tYesM) (eCall 1 f__law_word (aCons (bVar 2) (aNil))))) (aCons (bVal (eIf (tVal (e2 eqO (bVar 0) (bVal (eC (D.int 2))))) (eC (D.str "")) (eC (D.str " ")))) (aNil))))
def f__law_note : Fn := run 2 1 m__law_note
theorem ok__law_note {P : Program} {w : World} {K : PySem.W.Frag} {mg : Str → Option Value} {base : Heap} {L : Lk} (M : Mo P w mg L) (F : DefK K mg "_law_note" "_law_note" s__law_note)
    (d__law_joined : FnD P w K mg base L "_law_joined" 2 f__law_joined 1)
    (d__law_word : FnD P w K mg base L "_law_word" 1 f__law_word 1) : FnO P w K mg base L "_law_note" "_law_note" s__law_note ["door", "what"] f__law_note 2 :=
  F.run sc__law_note fun cdv A outer s H E lk f hr xo => have c : Ctx _ L E 1 := ⟨xo, sc__law_note.nd, hr, M.B, M.hP, M.hw, M.lf⟩;
    ds1 (dret (dcall d__law_joined c.xo c.hr (by decide) (dac (dval (dlcHC 1 [("one", 2)] c (by rfl) (fun s H C cl fp c => dgN 2 c.hN) (fun s H C cl fp c => dts0) (fun s H C cl fp c => dcall d__law_word c.xo c.hr (by decide) (dac (dvar 2) (dan))))) (dac (dval (difE (dcmpT (op_eqO c.hr.units) (dvar 0) (dval (dint))) (dstr) (dstr))) (dan)))))
theorem b__law_note {K : PySem.W.Frag} (f : Addr) (fd : FuncData) (F : Fun K "_law_note" "_law_note" s__law_note f fd) : Binds K fd ["door", "what"] [] := F.binds fun _ _ _ _ _ _ us hl => match us, hl with | [_, _], _ => rfl
/-! _law_formatted -/
abbrev s__law_formatted : Stmt := topS 47
theorem sc__law_formatted : FnScope ["door", "what", "by_name"] ["door", "what", "by_name"] (defScope s__law_formatted) := ⟨rfl, rfl, rfl, by decide +kernel, rfl, by decide +kernel, by decide +kernel⟩
def m__law_formatted : SM := sCons (sIf (tNotM (tVal (eVar 2))) (sRet (eCallV tab0 (e2 ixO (bVal (eDisp lstO (aCons (bVal (eC (.fn "format_lane"))) (aCons (bVal (eC (.fn "format_log"))) (aCons (bVal (eC (.fn "format_sides"))) (aCons (bVal (eC (.fn "format_pattern"))) (aNil))))))) (bVar 0)) (aCons (bVar 1) (aNil)))) (sNil)) (sCons (sIf (tVal (e2 eqO (bVar 0) (bVal (eC (D.int 0))))) (sRet (eCallK 1 f_format_lane [0] (aCons (bVar 1) (aNil)))) (sNil)) (sCons (sIf (tVal (e2 eqO (bVar 0) (bVal (eC (D.int 1))))) (sRet (eCallK 1 f_format_log [0] (aCons (bVar 1) (aNil)))) (sNil)) (sRet (eIf (tVal (e2 eqO (bVar 0) (bVal (eC (D.int 2))))) (eCallK 1 f_format_sides [0] (aCons (bVar 1) (aNil))) (eCallK 1 f_format_pattern [0] (aCons (bVar 1) (aNil)))))))
def f__law_formatted : Fn := run 3 0 m__law_formatted
theorem ok__law_formatted {P : Program} {w : World} {K : PySem.W.Frag} {mg : Str → Option Value} {base : Heap} {L : Lk} (M : Mo P w mg L) (F : DefK K mg "_law_formatted" "_law_formatted" s__law_formatted)
    (d_format_lane : FnD P w K mg base L "format_lane" 1 f_format_lane 3)
    (d_format_log : FnD P w K mg base L "format_log" 1 f_format_log 4)
    (d_format_sides : FnD P w K mg base L "format_sides" 1 f_format_sides 2)
    (d_format_pattern : FnD P w K mg base L "format_pattern" 1 f_format_pattern 3)
    (k_format_lane_lane : FnDK P w K mg base L "format_lane" 1 f_format_lane 3 ["lane"] [0])
    (k_format_log_log : FnDK P w K mg base L "format_log" 1 f_format_log 4 ["log"] [0])
    (k_format_sides_sides : FnDK P w K mg base L "format_sides" 1 f_format_sides 2 ["sides"] [0])
    (k_format_pattern_pattern : FnDK P w K mg base L "format_pattern" 1 f_format_pattern 3 ["pattern"] [0])
    (v_format_pattern : FnV mg L "format_pattern")
    (v_format_sides : FnV mg L "format_sides")
    (v_format_log : FnV mg L "format_log")
    (v_format_lane : FnV mg L "format_lane") : FnO P w K mg base L "_law_formatted" "_law_formatted" s__law_formatted ["door", "what", "by_name"] f__law_formatted 5 :=
  F.run sc__law_formatted fun cdv A outer s H E lk f hr xo => have c : Ctx _ L E 4 := ⟨xo, sc__law_formatted.nd, hr, M.B, M.hP, M.hw, M.lf⟩;
    dsc (dif (dnotT (dtst (dvarE 2))) (ds1 (dret (dcallV (tab := tab0) (k := 4) (tab0_all (d_format_lane.up (by decide)) (d_format_log.up (by decide)) (d_format_sides.up (by decide)) (d_format_pattern.up (by decide))) c (by decide) (dIx (dval (dLst (dac (dval (dfnv v_format_lane)) (dac (dval (dfnv v_format_log)) (dac (dval (dfnv v_format_sides)) (dac (dval (dfnv v_format_pattern)) (dan))))))) (dvar 0)) (dac (dvar 1) (dan))))) (dsn)) (dsc (dif (dcmpT (op_eqO c.hr.units) (dvar 0) (dval (dint))) (ds1 (dret (dcallK k_format_lane_lane (by decide) c (by decide) (dkc (dvar 1) (dkn))))) (dsn)) (dsc (dif (dcmpT (op_eqO c.hr.units) (dvar 0) (dval (dint))) (ds1 (dret (dcallK k_format_log_log (by decide) c (by decide) (dkc (dvar 1) (dkn))))) (dsn)) (ds1 (dret (difE (dcmpT (op_eqO c.hr.units) (dvar 0) (dval (dint))) (dcallK k_format_sides_sides (by decide) c (by decide) (dkc (dvar 1) (dkn))) (dcallK k_format_pattern_pattern (by decide) c (by decide) (dkc (dvar 1) (dkn))))))))
theorem b__law_formatted {K : PySem.W.Frag} (f : Addr) (fd : FuncData) (F : Fun K "_law_formatted" "_law_formatted" s__law_formatted f fd) : Binds K fd ["door", "what", "by_name"] [] := F.binds fun _ _ _ _ _ _ us hl => match us, hl with | [_, _, _], _ => rfl
/-! _law_parsed -/
abbrev s__law_parsed : Stmt := topS 48
theorem sc__law_parsed : FnScope ["door", "note", "by_name", "doors"] ["door", "note", "by_name"] (defScope s__law_parsed) := ⟨rfl, rfl, rfl, by decide +kernel, rfl, by decide +kernel, by decide +kernel⟩
def m__law_parsed : SM := sCons (sSet 3 (eDisp lstO (aCons (bVal (eC (.fn "parse_lane"))) (aCons (bVal (eC (.fn "parse_log"))) (aCons (bVal (eC (.fn "parse_sides"))) (aCons (bVal (eC (.fn "parse_pattern"))) (aNil))))))) (sRet (eIf (tVal (eVar 2)) (eCallVK tab1 [0] (e2 ixO (bVar 3) (bVar 0)) (aCons (bVar 1) (aNil))) (eCallV tab1 (e2 ixO (bVar 3) (bVar 0)) (aCons (bVar 1) (aNil)))))
def f__law_parsed : Fn := run 3 1 m__law_parsed
theorem ok__law_parsed {P : Program} {w : World} {K : PySem.W.Frag} {mg : Str → Option Value} {base : Heap} {L : Lk} (M : Mo P w mg L) (F : DefK K mg "_law_parsed" "_law_parsed" s__law_parsed)
    (d_parse_lane : FnD P w K mg base L "parse_lane" 1 f_parse_lane 3)
    (d_parse_log : FnD P w K mg base L "parse_log" 1 f_parse_log 4)
    (d_parse_sides : FnD P w K mg base L "parse_sides" 1 f_parse_sides 2)
    (d_parse_pattern : FnD P w K mg base L "parse_pattern" 1 f_parse_pattern 3)
    (k_parse_lane_text : FnDK P w K mg base L "parse_lane" 1 f_parse_lane 3 ["text"] [0])
    (k_parse_log_text : FnDK P w K mg base L "parse_log" 1 f_parse_log 4 ["text"] [0])
    (k_parse_sides_text : FnDK P w K mg base L "parse_sides" 1 f_parse_sides 2 ["text"] [0])
    (k_parse_pattern_text : FnDK P w K mg base L "parse_pattern" 1 f_parse_pattern 3 ["text"] [0])
    (v_parse_pattern : FnV mg L "parse_pattern")
    (v_parse_sides : FnV mg L "parse_sides")
    (v_parse_log : FnV mg L "parse_log")
    (v_parse_lane : FnV mg L "parse_lane") : FnO P w K mg base L "_law_parsed" "_law_parsed" s__law_parsed ["door", "note", "by_name"] f__law_parsed 5 :=
  F.run sc__law_parsed fun cdv A outer s H E lk f hr xo => have c : Ctx _ L E 4 := ⟨xo, sc__law_parsed.nd, hr, M.B, M.hP, M.hw, M.lf⟩;
    dsc (dset 3 c.hN (dLst (dac (dval (dfnv v_parse_lane)) (dac (dval (dfnv v_parse_log)) (dac (dval (dfnv v_parse_sides)) (dac (dval (dfnv v_parse_pattern)) (dan))))))) (ds1 (dret (difE (dtst (dvarE 2)) (dcallVK (tab := tab1) (k := 4) (tab1_allK (k_parse_lane_text.up (by decide)) (k_parse_log_text.up (by decide)) (k_parse_sides_text.up (by decide)) (k_parse_pattern_text.up (by decide))) (by decide) c (by decide) (dIx (dvar 3) (dvar 0)) (dkc (dvar 1) (dkn))) (dcallV (tab := tab1) (k := 4) (tab1_all (d_parse_lane.up (by decide)) (d_parse_log.up (by decide)) (d_parse_sides.up (by decide)) (d_parse_pattern.up (by decide))) c (by decide) (dIx (dvar 3) (dvar 0)) (dac (dvar 1) (dan))))))
theorem b__law_parsed {K : PySem.W.Frag} (f : Addr) (fd : FuncData) (F : Fun K "_law_parsed" "_law_parsed" s__law_parsed f fd) : Binds K fd ["door", "note", "by_name"] [] := F.binds fun _ _ _ _ _ _ us hl => match us, hl with | [_, _, _], _ => rfl
/-! _law_changed_right -/
abbrev s__law_changed_right : Stmt := topS 49
theorem sc__law_changed_right : FnScope ["door", "what", "grown"] ["door", "what"] (defScope s__law_changed_right) := ⟨rfl, rfl, rfl, by decide +kernel, rfl, by decide +kernel, by decide +kernel⟩
def m__law_changed_right : SM := sCons (sSet 2 (eN (U1 listO) (aCons (bVar 1) aNil))) (sCons (sExpr (eCall 3 f__law_formatted (aCons (bVar 0) (aCons (bVar 2) (aCons (bVal (eC (D.bl false))) (aNil)))))) (sCons (sExpr (eMut 2 mAppend (aCons (bVal (e2 ixO (bVal (eDisp lstO (aCons (bVal (eC D.non)) (aCons (bVal (eDisp tupO (aCons (bVal (eC (D.str "out"))) (aNil)))) (aCons (bVal (eC (D.str "R"))) (aNil)))))) (bVar 0))) (aNil)))) (sCons (sIf (tVal (e2 neO (bVal (eCall 3 f__law_formatted (aCons (bVar 0) (aCons (bVar 2) (aCons (bVal (eC (D.bl false))) (aNil)))))) (bVal (eCall 2 f__law_note (aCons (bVar 0) (aCons (bVar 2) (aNil))))))) (sRet (eC (D.bl false))) (sNil)) (sCons (sExpr (eMut 2 mClear aNil)) (sRet (e2 eqO (bVal (eCall 3 f__law_formatted (aCons (bVar 0) (aCons (bVar 2) (aCons (bVal (eC (D.bl false))) (aNil)))))) (bVal (eC (D.str "")))))))))
def f__law_changed_right : Fn := run 2 1 m__law_changed_right
theorem ok__law_changed_right {P : Program} {w : World} {K : PySem.W.Frag} {mg : Str → Option Value} {base : Heap} {L : Lk} (M : Mo P w mg L) (F : DefK K mg "_law_changed_right" "_law_changed_right" s__law_changed_right)
    (d__law_formatted : FnD P w K mg base L "_law_formatted" 3 f__law_formatted 5)
    (d__law_note : FnD P w K mg base L "_law_note" 2 f__law_note 2) : FnO P w K mg base L "_law_changed_right" "_law_changed_right" s__law_changed_right ["door", "what"] f__law_changed_right 6 :=
  F.run sc__law_changed_right fun cdv A outer s H E lk f hr xo => have c : Ctx _ L E 5 := ⟨xo, sc__law_changed_right.nd, hr, M.B, M.hP, M.hw, M.lf⟩;
    dsc (dset 2 c.hN (dList c (dvar 1))) (dsc (dsx (dcall d__law_formatted c.xo c.hr (by decide) (dac (dvar 0) (dac (dvar 2) (dac (dval (dbl)) (dan)))))) (dsc (dsx (dMut 2 PySem.F.slot_list_append PySem.F.type_list_append mt_append mr_append (dac (dval (dIx (dval (dLst (dac (dval (dnon)) (dac (dval (dTup (dac (dval (dstr)) (dan)))) (dac (dval (dstr)) (dan)))))) (dvar 0))) (dan)))) (dsc (dif (dcmpT (op_neO c.hr.units) (dval (dcall d__law_formatted c.xo c.hr (by decide) (dac (dvar 0) (dac (dvar 2) (dac (dval (dbl)) (dan)))))) (dval (dcall d__law_note c.xo c.hr (by decide) (dac (dvar 0) (dac (dvar 2) (dan)))))) (ds1 (dret (dbl))) (dsn)) (dsc (dsx (dMut0 2 PySem.F.slot_list_clear PySem.F.type_list_clear mt_clear mr_clear)) (ds1 (dret (dcmp (op_eqO c.hr.units) (dval (dcall d__law_formatted c.xo c.hr (by decide) (dac (dvar 0) (dac (dvar 2) (dac (dval (dbl)) (dan)))))) (dval (dstr)))))))))
theorem b__law_changed_right {K : PySem.W.Frag} (f : Addr) (fd : FuncData) (F : Fun K "_law_changed_right" "_law_changed_right" s__law_changed_right f fd) : Binds K fd ["door", "what"] [] := F.binds fun _ _ _ _ _ _ us hl => match us, hl with | [_, _], _ => rfl
/-! _law_long_right -/
abbrev s__law_long_right : Stmt := topS 50
theorem sc__law_long_right : FnScope ["letters", "names", "values", "door", "note", "found", "k", "name"] [] (defScope s__law_long_right) := ⟨rfl, rfl, rfl, by decide +kernel, rfl, by decide +kernel, by decide +kernel⟩
def m__law_long_right : SM := sCons (sSet 0 (eC (D.str "abcdefghijklmnopqrstuvwxyz"))) (sCons (sSet 1 (eLc (iN rangeOp (aCons (bVal (eC (D.int 590))) (aNil))) [6] (gN 6) (tYesM) (e2 addO (bVal (e2 addO (bVal (e2 ixO (bVar 0) (bVal (e2 fdivO (bVar 6) (bVal (eC (D.int 26))))))) (bVal (eC (D.str "zq"))))) (bVal (e2 ixO (bVar 0) (bVal (e2 modO (bVar 6) (bVal (eC (D.int 26)))))))))) (sCons (sSet 2 (eDisp lstO (aCons (bVal (eN (U1 tupleO) (aCons (bVar 1) aNil))) (aCons (bVal (eLc (iSeq (eCut cutO (bVar 1) (pNone) (pSome (eC (D.int 500))))) [7] (gN 7) (tYesM) (eDisp tupO (aCons (bVal (eC (D.str "in"))) (aCons (bVal (eVar 7)) (aNil)))))) (aCons (bVal (e2 mulO (bVal (eDisp lstO (aCons (bVal (eC (D.str "L"))) (aCons (bVal (eC (D.str "R"))) (aNil))))) (bVal (eC (D.int 1500))))) (aCons (bVal (e2 mulO (bVal (eDisp tupO (aCons (bVal (eC D.non)) (aNil)))) (bVal (eC (D.int 1500))))) (aNil))))))) (sCons (sFor (iN rangeOp (aCons (bVal (eC (D.int 4))) (aNil))) (gN 3) (sCons (sSet 4 (eCall 2 f__law_note (aCons (bVar 3) (aCons (bVal (e2 ixO (bVar 2) (bVar 3))) (aNil))))) (sCons (sSet 5 (eCall 3 f__law_parsed (aCons (bVar 3) (aCons (bVar 4) (aCons (bVal (eC (D.bl false))) (aNil)))))) (sIf (tOrM (tVal (e2 neO (bVal (eN (U1 reprO) (aCons (bVar 5) aNil))) (bVal (eN (U1 reprO) (aCons (bVal (e2 ixO (bVar 2) (bVar 3))) aNil))))) (tVal (e2 neO (bVal (eCall 3 f__law_formatted (aCons (bVar 3) (aCons (bVar 5) (aCons (bVal (eC (D.bl false))) (aNil)))))) (bVar 4)))) (sRet (eC (D.bl false))) (sNil))))) (sRet (e2 eqO (bVal (eCall 3 f__law_formatted (aCons (bVal (eC (D.int 1))) (aCons (bVal (eCall 1 f_parse_log (aCons (bVal (e2 addO (bVal (eC (D.str "-"))) (bVal (e2 mulO (bVal (eC (D.str " -"))) (bVal (eC (D.int 1499))))))) (aNil)))) (aCons (bVal (eC (D.bl false))) (aNil)))))) (bVal (e2 addO (bVal (eC (D.str "-"))) (bVal (e2 mulO (bVal (eC (D.str " -"))) (bVal (eC (D.int 1499))))))))))))
def f__law_long_right : Fn := run 0 8 m__law_long_right
theorem ok__law_long_right {P : Program} {w : World} {K : PySem.W.Frag} {mg : Str → Option Value} {base : Heap} {L : Lk} (M : Mo P w mg L) (F : DefK K mg "_law_long_right" "_law_long_right" s__law_long_right)
    (d__law_note : FnD P w K mg base L "_law_note" 2 f__law_note 2)
    (d__law_parsed : FnD P w K mg base L "_law_parsed" 3 f__law_parsed 5)
    (d__law_formatted : FnD P w K mg base L "_law_formatted" 3 f__law_formatted 5)
    (d_parse_log : FnD P w K mg base L "parse_log" 1 f_parse_log 4) : FnO P w K mg base L "_law_long_right" "_law_long_right" s__law_long_right [] f__law_long_right 6 :=
  F.run sc__law_long_right fun cdv A outer s H E lk f hr xo => have c : Ctx _ L E 5 := ⟨xo, sc__law_long_right.nd, hr, M.B, M.hP, M.hw, M.lf⟩;
    dsc (dset 0 c.hN (dstr)) (dsc (dsetLcC 1 [("k", 6)] c (diN1 c.B.range (dac (dval (dint)) (dan))) (by rfl) (fun s H C cl fp c => dgN 6 c.hN) (fun s H C cl fp c => dts0) (fun s H C cl fp c => dAdd (dval (dAdd (dval (dIx (dvar 0) (dval (dFdiv (dvar 6) (dval (dint)))))) (dval (dstr)))) (dval (dIx (dvar 0) (dval (dMod (dvar 6) (dval (dint)))))))) (dsc (dset 2 c.hN (dLst (dac (dval (dTuple c (dvar 1))) (dac (dval (dlcC [("name", 7)] c (diSeq (dCut (dvar 1) (dp0) (dp1 (dint)))) (by rfl) (fun s H C cl fp c => dgN 7 c.hN) (fun s H C cl fp c => dts0) (fun s H C cl fp c => dTup (dac (dval (dstr)) (dac (dval (dvarE 7)) (dan)))))) (dac (dval (dMul (dval (dLst (dac (dval (dstr)) (dac (dval (dstr)) (dan))))) (dval (dint)))) (dac (dval (dMul (dval (dTup (dac (dval (dnon)) (dan)))) (dval (dint)))) (dan))))))) (dsc (dfor c.xo (diN1 c.B.range (dac (dval (dint)) (dan))) (dgN 3 c.hN) (dsc (dset 4 c.hN (dcall d__law_note c.xo c.hr (by decide) (dac (dvar 3) (dac (dval (dIx (dvar 2) (dvar 3))) (dan))))) (dsc (dset 5 c.hN (dcall d__law_parsed c.xo c.hr (by decide) (dac (dvar 3) (dac (dvar 4) (dac (dval (dbl)) (dan)))))) (ds1 (dif ((dorT (dcmpT (op_neO c.hr.units) (dval (dRepr c (dvar 5))) (dval (dRepr c (dval (dIx (dvar 2) (dvar 3)))))) (dorT1 (dcmpT (op_neO c.hr.units) (dval (dcall d__law_formatted c.xo c.hr (by decide) (dac (dvar 3) (dac (dvar 5) (dac (dval (dbl)) (dan)))))) (dvar 4)))).pt) (ds1 (dret (dbl))) (dsn)))))) (ds1 (dret (dcmp (op_eqO c.hr.units) (dval (dcall d__law_formatted c.xo c.hr (by decide) (dac (dval (dint)) (dac (dval (dcall d_parse_log c.xo c.hr (by decide) (dac (dval (dAdd (dval (dstr)) (dval (dMul (dval (dstr)) (dval (dint)))))) (dan)))) (dac (dval (dbl)) (dan)))))) (dval (dAdd (dval (dstr)) (dval (dMul (dval (dstr)) (dval (dint))))))))))))
theorem b__law_long_right {K : PySem.W.Frag} (f : Addr) (fd : FuncData) (F : Fun K "_law_long_right" "_law_long_right" s__law_long_right f fd) : Binds K fd [] [] := F.binds fun _ _ _ _ _ _ us hl => match us, hl with | [], _ => rfl
/-! law -/
abbrev s_law : Stmt := topS 51
theorem sc_law : FnScope ["script", "k", "source", "turn", "made", "door", "what", "shown", "note", "found", "empty"] ["script"] (defScope s_law) := ⟨rfl, rfl, rfl, by decide +kernel, rfl, by decide +kernel, by decide +kernel⟩
def m_law : SM := sCons (sFor (iN rangeOp (aCons (bVal (eN (U2 max2O) (aCons (bVal (eC (D.int 1))) (aCons (bVal (eN (U2 min2O) (aCons (bVal (eC (D.int 5))) (aCons (bVal (eN (U1 lenO) (aCons (bVar 0) aNil))) aNil)))) aNil)))) (aNil))) (gN 1) (sCons (sSet 2 (eCall 2 f__law_source (aCons (bVar 0) (aCons (bVar 1) (aNil))))) (sFor (iN rangeOp (aCons (bVal (eC (D.int 3))) (aNil))) (gN 3) (sCons (sSet 4 (eCall 1 f__law_made (aCons (bVar 2) (aNil)))) (sFor (iN rangeOp (aCons (bVal (eC (D.int 4))) (aNil))) (gN 5) (sCons (sPar 6 7 (e2 ixO (bVar 4) (bVar 5)) (eN (U1 reprO) (aCons (bVal (e2 ixO (bVar 4) (bVar 5))) aNil))) (sCons (sSet 8 (eCall 2 f__law_note (aCons (bVar 5) (aCons (bVar 6) (aNil))))) (sCons (sIf (tVal (e2 neO (bVal (eN (U1 reprO) (aCons (bVal (eDisp lstO (aCons (bVal (eCall 3 f__law_formatted (aCons (bVar 5) (aCons (bVar 6) (aCons (bVal (eC (D.bl false))) (aNil)))))) (aCons (bVal (eCall 3 f__law_formatted (aCons (bVar 5) (aCons (bVar 6) (aCons (bVal (eC (D.bl true))) (aNil)))))) (aNil))))) aNil))) (bVal (eN (U1 reprO) (aCons (bVal (eDisp lstO (aCons (bVal (eVar 8)) (aCons (bVal (eVar 8)) (aNil))))) aNil))))) (sRet (eC (D.bl false))) (sNil)) (sCons (sSet 9 (eCall 3 f__law_parsed (aCons (bVar 5) (aCons (bVar 8) (aCons (bVal (eC (D.bl false))) (aNil)))))) (sCons (sIf (tOrM (tVal (e2 neO (bVal (eN (U1 reprO) (aCons (bVar 9) aNil))) (bVar 7))) (tVal (e2 neO (bVal (eN (U1 reprO) (aCons (bVar 6) aNil))) (bVar 7)))) (sRet (eC (D.bl false))) (sNil)) (sCons (sIf (tVal (e2 inO (bVar 5) (bVal (eDisp tupO (aCons (bVal (eC (D.int 1))) (aCons (bVal (eC (D.int 2))) (aNil))))))) (sCons (sExpr (eMut 9 mAppend (aCons (bVal (eC (D.str "more"))) (aNil)))) (sIf (tNotM (tVal (eCall 2 f__law_changed_right (aCons (bVar 5) (aCons (bVar 6) (aNil)))))) (sRet (eC (D.bl false))) (sNil))) (sNil)) (sIf (tVal (e2 neO (bVal (eN (U1 reprO) (aCons (bVal (eCall 3 f__law_parsed (aCons (bVar 5) (aCons (bVar 8) (aCons (bVal (eC (D.bl true))) (aNil)))))) aNil))) (bVar 7))) (sRet (eC (D.bl false))) (sNil))))))))))))) (sCons (sSet 10 (eDisp lstO (aCons (bVal (eCall 1 f_parse_lane (aCons (bVal (eC (D.str ""))) (aNil)))) (aCons (bVal (eCall 1 f_parse_log (aCons (bVal (eC (D.str ""))) (aNil)))) (aCons (bVal (eCall 1 f_parse_sides (aCons (bVal (eC (D.str ""))) (aNil)))) (aCons (bVal (eCall 1 f_parse_pattern (aCons (bVal (eC (D.str ""))) (aNil)))) (aNil))))))) (sRet (eAnd (e2 eqO (bVar 10) (bVal (eDisp lstO (aCons (bVal (eDisp tupO (aNil))) (aCons (bVal (eDisp lstO (aNil))) (aCons (bVal (eDisp lstO (aNil))) (aCons (bVal (eDisp tupO (aNil))) (aNil)))))))) (eCall 0 f__law_long_right aNil))))
def f_law : Fn := run 1 10 m_law
theorem ok_law {P : Program} {w : World} {K : PySem.W.Frag} {mg : Str → Option Value} {base : Heap} {L : Lk} (M : Mo P w mg L) (F : DefK K mg "law" "law" s_law)
    (d__law_source : FnD P w K mg base L "_law_source" 2 f__law_source 1)
    (d__law_made : FnD P w K mg base L "_law_made" 1 f__law_made 4)
    (d__law_note : FnD P w K mg base L "_law_note" 2 f__law_note 2)
    (d__law_formatted : FnD P w K mg base L "_law_formatted" 3 f__law_formatted 5)
    (d__law_parsed : FnD P w K mg base L "_law_parsed" 3 f__law_parsed 5)
    (d__law_changed_right : FnD P w K mg base L "_law_changed_right" 2 f__law_changed_right 6)
    (d_parse_pattern : FnD P w K mg base L "parse_pattern" 1 f_parse_pattern 3)
    (d_parse_sides : FnD P w K mg base L "parse_sides" 1 f_parse_sides 2)
    (d_parse_log : FnD P w K mg base L "parse_log" 1 f_parse_log 4)
    (d_parse_lane : FnD P w K mg base L "parse_lane" 1 f_parse_lane 3)
    (d__law_long_right : FnD P w K mg base L "_law_long_right" 0 f__law_long_right 6) : FnO P w K mg base L "law" "law" s_law ["script"] f_law 7 :=
  F.run sc_law fun cdv A outer s H E lk f hr xo => have c : Ctx _ L E 6 := ⟨xo, sc_law.nd, hr, M.B, M.hP, M.hw, M.lf⟩;
    dsc (dfor c.xo (diN1 c.B.range (dac (dval (dMax2 c (dval (dint)) (dval (dMin2 c (dval (dint)) (dval (dLen c (dvar 0))))))) (dan))) (dgN 1 c.hN) (dsc (dset 2 c.hN (dcall d__law_source c.xo c.hr (by decide) (dac (dvar 0) (dac (dvar 1) (dan))))) (ds1 (dfor c.xo (diN1 c.B.range (dac (dval (dint)) (dan))) (dgN 3 c.hN) (dsc (dset 4 c.hN (dcall d__law_made c.xo c.hr (by decide) (dac (dvar 2) (dan)))) (ds1 (dfor c.xo (diN1 c.B.range (dac (dval (dint)) (dan))) (dgN 5 c.hN) (dsc (dPar 6 7 c (dIx (dvar 4) (dvar 5)) (dRepr c (dval (dIx (dvar 4) (dvar 5))))) (dsc (dset 8 c.hN (dcall d__law_note c.xo c.hr (by decide) (dac (dvar 5) (dac (dvar 6) (dan))))) (dsc (dif (dcmpT (op_neO c.hr.units) (dval (dRepr c (dval (dLst (dac (dval (dcall d__law_formatted c.xo c.hr (by decide) (dac (dvar 5) (dac (dvar 6) (dac (dval (dbl)) (dan)))))) (dac (dval (dcall d__law_formatted c.xo c.hr (by decide) (dac (dvar 5) (dac (dvar 6) (dac (dval (dbl)) (dan)))))) (dan))))))) (dval (dRepr c (dval (dLst (dac (dval (dvarE 8)) (dac (dval (dvarE 8)) (dan)))))))) (ds1 (dret (dbl))) (dsn)) (dsc (dset 9 c.hN (dcall d__law_parsed c.xo c.hr (by decide) (dac (dvar 5) (dac (dvar 8) (dac (dval (dbl)) (dan)))))) (dsc (dif ((dorT (dcmpT (op_neO c.hr.units) (dval (dRepr c (dvar 9))) (dvar 7)) (dorT1 (dcmpT (op_neO c.hr.units) (dval (dRepr c (dvar 6))) (dvar 7)))).pt) (ds1 (dret (dbl))) (dsn)) (dsc (dif (dcmpT (op_inO c.hr.units c.hP c.hw) (dvar 5) (dval (dTup (dac (dval (dint)) (dac (dval (dint)) (dan)))))) (dsc (dsx (dMut 9 PySem.F.slot_list_append PySem.F.type_list_append mt_append mr_append (dac (dval (dstr)) (dan)))) (ds1 (dif (dnotT (dtst (dcall d__law_changed_right c.xo c.hr (by decide) (dac (dvar 5) (dac (dvar 6) (dan)))))) (ds1 (dret (dbl))) (dsn)))) (dsn)) (ds1 (dif (dcmpT (op_neO c.hr.units) (dval (dRepr c (dval (dcall d__law_parsed c.xo c.hr (by decide) (dac (dvar 5) (dac (dvar 8) (dac (dval (dbl)) (dan)))))))) (dvar 7)) (ds1 (dret (dbl))) (dsn)))))))))))))))) (dsc (dset 10 c.hN (dLst (dac (dval (dcall d_parse_lane c.xo c.hr (by decide) (dac (dval (dstr)) (dan)))) (dac (dval (dcall d_parse_log c.xo c.hr (by decide) (dac (dval (dstr)) (dan)))) (dac (dval (dcall d_parse_sides c.xo c.hr (by decide) (dac (dval (dstr)) (dan)))) (dac (dval (dcall d_parse_pattern c.xo c.hr (by decide) (dac (dval (dstr)) (dan)))) (dan))))))) (ds1 (dret (dandV (dcmp (op_eqO c.hr.units) (dvar 10) (dval (dLst (dac (dval (dTup (dan))) (dac (dval (dLst (dan))) (dac (dval (dLst (dan))) (dac (dval (dTup (dan))) (dan)))))))) (dandV1 (dcall0 d__law_long_right c.xo c.hr (by decide)))))))
theorem b_law {K : PySem.W.Frag} (f : Addr) (fd : FuncData) (F : Fun K "law" "law" s_law f fd) : Binds K fd ["script"] [] := F.binds fun _ _ _ _ _ _ us hl => match us, hl with | [_], _ => rfl
theorem kb_format_lane_lane {K : PySem.W.Frag} (f : Addr) (fd : FuncData) (F : Fun K "format_lane" "format_lane" s_format_lane f fd) : KwB K fd ["lane"] ["lane"] [0] := by
  obtain ⟨oc, od, kV, doc, pm, an, cdv, ct, osl, rfl, lk, hcd⟩ := F.ex
  exact ⟨fun s ws _ hl => match ws, hl with | [_], _ => .of_eq rfl, by decide⟩
theorem kb_format_log_log {K : PySem.W.Frag} (f : Addr) (fd : FuncData) (F : Fun K "format_log" "format_log" s_format_log f fd) : KwB K fd ["log"] ["log"] [0] := by
  obtain ⟨oc, od, kV, doc, pm, an, cdv, ct, osl, rfl, lk, hcd⟩ := F.ex
  exact ⟨fun s ws _ hl => match ws, hl with | [_], _ => .of_eq rfl, by decide⟩
theorem kb_format_sides_sides {K : PySem.W.Frag} (f : Addr) (fd : FuncData) (F : Fun K "format_sides" "format_sides" s_format_sides f fd) : KwB K fd ["sides"] ["sides"] [0] := by
  obtain ⟨oc, od, kV, doc, pm, an, cdv, ct, osl, rfl, lk, hcd⟩ := F.ex
  exact ⟨fun s ws _ hl => match ws, hl with | [_], _ => .of_eq rfl, by decide⟩
theorem kb_format_pattern_pattern {K : PySem.W.Frag} (f : Addr) (fd : FuncData) (F : Fun K "format_pattern" "format_pattern" s_format_pattern f fd) : KwB K fd ["pattern"] ["pattern"] [0] := by
  obtain ⟨oc, od, kV, doc, pm, an, cdv, ct, osl, rfl, lk, hcd⟩ := F.ex
  exact ⟨fun s ws _ hl => match ws, hl with | [_], _ => .of_eq rfl, by decide⟩
theorem kb_parse_lane_text {K : PySem.W.Frag} (f : Addr) (fd : FuncData) (F : Fun K "parse_lane" "parse_lane" s_parse_lane f fd) : KwB K fd ["text"] ["text"] [0] := by
  obtain ⟨oc, od, kV, doc, pm, an, cdv, ct, osl, rfl, lk, hcd⟩ := F.ex
  exact ⟨fun s ws _ hl => match ws, hl with | [_], _ => .of_eq rfl, by decide⟩
theorem kb_parse_log_text {K : PySem.W.Frag} (f : Addr) (fd : FuncData) (F : Fun K "parse_log" "parse_log" s_parse_log f fd) : KwB K fd ["text"] ["text"] [0] := by
  obtain ⟨oc, od, kV, doc, pm, an, cdv, ct, osl, rfl, lk, hcd⟩ := F.ex
  exact ⟨fun s ws _ hl => match ws, hl with | [_], _ => .of_eq rfl, by decide⟩
theorem kb_parse_sides_text {K : PySem.W.Frag} (f : Addr) (fd : FuncData) (F : Fun K "parse_sides" "parse_sides" s_parse_sides f fd) : KwB K fd ["text"] ["text"] [0] := by
  obtain ⟨oc, od, kV, doc, pm, an, cdv, ct, osl, rfl, lk, hcd⟩ := F.ex
  exact ⟨fun s ws _ hl => match ws, hl with | [_], _ => .of_eq rfl, by decide⟩
theorem kb_parse_pattern_text {K : PySem.W.Frag} (f : Addr) (fd : FuncData) (F : Fun K "parse_pattern" "parse_pattern" s_parse_pattern f fd) : KwB K fd ["text"] ["text"] [0] := by
  obtain ⟨oc, od, kV, doc, pm, an, cdv, ct, osl, rfl, lk, hcd⟩ := F.ex
  exact ⟨fun s ws _ hl => match ws, hl with | [_], _ => .of_eq rfl, by decide⟩
theorem bl_law {K : PySem.W.Frag} (f : Addr) (fd : FuncData) (F : Fun K "law" "law" s_law f fd) : ∀ (s : Shared) (v : Value), BindsTo s fd ⟨[v], []⟩ [("script", v)] := by
  obtain ⟨oc, od, kV, doc, pm, an, cdv, ct, osl, rfl, lk, hcd⟩ := F.ex
  exact fun s v => .of_eq rfl
theorem all_mk {P : Program} {w : World} {K : PySem.W.Frag} {mg : Str → Option Value} {fa : Addr} (hfa : mg "law" = some (.ref fa)) (B : Blt mg)
    (D_is_car : DefK K mg "is_car" "is_car" s_is_car)
    (D_is_lane : DefK K mg "is_lane" "is_lane" s_is_lane)
    (D_is_side : DefK K mg "is_side" "is_side" s_is_side)
    (D_is_arrival : DefK K mg "is_arrival" "is_arrival" s_is_arrival)
    (D_is_departure : DefK K mg "is_departure" "is_departure" s_is_departure)
    (D_are_distinct : DefK K mg "are_distinct" "are_distinct" s_are_distinct)
    (D_is_some_log : DefK K mg "is_some_log" "is_some_log" s_is_some_log)
    (D_is_some_pattern : DefK K mg "is_some_pattern" "is_some_pattern" s_is_some_pattern)
    (D_format_lane : DefK K mg "format_lane" "format_lane" s_format_lane)
    (D_format_log : DefK K mg "format_log" "format_log" s_format_log)
    (D_format_sides : DefK K mg "format_sides" "format_sides" s_format_sides)
    (D_format_pattern : DefK K mg "format_pattern" "format_pattern" s_format_pattern)
    (D_words_of : DefK K mg "words_of" "words_of" s_words_of)
    (D_check_text : DefK K mg "check_text" "check_text" s_check_text)
    (D_parse_lane : DefK K mg "parse_lane" "parse_lane" s_parse_lane)
    (D_event_of : DefK K mg "event_of" "event_of" s_event_of)
    (D_parse_log : DefK K mg "parse_log" "parse_log" s_parse_log)
    (D_parse_sides : DefK K mg "parse_sides" "parse_sides" s_parse_sides)
    (D_parse_pattern : DefK K mg "parse_pattern" "parse_pattern" s_parse_pattern)
    (D__law_source : DefK K mg "_law_source" "_law_source" s__law_source)
    (D__law_draw : DefK K mg "_law_draw" "_law_draw" s__law_draw)
    (D__law_mixed : DefK K mg "_law_mixed" "_law_mixed" s__law_mixed)
    (D__law_vehicles : DefK K mg "_law_vehicles" "_law_vehicles" s__law_vehicles)
    (D__law_made : DefK K mg "_law_made" "_law_made" s__law_made)
    (D__law_joined : DefK K mg "_law_joined" "_law_joined" s__law_joined)
    (D__law_word : DefK K mg "_law_word" "_law_word" s__law_word)
    (D__law_note : DefK K mg "_law_note" "_law_note" s__law_note)
    (D__law_formatted : DefK K mg "_law_formatted" "_law_formatted" s__law_formatted)
    (D__law_parsed : DefK K mg "_law_parsed" "_law_parsed" s__law_parsed)
    (D__law_changed_right : DefK K mg "_law_changed_right" "_law_changed_right" s__law_changed_right)
    (D__law_long_right : DefK K mg "_law_long_right" "_law_long_right" s__law_long_right)
    (D_law : DefK K mg "law" "law" s_law)
    (g_MAX_LETTERS : Con mg "MAX_LETTERS" (D.int 4))
    (g_LETTERS : Con mg "LETTERS" (D.str "abcdefghijklmnopqrstuvwxyz"))
    (g_RIGHT : Con mg "RIGHT" (D.str "R"))
    (g_LEFT : Con mg "LEFT" (D.str "L"))
    (g_IN : Con mg "IN" (D.str "in"))
    (g_OUT : Con mg "OUT" (D.str "out"))
    (g_SPACE : Con mg "SPACE" (D.str " "))
    (g_ARRIVAL : Con mg "ARRIVAL" (D.str "+"))
    (g_DEPARTURE : Con mg "DEPARTURE" (D.str "-"))
    (g_UNKNOWN : Con mg "UNKNOWN" (D.str "?"))
    (x_InvalidLane : ExcD K mg (lkOf P w mg) "InvalidLane")
    (x_InvalidLog : ExcD K mg (lkOf P w mg) "InvalidLog")
    (x_InvalidSides : ExcD K mg (lkOf P w mg) "InvalidSides")
    (x_InvalidPattern : ExcD K mg (lkOf P w mg) "InvalidPattern")
    (x_InvalidText : ExcD K mg (lkOf P w mg) "InvalidText")
    : ∃ fd : FuncData, (∀ (s : Shared) (v : Value), BindsTo s fd ⟨[v], []⟩ [("script", v)]) ∧ ∀ base : Heap, K.In base → base.Ns mainGlobals mg → FnG P w K mg base 7 fa fd ["script"] (spD (lkOf P w mg) K 1 f_law) := by
  refine law_top hfa D_law bl_law fun base _ _ => ?_
  have M : Mo P w mg (lkOf P w mg) := mo_of B
  have o_is_car := ok_is_car (base := base) M D_is_car g_MAX_LETTERS g_LETTERS
  have d_is_car : FnD P w K mg base (lkOf P w mg) "is_car" 1 f_is_car 1 := o_is_car.fnD b_is_car
  have o_is_lane := ok_is_lane (base := base) M D_is_lane d_is_car
  have d_is_lane : FnD P w K mg base (lkOf P w mg) "is_lane" 1 f_is_lane 2 := o_is_lane.fnD b_is_lane
  have o_is_side := ok_is_side (base := base) M D_is_side g_RIGHT g_LEFT
  have d_is_side : FnD P w K mg base (lkOf P w mg) "is_side" 1 f_is_side 1 := o_is_side.fnD b_is_side
  have o_is_arrival := ok_is_arrival (base := base) M D_is_arrival d_is_car g_IN
  have d_is_arrival : FnD P w K mg base (lkOf P w mg) "is_arrival" 1 f_is_arrival 2 := o_is_arrival.fnD b_is_arrival
  have o_is_departure := ok_is_departure (base := base) M D_is_departure g_OUT
  have d_is_departure : FnD P w K mg base (lkOf P w mg) "is_departure" 1 f_is_departure 1 := o_is_departure.fnD b_is_departure
  have o_are_distinct := ok_are_distinct (base := base) M D_are_distinct 
  have d_are_distinct : FnD P w K mg base (lkOf P w mg) "are_distinct" 1 f_are_distinct 1 := o_are_distinct.fnD b_are_distinct
  have o_is_some_log := ok_is_some_log (base := base) M D_is_some_log d_is_arrival d_is_departure d_are_distinct g_IN
  have d_is_some_log : FnD P w K mg base (lkOf P w mg) "is_some_log" 1 f_is_some_log 3 := o_is_some_log.fnD b_is_some_log
  have o_is_some_pattern := ok_is_some_pattern (base := base) M D_is_some_pattern d_is_car d_are_distinct
  have d_is_some_pattern : FnD P w K mg base (lkOf P w mg) "is_some_pattern" 1 f_is_some_pattern 2 := o_is_some_pattern.fnD b_is_some_pattern
  have o_format_lane := ok_format_lane (base := base) M D_format_lane d_is_lane g_SPACE x_InvalidLane
  have d_format_lane : FnD P w K mg base (lkOf P w mg) "format_lane" 1 f_format_lane 3 := o_format_lane.fnD b_format_lane
  have k_format_lane_lane : FnDK P w K mg base (lkOf P w mg) "format_lane" 1 f_format_lane 3 ["lane"] [0] := o_format_lane.fnDK kb_format_lane_lane rfl
  have o_format_log := ok_format_log (base := base) M D_format_log d_is_some_log g_SPACE g_IN g_ARRIVAL g_DEPARTURE x_InvalidLog
  have d_format_log : FnD P w K mg base (lkOf P w mg) "format_log" 1 f_format_log 4 := o_format_log.fnD b_format_log
  have k_format_log_log : FnDK P w K mg base (lkOf P w mg) "format_log" 1 f_format_log 4 ["log"] [0] := o_format_log.fnDK kb_format_log_log rfl
  have o_format_sides := ok_format_sides (base := base) M D_format_sides d_is_side x_InvalidSides
  have d_format_sides : FnD P w K mg base (lkOf P w mg) "format_sides" 1 f_format_sides 2 := o_format_sides.fnD b_format_sides
  have k_format_sides_sides : FnDK P w K mg base (lkOf P w mg) "format_sides" 1 f_format_sides 2 ["sides"] [0] := o_format_sides.fnDK kb_format_sides_sides rfl
  have o_format_pattern := ok_format_pattern (base := base) M D_format_pattern d_is_some_pattern g_SPACE g_UNKNOWN x_InvalidPattern
  have d_format_pattern : FnD P w K mg base (lkOf P w mg) "format_pattern" 1 f_format_pattern 3 := o_format_pattern.fnD b_format_pattern
  have k_format_pattern_pattern : FnDK P w K mg base (lkOf P w mg) "format_pattern" 1 f_format_pattern 3 ["pattern"] [0] := o_format_pattern.fnDK kb_format_pattern_pattern rfl
  have o_words_of := ok_words_of (base := base) M D_words_of g_SPACE x_InvalidText
  have d_words_of : FnD P w K mg base (lkOf P w mg) "words_of" 1 f_words_of 1 := o_words_of.fnD b_words_of
  have o_check_text := ok_check_text (base := base) M D_check_text x_InvalidText
  have d_check_text : FnD P w K mg base (lkOf P w mg) "check_text" 1 f_check_text 1 := o_check_text.fnD b_check_text
  have o_parse_lane := ok_parse_lane (base := base) M D_parse_lane d_words_of d_check_text d_is_lane
  have d_parse_lane : FnD P w K mg base (lkOf P w mg) "parse_lane" 1 f_parse_lane 3 := o_parse_lane.fnD b_parse_lane
  have k_parse_lane_text : FnDK P w K mg base (lkOf P w mg) "parse_lane" 1 f_parse_lane 3 ["text"] [0] := o_parse_lane.fnDK kb_parse_lane_text rfl
  have o_event_of := ok_event_of (base := base) M D_event_of g_DEPARTURE g_OUT g_ARRIVAL g_IN
  have d_event_of : FnD P w K mg base (lkOf P w mg) "event_of" 1 f_event_of 1 := o_event_of.fnD b_event_of
  have o_parse_log := ok_parse_log (base := base) M D_parse_log d_event_of d_words_of d_check_text d_is_some_log
  have d_parse_log : FnD P w K mg base (lkOf P w mg) "parse_log" 1 f_parse_log 4 := o_parse_log.fnD b_parse_log
  have k_parse_log_text : FnDK P w K mg base (lkOf P w mg) "parse_log" 1 f_parse_log 4 ["text"] [0] := o_parse_log.fnDK kb_parse_log_text rfl
  have o_parse_sides := ok_parse_sides (base := base) M D_parse_sides d_check_text d_is_side x_InvalidText
  have d_parse_sides : FnD P w K mg base (lkOf P w mg) "parse_sides" 1 f_parse_sides 2 := o_parse_sides.fnD b_parse_sides
  have k_parse_sides_text : FnDK P w K mg base (lkOf P w mg) "parse_sides" 1 f_parse_sides 2 ["text"] [0] := o_parse_sides.fnDK kb_parse_sides_text rfl
  have o_parse_pattern := ok_parse_pattern (base := base) M D_parse_pattern d_words_of d_check_text d_is_some_pattern g_UNKNOWN
  have d_parse_pattern : FnD P w K mg base (lkOf P w mg) "parse_pattern" 1 f_parse_pattern 3 := o_parse_pattern.fnD b_parse_pattern
  have k_parse_pattern_text : FnDK P w K mg base (lkOf P w mg) "parse_pattern" 1 f_parse_pattern 3 ["text"] [0] := o_parse_pattern.fnDK kb_parse_pattern_text rfl
  have o__law_source := ok__law_source (base := base) M D__law_source 
  have d__law_source : FnD P w K mg base (lkOf P w mg) "_law_source" 2 f__law_source 1 := o__law_source.fnD b__law_source
  have o__law_draw := ok__law_draw (base := base) M D__law_draw 
  have d__law_draw : FnD P w K mg base (lkOf P w mg) "_law_draw" 2 f__law_draw 1 := o__law_draw.fnD b__law_draw
  have o__law_mixed := ok__law_mixed (base := base) M D__law_mixed d__law_draw
  have d__law_mixed : FnD P w K mg base (lkOf P w mg) "_law_mixed" 2 f__law_mixed 2 := o__law_mixed.fnD b__law_mixed
  have o__law_vehicles := ok__law_vehicles (base := base) M D__law_vehicles d__law_draw d__law_mixed
  have d__law_vehicles : FnD P w K mg base (lkOf P w mg) "_law_vehicles" 2 f__law_vehicles 3 := o__law_vehicles.fnD b__law_vehicles
  have o__law_made := ok__law_made (base := base) M D__law_made d__law_vehicles d__law_draw
  have d__law_made : FnD P w K mg base (lkOf P w mg) "_law_made" 1 f__law_made 4 := o__law_made.fnD b__law_made
  have o__law_joined := ok__law_joined (base := base) M D__law_joined 
  have d__law_joined : FnD P w K mg base (lkOf P w mg) "_law_joined" 2 f__law_joined 1 := o__law_joined.fnD b__law_joined
  have o__law_word := ok__law_word (base := base) M D__law_word 
  have d__law_word : FnD P w K mg base (lkOf P w mg) "_law_word" 1 f__law_word 1 := o__law_word.fnD b__law_word
  have o__law_note := ok__law_note (base := base) M D__law_note d__law_joined d__law_word
  have d__law_note : FnD P w K mg base (lkOf P w mg) "_law_note" 2 f__law_note 2 := o__law_note.fnD b__law_note
  have o__law_formatted := ok__law_formatted (base := base) M D__law_formatted d_format_lane d_format_log d_format_sides d_format_pattern k_format_lane_lane k_format_log_log k_format_sides_sides k_format_pattern_pattern D_format_pattern.fnV D_format_sides.fnV D_format_log.fnV D_format_lane.fnV
  have d__law_formatted : FnD P w K mg base (lkOf P w mg) "_law_formatted" 3 f__law_formatted 5 := o__law_formatted.fnD b__law_formatted
  have o__law_parsed := ok__law_parsed (base := base) M D__law_parsed d_parse_lane d_parse_log d_parse_sides d_parse_pattern k_parse_lane_text k_parse_log_text k_parse_sides_text k_parse_pattern_text D_parse_pattern.fnV D_parse_sides.fnV D_parse_log.fnV D_parse_lane.fnV
  have d__law_parsed : FnD P w K mg base (lkOf P w mg) "_law_parsed" 3 f__law_parsed 5 := o__law_parsed.fnD b__law_parsed
  have o__law_changed_right := ok__law_changed_right (base := base) M D__law_changed_right d__law_formatted d__law_note
  have d__law_changed_right : FnD P w K mg base (lkOf P w mg) "_law_changed_right" 2 f__law_changed_right 6 := o__law_changed_right.fnD b__law_changed_right
  have o__law_long_right := ok__law_long_right (base := base) M D__law_long_right d__law_note d__law_parsed d__law_formatted d_parse_log
  have d__law_long_right : FnD P w K mg base (lkOf P w mg) "_law_long_right" 0 f__law_long_right 6 := o__law_long_right.fnD b__law_long_right
  exact ok_law M D_law d__law_source d__law_made d__law_note d__law_formatted d__law_parsed d__law_changed_right d_parse_pattern d_parse_sides d_parse_log d_parse_lane d__law_long_right
end Tk46
set_option autoImplicit false
set_option linter.all false
set_option maxRecDepth 100000
namespace Tk46
open PySem Dn
def lowC (c : Nat) : Bool := decide (c ∈ ("abcdefghijklmnopqrstuvwxyz" : Str).cps.toList)
def carOk (x : Str) : Bool := decide (1 ≤ x.length) && decide (x.length ≤ 4) && x.cps.toList.all lowC
def charIn : D → Bool
  | .str y => y.cps.toList.all lowC
  | _ => false
@[simp] theorem charIn_sign (c : Nat) : charIn (.str (sign c)) = lowC c := by simp [charIn, sign]
theorem is_car_str (x : Str) (hx : x.length ≤ 1000000) : f_is_car [.d (.str x)] = .ret (.d (.bl (carOk x))) [none] := by
  unfold f_is_car m_is_car carOk
  by_cases h1 : 1 ≤ x.length
  · have i1 : (1 : Int) ≤ (x.length : Int) := by omega
    by_cases h2 : x.length ≤ 4
    · have i2 : (x.length : Int) ≤ 4 := by omega
      have h3 := eLcH_pure (i := 0) (vs := [1]) (g := gN 1) (t := tYesM) (e := e2 inO (bVar 1) (bVal (eC (D.str "abcdefghijklmnopqrstuvwxyz")))) (δ := [some (.d (.str x)), none]) (fun _ => true) (fun d => .bl (charIn d)) rfl rfl
        (by have : x.length = x.cps.size := rfl; simp; omega) (fun d hd => by
          obtain ⟨c, hc, rfl⟩ := List.mem_map.mp hd
          refine ⟨[some (.d (.str x)), some (.d (.str (sign c)))], [some (.d (.str x)), some (.d (.str (sign c)))], by simp [Dn.run, Dn.lent, Dn.outsL, Dn.sCons, Dn.sIf, Dn.sRet, Dn.sRetV, Dn.sRetN, Dn.sSet, Dn.sExpr, Dn.sNil, Dn.sRaise, Dn.put, Dn.eC, Dn.eVar, Dn.eMove, Dn.bVar, Dn.bVal, Dn.e1, Dn.e2, Dn.e2T, Dn.eN, Dn.aNil, Dn.aCons, Dn.rd, Dn.rdAll, Dn.ofOp, Dn.view, Dn.isOpen, Dn.asBool, Dn.tVal, Dn.tYesM, Dn.tAndM, Dn.tOrM, Dn.tNotM, Dn.eIf, Dn.eAnd, Dn.eOr, Dn.eNot, Dn.U1, Dn.U2, Dn.ob, Dn.oi, Dn.eDisp, Dn.tms, Dn.tupO, Dn.lstO, Dn.isStrD, Dn.isiO, Dn.isiB, Dn.inO, Dn.memD, Dn.eqvD, Dn.eqvL, Dn.cmpOk, Dn.plainD, Dn.plainL, Dn.depD, Dn.depL, Dn.eqO, Dn.neO, Dn.ixO, Dn.atD, Dn.ixNat, Dn.lenO, Dn.ltO, Dn.leO, Dn.gtO, Dn.geO, Dn.eChain, Dn.isO, Dn.notIsO, Dn.isNoneB, Dn.notO, Dn.ninO, Dn.eCall, Dn.callF, Dn.lend, Dn.giveBack, Dn.seqOf, Dn.wipeS, Dn.backS, Dn.gN, Dn.eMut, Dn.tupleO, Dn.listO, Dn.eCut, Dn.pNone, Dn.pSome, Dn.cutO, Function.comp_def, -List.map_map], rfl, by simp [Dn.run, Dn.lent, Dn.outsL, Dn.sCons, Dn.sIf, Dn.sRet, Dn.sRetV, Dn.sRetN, Dn.sSet, Dn.sExpr, Dn.sNil, Dn.sRaise, Dn.put, Dn.eC, Dn.eVar, Dn.eMove, Dn.bVar, Dn.bVal, Dn.e1, Dn.e2, Dn.e2T, Dn.eN, Dn.aNil, Dn.aCons, Dn.rd, Dn.rdAll, Dn.ofOp, Dn.view, Dn.isOpen, Dn.asBool, Dn.tVal, Dn.tYesM, Dn.tAndM, Dn.tOrM, Dn.tNotM, Dn.eIf, Dn.eAnd, Dn.eOr, Dn.eNot, Dn.U1, Dn.U2, Dn.ob, Dn.oi, Dn.eDisp, Dn.tms, Dn.tupO, Dn.lstO, Dn.isStrD, Dn.isiO, Dn.isiB, Dn.inO, Dn.memD, Dn.eqvD, Dn.eqvL, Dn.cmpOk, Dn.plainD, Dn.plainL, Dn.depD, Dn.depL, Dn.eqO, Dn.neO, Dn.ixO, Dn.atD, Dn.ixNat, Dn.lenO, Dn.ltO, Dn.leO, Dn.gtO, Dn.geO, Dn.eChain, Dn.isO, Dn.notIsO, Dn.isNoneB, Dn.notO, Dn.ninO, Dn.eCall, Dn.callF, Dn.lend, Dn.giveBack, Dn.seqOf, Dn.wipeS, Dn.backS, Dn.gN, Dn.eMut, Dn.tupleO, Dn.listO, Dn.eCut, Dn.pNone, Dn.pSome, Dn.cutO, Function.comp_def, -List.map_map], fun _ => ⟨.d (.bl (lowC c)), [some (.d (.str x)), some (.d (.str (sign c)))], ?_, ?_, by simp [Dn.run, Dn.lent, Dn.outsL, Dn.sCons, Dn.sIf, Dn.sRet, Dn.sRetV, Dn.sRetN, Dn.sSet, Dn.sExpr, Dn.sNil, Dn.sRaise, Dn.put, Dn.eC, Dn.eVar, Dn.eMove, Dn.bVar, Dn.bVal, Dn.e1, Dn.e2, Dn.e2T, Dn.eN, Dn.aNil, Dn.aCons, Dn.rd, Dn.rdAll, Dn.ofOp, Dn.view, Dn.isOpen, Dn.asBool, Dn.tVal, Dn.tYesM, Dn.tAndM, Dn.tOrM, Dn.tNotM, Dn.eIf, Dn.eAnd, Dn.eOr, Dn.eNot, Dn.U1, Dn.U2, Dn.ob, Dn.oi, Dn.eDisp, Dn.tms, Dn.tupO, Dn.lstO, Dn.isStrD, Dn.isiO, Dn.isiB, Dn.inO, Dn.memD, Dn.eqvD, Dn.eqvL, Dn.cmpOk, Dn.plainD, Dn.plainL, Dn.depD, Dn.depL, Dn.eqO, Dn.neO, Dn.ixO, Dn.atD, Dn.ixNat, Dn.lenO, Dn.ltO, Dn.leO, Dn.gtO, Dn.geO, Dn.eChain, Dn.isO, Dn.notIsO, Dn.isNoneB, Dn.notO, Dn.ninO, Dn.eCall, Dn.callF, Dn.lend, Dn.giveBack, Dn.seqOf, Dn.wipeS, Dn.backS, Dn.gN, Dn.eMut, Dn.tupleO, Dn.listO, Dn.eCut, Dn.pNone, Dn.pSome, Dn.cutO, Function.comp_def, -List.map_map]⟩⟩
          · simp [Dn.run, Dn.lent, Dn.outsL, Dn.sCons, Dn.sIf, Dn.sRet, Dn.sRetV, Dn.sRetN, Dn.sSet, Dn.sExpr, Dn.sNil, Dn.sRaise, Dn.put, Dn.eC, Dn.eVar, Dn.eMove, Dn.bVar, Dn.bVal, Dn.e1, Dn.e2, Dn.e2T, Dn.eN, Dn.aNil, Dn.aCons, Dn.rd, Dn.rdAll, Dn.ofOp, Dn.view, Dn.isOpen, Dn.asBool, Dn.tVal, Dn.tYesM, Dn.tAndM, Dn.tOrM, Dn.tNotM, Dn.eIf, Dn.eAnd, Dn.eOr, Dn.eNot, Dn.U1, Dn.U2, Dn.ob, Dn.oi, Dn.eDisp, Dn.tms, Dn.tupO, Dn.lstO, Dn.isStrD, Dn.isiO, Dn.isiB, Dn.inO, Dn.memD, Dn.eqvD, Dn.eqvL, Dn.cmpOk, Dn.plainD, Dn.plainL, Dn.depD, Dn.depL, Dn.eqO, Dn.neO, Dn.ixO, Dn.atD, Dn.ixNat, Dn.lenO, Dn.ltO, Dn.leO, Dn.gtO, Dn.geO, Dn.eChain, Dn.isO, Dn.notIsO, Dn.isNoneB, Dn.notO, Dn.ninO, Dn.eCall, Dn.callF, Dn.lend, Dn.giveBack, Dn.seqOf, Dn.wipeS, Dn.backS, Dn.gN, Dn.eMut, Dn.tupleO, Dn.listO, Dn.eCut, Dn.pNone, Dn.pSome, Dn.cutO, Function.comp_def, -List.map_map, sign, lowC]
          · simp [view])
      rw [filter_true] at h3
      simp [Dn.run, Dn.lent, Dn.outsL, Dn.sCons, Dn.sIf, Dn.sRet, Dn.sRetV, Dn.sRetN, Dn.sSet, Dn.sExpr, Dn.sNil, Dn.sRaise, Dn.put, Dn.eC, Dn.eVar, Dn.eMove, Dn.bVar, Dn.bVal, Dn.e1, Dn.e2, Dn.e2T, Dn.eN, Dn.aNil, Dn.aCons, Dn.rd, Dn.rdAll, Dn.ofOp, Dn.view, Dn.isOpen, Dn.asBool, Dn.tVal, Dn.tYesM, Dn.tAndM, Dn.tOrM, Dn.tNotM, Dn.eIf, Dn.eAnd, Dn.eOr, Dn.eNot, Dn.U1, Dn.U2, Dn.ob, Dn.oi, Dn.eDisp, Dn.tms, Dn.tupO, Dn.lstO, Dn.isStrD, Dn.isiO, Dn.isiB, Dn.inO, Dn.memD, Dn.eqvD, Dn.eqvL, Dn.cmpOk, Dn.plainD, Dn.plainL, Dn.depD, Dn.depL, Dn.eqO, Dn.neO, Dn.ixO, Dn.atD, Dn.ixNat, Dn.lenO, Dn.ltO, Dn.leO, Dn.gtO, Dn.geO, Dn.eChain, Dn.isO, Dn.notIsO, Dn.isNoneB, Dn.notO, Dn.ninO, Dn.eCall, Dn.callF, Dn.lend, Dn.giveBack, Dn.seqOf, Dn.wipeS, Dn.backS, Dn.gN, Dn.eMut, Dn.tupleO, Dn.listO, Dn.eCut, Dn.pNone, Dn.pSome, Dn.cutO, Function.comp_def, -List.map_map, hx, h1, h2, i1, i2, h3, allO_map]
    · have i2 : ¬ (x.length : Int) ≤ 4 := by omega
      simp [Dn.run, Dn.lent, Dn.outsL, Dn.sCons, Dn.sIf, Dn.sRet, Dn.sRetV, Dn.sRetN, Dn.sSet, Dn.sExpr, Dn.sNil, Dn.sRaise, Dn.put, Dn.eC, Dn.eVar, Dn.eMove, Dn.bVar, Dn.bVal, Dn.e1, Dn.e2, Dn.e2T, Dn.eN, Dn.aNil, Dn.aCons, Dn.rd, Dn.rdAll, Dn.ofOp, Dn.view, Dn.isOpen, Dn.asBool, Dn.tVal, Dn.tYesM, Dn.tAndM, Dn.tOrM, Dn.tNotM, Dn.eIf, Dn.eAnd, Dn.eOr, Dn.eNot, Dn.U1, Dn.U2, Dn.ob, Dn.oi, Dn.eDisp, Dn.tms, Dn.tupO, Dn.lstO, Dn.isStrD, Dn.isiO, Dn.isiB, Dn.inO, Dn.memD, Dn.eqvD, Dn.eqvL, Dn.cmpOk, Dn.plainD, Dn.plainL, Dn.depD, Dn.depL, Dn.eqO, Dn.neO, Dn.ixO, Dn.atD, Dn.ixNat, Dn.lenO, Dn.ltO, Dn.leO, Dn.gtO, Dn.geO, Dn.eChain, Dn.isO, Dn.notIsO, Dn.isNoneB, Dn.notO, Dn.ninO, Dn.eCall, Dn.callF, Dn.lend, Dn.giveBack, Dn.seqOf, Dn.wipeS, Dn.backS, Dn.gN, Dn.eMut, Dn.tupleO, Dn.listO, Dn.eCut, Dn.pNone, Dn.pSome, Dn.cutO, Function.comp_def, -List.map_map, hx, h1, h2, i1, i2]
  · have i1 : ¬ (1 : Int) ≤ (x.length : Int) := by omega
    simp [Dn.run, Dn.lent, Dn.outsL, Dn.sCons, Dn.sIf, Dn.sRet, Dn.sRetV, Dn.sRetN, Dn.sSet, Dn.sExpr, Dn.sNil, Dn.sRaise, Dn.put, Dn.eC, Dn.eVar, Dn.eMove, Dn.bVar, Dn.bVal, Dn.e1, Dn.e2, Dn.e2T, Dn.eN, Dn.aNil, Dn.aCons, Dn.rd, Dn.rdAll, Dn.ofOp, Dn.view, Dn.isOpen, Dn.asBool, Dn.tVal, Dn.tYesM, Dn.tAndM, Dn.tOrM, Dn.tNotM, Dn.eIf, Dn.eAnd, Dn.eOr, Dn.eNot, Dn.U1, Dn.U2, Dn.ob, Dn.oi, Dn.eDisp, Dn.tms, Dn.tupO, Dn.lstO, Dn.isStrD, Dn.isiO, Dn.isiB, Dn.inO, Dn.memD, Dn.eqvD, Dn.eqvL, Dn.cmpOk, Dn.plainD, Dn.plainL, Dn.depD, Dn.depL, Dn.eqO, Dn.neO, Dn.ixO, Dn.atD, Dn.ixNat, Dn.lenO, Dn.ltO, Dn.leO, Dn.gtO, Dn.geO, Dn.eChain, Dn.isO, Dn.notIsO, Dn.isNoneB, Dn.notO, Dn.ninO, Dn.eCall, Dn.callF, Dn.lend, Dn.giveBack, Dn.seqOf, Dn.wipeS, Dn.backS, Dn.gN, Dn.eMut, Dn.tupleO, Dn.listO, Dn.eCut, Dn.pNone, Dn.pSome, Dn.cutO, Function.comp_def, -List.map_map, hx, h1, i1]
/-- values that the checks can look at -/
def okD : D → Bool
  | .str x => decide (x.length ≤ 1000000)
  | .non | .bl _ | .int _ | .tup _ | .lst _ | .dct _ => true
  | _ => false
def carD : D → Bool
  | .str x => carOk x
  | _ => false
theorem is_car_d (d : D) (h : okD d = true) : f_is_car [.d d] = .ret (.d (.bl (carD d))) [none] := by
  cases d with
  | str x => exact is_car_str x (by simpa [okD] using h)
  | non => unfold f_is_car m_is_car; simp [Dn.run, Dn.lent, Dn.outsL, Dn.sCons, Dn.sIf, Dn.sRet, Dn.sRetV, Dn.sRetN, Dn.sSet, Dn.sExpr, Dn.sNil, Dn.sRaise, Dn.put, Dn.eC, Dn.eVar, Dn.eMove, Dn.bVar, Dn.bVal, Dn.e1, Dn.e2, Dn.e2T, Dn.eN, Dn.aNil, Dn.aCons, Dn.rd, Dn.rdAll, Dn.ofOp, Dn.view, Dn.isOpen, Dn.asBool, Dn.tVal, Dn.tYesM, Dn.tAndM, Dn.tOrM, Dn.tNotM, Dn.eIf, Dn.eAnd, Dn.eOr, Dn.eNot, Dn.U1, Dn.U2, Dn.ob, Dn.oi, Dn.eDisp, Dn.tms, Dn.tupO, Dn.lstO, Dn.isStrD, Dn.isiO, Dn.isiB, Dn.inO, Dn.memD, Dn.eqvD, Dn.eqvL, Dn.cmpOk, Dn.plainD, Dn.plainL, Dn.depD, Dn.depL, Dn.eqO, Dn.neO, Dn.ixO, Dn.atD, Dn.ixNat, Dn.lenO, Dn.ltO, Dn.leO, Dn.gtO, Dn.geO, Dn.eChain, Dn.isO, Dn.notIsO, Dn.isNoneB, Dn.notO, Dn.ninO, Dn.eCall, Dn.callF, Dn.lend, Dn.giveBack, Dn.seqOf, Dn.wipeS, Dn.backS, Dn.gN, Dn.eMut, Dn.tupleO, Dn.listO, Dn.eCut, Dn.pNone, Dn.pSome, Dn.cutO, Function.comp_def, -List.map_map, carD]
  | bl b => unfold f_is_car m_is_car; simp [Dn.run, Dn.lent, Dn.outsL, Dn.sCons, Dn.sIf, Dn.sRet, Dn.sRetV, Dn.sRetN, Dn.sSet, Dn.sExpr, Dn.sNil, Dn.sRaise, Dn.put, Dn.eC, Dn.eVar, Dn.eMove, Dn.bVar, Dn.bVal, Dn.e1, Dn.e2, Dn.e2T, Dn.eN, Dn.aNil, Dn.aCons, Dn.rd, Dn.rdAll, Dn.ofOp, Dn.view, Dn.isOpen, Dn.asBool, Dn.tVal, Dn.tYesM, Dn.tAndM, Dn.tOrM, Dn.tNotM, Dn.eIf, Dn.eAnd, Dn.eOr, Dn.eNot, Dn.U1, Dn.U2, Dn.ob, Dn.oi, Dn.eDisp, Dn.tms, Dn.tupO, Dn.lstO, Dn.isStrD, Dn.isiO, Dn.isiB, Dn.inO, Dn.memD, Dn.eqvD, Dn.eqvL, Dn.cmpOk, Dn.plainD, Dn.plainL, Dn.depD, Dn.depL, Dn.eqO, Dn.neO, Dn.ixO, Dn.atD, Dn.ixNat, Dn.lenO, Dn.ltO, Dn.leO, Dn.gtO, Dn.geO, Dn.eChain, Dn.isO, Dn.notIsO, Dn.isNoneB, Dn.notO, Dn.ninO, Dn.eCall, Dn.callF, Dn.lend, Dn.giveBack, Dn.seqOf, Dn.wipeS, Dn.backS, Dn.gN, Dn.eMut, Dn.tupleO, Dn.listO, Dn.eCut, Dn.pNone, Dn.pSome, Dn.cutO, Function.comp_def, -List.map_map, carD]
  | int b => unfold f_is_car m_is_car; simp [Dn.run, Dn.lent, Dn.outsL, Dn.sCons, Dn.sIf, Dn.sRet, Dn.sRetV, Dn.sRetN, Dn.sSet, Dn.sExpr, Dn.sNil, Dn.sRaise, Dn.put, Dn.eC, Dn.eVar, Dn.eMove, Dn.bVar, Dn.bVal, Dn.e1, Dn.e2, Dn.e2T, Dn.eN, Dn.aNil, Dn.aCons, Dn.rd, Dn.rdAll, Dn.ofOp, Dn.view, Dn.isOpen, Dn.asBool, Dn.tVal, Dn.tYesM, Dn.tAndM, Dn.tOrM, Dn.tNotM, Dn.eIf, Dn.eAnd, Dn.eOr, Dn.eNot, Dn.U1, Dn.U2, Dn.ob, Dn.oi, Dn.eDisp, Dn.tms, Dn.tupO, Dn.lstO, Dn.isStrD, Dn.isiO, Dn.isiB, Dn.inO, Dn.memD, Dn.eqvD, Dn.eqvL, Dn.cmpOk, Dn.plainD, Dn.plainL, Dn.depD, Dn.depL, Dn.eqO, Dn.neO, Dn.ixO, Dn.atD, Dn.ixNat, Dn.lenO, Dn.ltO, Dn.leO, Dn.gtO, Dn.geO, Dn.eChain, Dn.isO, Dn.notIsO, Dn.isNoneB, Dn.notO, Dn.ninO, Dn.eCall, Dn.callF, Dn.lend, Dn.giveBack, Dn.seqOf, Dn.wipeS, Dn.backS, Dn.gN, Dn.eMut, Dn.tupleO, Dn.listO, Dn.eCut, Dn.pNone, Dn.pSome, Dn.cutO, Function.comp_def, -List.map_map, carD]
  | tup b => unfold f_is_car m_is_car; simp [Dn.run, Dn.lent, Dn.outsL, Dn.sCons, Dn.sIf, Dn.sRet, Dn.sRetV, Dn.sRetN, Dn.sSet, Dn.sExpr, Dn.sNil, Dn.sRaise, Dn.put, Dn.eC, Dn.eVar, Dn.eMove, Dn.bVar, Dn.bVal, Dn.e1, Dn.e2, Dn.e2T, Dn.eN, Dn.aNil, Dn.aCons, Dn.rd, Dn.rdAll, Dn.ofOp, Dn.view, Dn.isOpen, Dn.asBool, Dn.tVal, Dn.tYesM, Dn.tAndM, Dn.tOrM, Dn.tNotM, Dn.eIf, Dn.eAnd, Dn.eOr, Dn.eNot, Dn.U1, Dn.U2, Dn.ob, Dn.oi, Dn.eDisp, Dn.tms, Dn.tupO, Dn.lstO, Dn.isStrD, Dn.isiO, Dn.isiB, Dn.inO, Dn.memD, Dn.eqvD, Dn.eqvL, Dn.cmpOk, Dn.plainD, Dn.plainL, Dn.depD, Dn.depL, Dn.eqO, Dn.neO, Dn.ixO, Dn.atD, Dn.ixNat, Dn.lenO, Dn.ltO, Dn.leO, Dn.gtO, Dn.geO, Dn.eChain, Dn.isO, Dn.notIsO, Dn.isNoneB, Dn.notO, Dn.ninO, Dn.eCall, Dn.callF, Dn.lend, Dn.giveBack, Dn.seqOf, Dn.wipeS, Dn.backS, Dn.gN, Dn.eMut, Dn.tupleO, Dn.listO, Dn.eCut, Dn.pNone, Dn.pSome, Dn.cutO, Function.comp_def, -List.map_map, carD]
  | lst b => unfold f_is_car m_is_car; simp [Dn.run, Dn.lent, Dn.outsL, Dn.sCons, Dn.sIf, Dn.sRet, Dn.sRetV, Dn.sRetN, Dn.sSet, Dn.sExpr, Dn.sNil, Dn.sRaise, Dn.put, Dn.eC, Dn.eVar, Dn.eMove, Dn.bVar, Dn.bVal, Dn.e1, Dn.e2, Dn.e2T, Dn.eN, Dn.aNil, Dn.aCons, Dn.rd, Dn.rdAll, Dn.ofOp, Dn.view, Dn.isOpen, Dn.asBool, Dn.tVal, Dn.tYesM, Dn.tAndM, Dn.tOrM, Dn.tNotM, Dn.eIf, Dn.eAnd, Dn.eOr, Dn.eNot, Dn.U1, Dn.U2, Dn.ob, Dn.oi, Dn.eDisp, Dn.tms, Dn.tupO, Dn.lstO, Dn.isStrD, Dn.isiO, Dn.isiB, Dn.inO, Dn.memD, Dn.eqvD, Dn.eqvL, Dn.cmpOk, Dn.plainD, Dn.plainL, Dn.depD, Dn.depL, Dn.eqO, Dn.neO, Dn.ixO, Dn.atD, Dn.ixNat, Dn.lenO, Dn.ltO, Dn.leO, Dn.gtO, Dn.geO, Dn.eChain, Dn.isO, Dn.notIsO, Dn.isNoneB, Dn.notO, Dn.ninO, Dn.eCall, Dn.callF, Dn.lend, Dn.giveBack, Dn.seqOf, Dn.wipeS, Dn.backS, Dn.gN, Dn.eMut, Dn.tupleO, Dn.listO, Dn.eCut, Dn.pNone, Dn.pSome, Dn.cutO, Function.comp_def, -List.map_map, carD]
  | dct b => unfold f_is_car m_is_car; simp [Dn.run, Dn.lent, Dn.outsL, Dn.sCons, Dn.sIf, Dn.sRet, Dn.sRetV, Dn.sRetN, Dn.sSet, Dn.sExpr, Dn.sNil, Dn.sRaise, Dn.put, Dn.eC, Dn.eVar, Dn.eMove, Dn.bVar, Dn.bVal, Dn.e1, Dn.e2, Dn.e2T, Dn.eN, Dn.aNil, Dn.aCons, Dn.rd, Dn.rdAll, Dn.ofOp, Dn.view, Dn.isOpen, Dn.asBool, Dn.tVal, Dn.tYesM, Dn.tAndM, Dn.tOrM, Dn.tNotM, Dn.eIf, Dn.eAnd, Dn.eOr, Dn.eNot, Dn.U1, Dn.U2, Dn.ob, Dn.oi, Dn.eDisp, Dn.tms, Dn.tupO, Dn.lstO, Dn.isStrD, Dn.isiO, Dn.isiB, Dn.inO, Dn.memD, Dn.eqvD, Dn.eqvL, Dn.cmpOk, Dn.plainD, Dn.plainL, Dn.depD, Dn.depL, Dn.eqO, Dn.neO, Dn.ixO, Dn.atD, Dn.ixNat, Dn.lenO, Dn.ltO, Dn.leO, Dn.gtO, Dn.geO, Dn.eChain, Dn.isO, Dn.notIsO, Dn.isNoneB, Dn.notO, Dn.ninO, Dn.eCall, Dn.callF, Dn.lend, Dn.giveBack, Dn.seqOf, Dn.wipeS, Dn.backS, Dn.gN, Dn.eMut, Dn.tupleO, Dn.listO, Dn.eCut, Dn.pNone, Dn.pSome, Dn.cutO, Function.comp_def, -List.map_map, carD]
  | set b => cases h
  | obj b c => cases h
  | fn b => cases h
  | scr b => cases h
def sideD : D → Bool
  | .str x => x == "L" || x == "R"
  | _ => false
theorem beq_comm' (x y : Str) : (x == y) = (y == x) := by
  by_cases h : x = y
  · subst h; rfl
  · have h2 : ¬ y = x := fun z => h z.symm
    rw [beq_eq_false_iff_ne.mpr h, beq_eq_false_iff_ne.mpr h2]
theorem is_side_d (d : D) (h : okD d = true) : f_is_side [.d d] = .ret (.d (.bl (sideD d))) [none] := by
  cases d with
  | str x => unfold f_is_side m_is_side; simp [Dn.run, Dn.lent, Dn.outsL, Dn.sCons, Dn.sIf, Dn.sRet, Dn.sRetV, Dn.sRetN, Dn.sSet, Dn.sExpr, Dn.sNil, Dn.sRaise, Dn.put, Dn.eC, Dn.eVar, Dn.eMove, Dn.bVar, Dn.bVal, Dn.e1, Dn.e2, Dn.e2T, Dn.eN, Dn.aNil, Dn.aCons, Dn.rd, Dn.rdAll, Dn.ofOp, Dn.view, Dn.isOpen, Dn.asBool, Dn.tVal, Dn.tYesM, Dn.tAndM, Dn.tOrM, Dn.tNotM, Dn.eIf, Dn.eAnd, Dn.eOr, Dn.eNot, Dn.U1, Dn.U2, Dn.ob, Dn.oi, Dn.eDisp, Dn.tms, Dn.tupO, Dn.lstO, Dn.isStrD, Dn.isiO, Dn.isiB, Dn.inO, Dn.memD, Dn.eqvD, Dn.eqvL, Dn.cmpOk, Dn.plainD, Dn.plainL, Dn.depD, Dn.depL, Dn.eqO, Dn.neO, Dn.ixO, Dn.atD, Dn.ixNat, Dn.lenO, Dn.ltO, Dn.leO, Dn.gtO, Dn.geO, Dn.eChain, Dn.isO, Dn.notIsO, Dn.isNoneB, Dn.notO, Dn.ninO, Dn.eCall, Dn.callF, Dn.lend, Dn.giveBack, Dn.seqOf, Dn.wipeS, Dn.backS, Dn.gN, Dn.eMut, Dn.tupleO, Dn.listO, Dn.eCut, Dn.pNone, Dn.pSome, Dn.cutO, Function.comp_def, -List.map_map, sideD, beq_comm' x]
  | non => unfold f_is_side m_is_side; simp [Dn.run, Dn.lent, Dn.outsL, Dn.sCons, Dn.sIf, Dn.sRet, Dn.sRetV, Dn.sRetN, Dn.sSet, Dn.sExpr, Dn.sNil, Dn.sRaise, Dn.put, Dn.eC, Dn.eVar, Dn.eMove, Dn.bVar, Dn.bVal, Dn.e1, Dn.e2, Dn.e2T, Dn.eN, Dn.aNil, Dn.aCons, Dn.rd, Dn.rdAll, Dn.ofOp, Dn.view, Dn.isOpen, Dn.asBool, Dn.tVal, Dn.tYesM, Dn.tAndM, Dn.tOrM, Dn.tNotM, Dn.eIf, Dn.eAnd, Dn.eOr, Dn.eNot, Dn.U1, Dn.U2, Dn.ob, Dn.oi, Dn.eDisp, Dn.tms, Dn.tupO, Dn.lstO, Dn.isStrD, Dn.isiO, Dn.isiB, Dn.inO, Dn.memD, Dn.eqvD, Dn.eqvL, Dn.cmpOk, Dn.plainD, Dn.plainL, Dn.depD, Dn.depL, Dn.eqO, Dn.neO, Dn.ixO, Dn.atD, Dn.ixNat, Dn.lenO, Dn.ltO, Dn.leO, Dn.gtO, Dn.geO, Dn.eChain, Dn.isO, Dn.notIsO, Dn.isNoneB, Dn.notO, Dn.ninO, Dn.eCall, Dn.callF, Dn.lend, Dn.giveBack, Dn.seqOf, Dn.wipeS, Dn.backS, Dn.gN, Dn.eMut, Dn.tupleO, Dn.listO, Dn.eCut, Dn.pNone, Dn.pSome, Dn.cutO, Function.comp_def, -List.map_map, sideD]
  | bl b => unfold f_is_side m_is_side; simp [Dn.run, Dn.lent, Dn.outsL, Dn.sCons, Dn.sIf, Dn.sRet, Dn.sRetV, Dn.sRetN, Dn.sSet, Dn.sExpr, Dn.sNil, Dn.sRaise, Dn.put, Dn.eC, Dn.eVar, Dn.eMove, Dn.bVar, Dn.bVal, Dn.e1, Dn.e2, Dn.e2T, Dn.eN, Dn.aNil, Dn.aCons, Dn.rd, Dn.rdAll, Dn.ofOp, Dn.view, Dn.isOpen, Dn.asBool, Dn.tVal, Dn.tYesM, Dn.tAndM, Dn.tOrM, Dn.tNotM, Dn.eIf, Dn.eAnd, Dn.eOr, Dn.eNot, Dn.U1, Dn.U2, Dn.ob, Dn.oi, Dn.eDisp, Dn.tms, Dn.tupO, Dn.lstO, Dn.isStrD, Dn.isiO, Dn.isiB, Dn.inO, Dn.memD, Dn.eqvD, Dn.eqvL, Dn.cmpOk, Dn.plainD, Dn.plainL, Dn.depD, Dn.depL, Dn.eqO, Dn.neO, Dn.ixO, Dn.atD, Dn.ixNat, Dn.lenO, Dn.ltO, Dn.leO, Dn.gtO, Dn.geO, Dn.eChain, Dn.isO, Dn.notIsO, Dn.isNoneB, Dn.notO, Dn.ninO, Dn.eCall, Dn.callF, Dn.lend, Dn.giveBack, Dn.seqOf, Dn.wipeS, Dn.backS, Dn.gN, Dn.eMut, Dn.tupleO, Dn.listO, Dn.eCut, Dn.pNone, Dn.pSome, Dn.cutO, Function.comp_def, -List.map_map, sideD]
  | int b => unfold f_is_side m_is_side; simp [Dn.run, Dn.lent, Dn.outsL, Dn.sCons, Dn.sIf, Dn.sRet, Dn.sRetV, Dn.sRetN, Dn.sSet, Dn.sExpr, Dn.sNil, Dn.sRaise, Dn.put, Dn.eC, Dn.eVar, Dn.eMove, Dn.bVar, Dn.bVal, Dn.e1, Dn.e2, Dn.e2T, Dn.eN, Dn.aNil, Dn.aCons, Dn.rd, Dn.rdAll, Dn.ofOp, Dn.view, Dn.isOpen, Dn.asBool, Dn.tVal, Dn.tYesM, Dn.tAndM, Dn.tOrM, Dn.tNotM, Dn.eIf, Dn.eAnd, Dn.eOr, Dn.eNot, Dn.U1, Dn.U2, Dn.ob, Dn.oi, Dn.eDisp, Dn.tms, Dn.tupO, Dn.lstO, Dn.isStrD, Dn.isiO, Dn.isiB, Dn.inO, Dn.memD, Dn.eqvD, Dn.eqvL, Dn.cmpOk, Dn.plainD, Dn.plainL, Dn.depD, Dn.depL, Dn.eqO, Dn.neO, Dn.ixO, Dn.atD, Dn.ixNat, Dn.lenO, Dn.ltO, Dn.leO, Dn.gtO, Dn.geO, Dn.eChain, Dn.isO, Dn.notIsO, Dn.isNoneB, Dn.notO, Dn.ninO, Dn.eCall, Dn.callF, Dn.lend, Dn.giveBack, Dn.seqOf, Dn.wipeS, Dn.backS, Dn.gN, Dn.eMut, Dn.tupleO, Dn.listO, Dn.eCut, Dn.pNone, Dn.pSome, Dn.cutO, Function.comp_def, -List.map_map, sideD]
  | tup b => unfold f_is_side m_is_side; simp [Dn.run, Dn.lent, Dn.outsL, Dn.sCons, Dn.sIf, Dn.sRet, Dn.sRetV, Dn.sRetN, Dn.sSet, Dn.sExpr, Dn.sNil, Dn.sRaise, Dn.put, Dn.eC, Dn.eVar, Dn.eMove, Dn.bVar, Dn.bVal, Dn.e1, Dn.e2, Dn.e2T, Dn.eN, Dn.aNil, Dn.aCons, Dn.rd, Dn.rdAll, Dn.ofOp, Dn.view, Dn.isOpen, Dn.asBool, Dn.tVal, Dn.tYesM, Dn.tAndM, Dn.tOrM, Dn.tNotM, Dn.eIf, Dn.eAnd, Dn.eOr, Dn.eNot, Dn.U1, Dn.U2, Dn.ob, Dn.oi, Dn.eDisp, Dn.tms, Dn.tupO, Dn.lstO, Dn.isStrD, Dn.isiO, Dn.isiB, Dn.inO, Dn.memD, Dn.eqvD, Dn.eqvL, Dn.cmpOk, Dn.plainD, Dn.plainL, Dn.depD, Dn.depL, Dn.eqO, Dn.neO, Dn.ixO, Dn.atD, Dn.ixNat, Dn.lenO, Dn.ltO, Dn.leO, Dn.gtO, Dn.geO, Dn.eChain, Dn.isO, Dn.notIsO, Dn.isNoneB, Dn.notO, Dn.ninO, Dn.eCall, Dn.callF, Dn.lend, Dn.giveBack, Dn.seqOf, Dn.wipeS, Dn.backS, Dn.gN, Dn.eMut, Dn.tupleO, Dn.listO, Dn.eCut, Dn.pNone, Dn.pSome, Dn.cutO, Function.comp_def, -List.map_map, sideD]
  | lst b => unfold f_is_side m_is_side; simp [Dn.run, Dn.lent, Dn.outsL, Dn.sCons, Dn.sIf, Dn.sRet, Dn.sRetV, Dn.sRetN, Dn.sSet, Dn.sExpr, Dn.sNil, Dn.sRaise, Dn.put, Dn.eC, Dn.eVar, Dn.eMove, Dn.bVar, Dn.bVal, Dn.e1, Dn.e2, Dn.e2T, Dn.eN, Dn.aNil, Dn.aCons, Dn.rd, Dn.rdAll, Dn.ofOp, Dn.view, Dn.isOpen, Dn.asBool, Dn.tVal, Dn.tYesM, Dn.tAndM, Dn.tOrM, Dn.tNotM, Dn.eIf, Dn.eAnd, Dn.eOr, Dn.eNot, Dn.U1, Dn.U2, Dn.ob, Dn.oi, Dn.eDisp, Dn.tms, Dn.tupO, Dn.lstO, Dn.isStrD, Dn.isiO, Dn.isiB, Dn.inO, Dn.memD, Dn.eqvD, Dn.eqvL, Dn.cmpOk, Dn.plainD, Dn.plainL, Dn.depD, Dn.depL, Dn.eqO, Dn.neO, Dn.ixO, Dn.atD, Dn.ixNat, Dn.lenO, Dn.ltO, Dn.leO, Dn.gtO, Dn.geO, Dn.eChain, Dn.isO, Dn.notIsO, Dn.isNoneB, Dn.notO, Dn.ninO, Dn.eCall, Dn.callF, Dn.lend, Dn.giveBack, Dn.seqOf, Dn.wipeS, Dn.backS, Dn.gN, Dn.eMut, Dn.tupleO, Dn.listO, Dn.eCut, Dn.pNone, Dn.pSome, Dn.cutO, Function.comp_def, -List.map_map, sideD]
  | dct b => unfold f_is_side m_is_side; simp [Dn.run, Dn.lent, Dn.outsL, Dn.sCons, Dn.sIf, Dn.sRet, Dn.sRetV, Dn.sRetN, Dn.sSet, Dn.sExpr, Dn.sNil, Dn.sRaise, Dn.put, Dn.eC, Dn.eVar, Dn.eMove, Dn.bVar, Dn.bVal, Dn.e1, Dn.e2, Dn.e2T, Dn.eN, Dn.aNil, Dn.aCons, Dn.rd, Dn.rdAll, Dn.ofOp, Dn.view, Dn.isOpen, Dn.asBool, Dn.tVal, Dn.tYesM, Dn.tAndM, Dn.tOrM, Dn.tNotM, Dn.eIf, Dn.eAnd, Dn.eOr, Dn.eNot, Dn.U1, Dn.U2, Dn.ob, Dn.oi, Dn.eDisp, Dn.tms, Dn.tupO, Dn.lstO, Dn.isStrD, Dn.isiO, Dn.isiB, Dn.inO, Dn.memD, Dn.eqvD, Dn.eqvL, Dn.cmpOk, Dn.plainD, Dn.plainL, Dn.depD, Dn.depL, Dn.eqO, Dn.neO, Dn.ixO, Dn.atD, Dn.ixNat, Dn.lenO, Dn.ltO, Dn.leO, Dn.gtO, Dn.geO, Dn.eChain, Dn.isO, Dn.notIsO, Dn.isNoneB, Dn.notO, Dn.ninO, Dn.eCall, Dn.callF, Dn.lend, Dn.giveBack, Dn.seqOf, Dn.wipeS, Dn.backS, Dn.gN, Dn.eMut, Dn.tupleO, Dn.listO, Dn.eCut, Dn.pNone, Dn.pSome, Dn.cutO, Function.comp_def, -List.map_map, sideD]
  | set b => cases h
  | obj b c => cases h
  | fn b => cases h
  | scr b => cases h
def arrD : D → Bool
  | .tup [.str a, x] => a == "in" && carD x
  | _ => false
def depaD : D → Bool
  | .tup [.str a] => a == "out"
  | _ => false
def okE : D → Bool
  | .tup xs => xs.all okD
  | d => okD d
theorem is_dep_d (d : D) (h : okE d = true) : f_is_departure [.d d] = .ret (.d (.bl (depaD d))) [none] := by
  unfold f_is_departure m_is_departure
  cases d with
  | tup xs =>
    match xs, h with
    | [], _ => simp [Dn.run, Dn.lent, Dn.outsL, Dn.sCons, Dn.sIf, Dn.sRet, Dn.sRetV, Dn.sRetN, Dn.sSet, Dn.sExpr, Dn.sNil, Dn.sRaise, Dn.put, Dn.eC, Dn.eVar, Dn.eMove, Dn.bVar, Dn.bVal, Dn.e1, Dn.e2, Dn.e2T, Dn.eN, Dn.aNil, Dn.aCons, Dn.rd, Dn.rdAll, Dn.ofOp, Dn.view, Dn.isOpen, Dn.asBool, Dn.tVal, Dn.tYesM, Dn.tAndM, Dn.tOrM, Dn.tNotM, Dn.eIf, Dn.eAnd, Dn.eOr, Dn.eNot, Dn.U1, Dn.U2, Dn.ob, Dn.oi, Dn.eDisp, Dn.tms, Dn.tupO, Dn.lstO, Dn.isStrD, Dn.isiO, Dn.isiB, Dn.inO, Dn.memD, Dn.eqvD, Dn.eqvL, Dn.cmpOk, Dn.plainD, Dn.plainL, Dn.depD, Dn.depL, Dn.eqO, Dn.neO, Dn.ixO, Dn.atD, Dn.ixNat, Dn.lenO, Dn.ltO, Dn.leO, Dn.gtO, Dn.geO, Dn.eChain, Dn.isO, Dn.notIsO, Dn.isNoneB, Dn.notO, Dn.ninO, Dn.eCall, Dn.callF, Dn.lend, Dn.giveBack, Dn.seqOf, Dn.wipeS, Dn.backS, Dn.gN, Dn.eMut, Dn.tupleO, Dn.listO, Dn.eCut, Dn.pNone, Dn.pSome, Dn.cutO, Function.comp_def, -List.map_map, depaD]
    | [x], h =>
      have h : okD x = true := by simpa [okE] using h
      cases x <;> first | (cases h; done) | simp [Dn.run, Dn.lent, Dn.outsL, Dn.sCons, Dn.sIf, Dn.sRet, Dn.sRetV, Dn.sRetN, Dn.sSet, Dn.sExpr, Dn.sNil, Dn.sRaise, Dn.put, Dn.eC, Dn.eVar, Dn.eMove, Dn.bVar, Dn.bVal, Dn.e1, Dn.e2, Dn.e2T, Dn.eN, Dn.aNil, Dn.aCons, Dn.rd, Dn.rdAll, Dn.ofOp, Dn.view, Dn.isOpen, Dn.asBool, Dn.tVal, Dn.tYesM, Dn.tAndM, Dn.tOrM, Dn.tNotM, Dn.eIf, Dn.eAnd, Dn.eOr, Dn.eNot, Dn.U1, Dn.U2, Dn.ob, Dn.oi, Dn.eDisp, Dn.tms, Dn.tupO, Dn.lstO, Dn.isStrD, Dn.isiO, Dn.isiB, Dn.inO, Dn.memD, Dn.eqvD, Dn.eqvL, Dn.cmpOk, Dn.plainD, Dn.plainL, Dn.depD, Dn.depL, Dn.eqO, Dn.neO, Dn.ixO, Dn.atD, Dn.ixNat, Dn.lenO, Dn.ltO, Dn.leO, Dn.gtO, Dn.geO, Dn.eChain, Dn.isO, Dn.notIsO, Dn.isNoneB, Dn.notO, Dn.ninO, Dn.eCall, Dn.callF, Dn.lend, Dn.giveBack, Dn.seqOf, Dn.wipeS, Dn.backS, Dn.gN, Dn.eMut, Dn.tupleO, Dn.listO, Dn.eCut, Dn.pNone, Dn.pSome, Dn.cutO, Function.comp_def, -List.map_map, depaD]
    | x :: y :: r, _ =>
      have i1 : ((r.length : Int) + 1 + 1 == 1) = false := beq_eq_false_iff_ne.mpr (by omega)
      simp [Dn.run, Dn.lent, Dn.outsL, Dn.sCons, Dn.sIf, Dn.sRet, Dn.sRetV, Dn.sRetN, Dn.sSet, Dn.sExpr, Dn.sNil, Dn.sRaise, Dn.put, Dn.eC, Dn.eVar, Dn.eMove, Dn.bVar, Dn.bVal, Dn.e1, Dn.e2, Dn.e2T, Dn.eN, Dn.aNil, Dn.aCons, Dn.rd, Dn.rdAll, Dn.ofOp, Dn.view, Dn.isOpen, Dn.asBool, Dn.tVal, Dn.tYesM, Dn.tAndM, Dn.tOrM, Dn.tNotM, Dn.eIf, Dn.eAnd, Dn.eOr, Dn.eNot, Dn.U1, Dn.U2, Dn.ob, Dn.oi, Dn.eDisp, Dn.tms, Dn.tupO, Dn.lstO, Dn.isStrD, Dn.isiO, Dn.isiB, Dn.inO, Dn.memD, Dn.eqvD, Dn.eqvL, Dn.cmpOk, Dn.plainD, Dn.plainL, Dn.depD, Dn.depL, Dn.eqO, Dn.neO, Dn.ixO, Dn.atD, Dn.ixNat, Dn.lenO, Dn.ltO, Dn.leO, Dn.gtO, Dn.geO, Dn.eChain, Dn.isO, Dn.notIsO, Dn.isNoneB, Dn.notO, Dn.ninO, Dn.eCall, Dn.callF, Dn.lend, Dn.giveBack, Dn.seqOf, Dn.wipeS, Dn.backS, Dn.gN, Dn.eMut, Dn.tupleO, Dn.listO, Dn.eCut, Dn.pNone, Dn.pSome, Dn.cutO, Function.comp_def, -List.map_map, depaD, i1]
  | non => simp [Dn.run, Dn.lent, Dn.outsL, Dn.sCons, Dn.sIf, Dn.sRet, Dn.sRetV, Dn.sRetN, Dn.sSet, Dn.sExpr, Dn.sNil, Dn.sRaise, Dn.put, Dn.eC, Dn.eVar, Dn.eMove, Dn.bVar, Dn.bVal, Dn.e1, Dn.e2, Dn.e2T, Dn.eN, Dn.aNil, Dn.aCons, Dn.rd, Dn.rdAll, Dn.ofOp, Dn.view, Dn.isOpen, Dn.asBool, Dn.tVal, Dn.tYesM, Dn.tAndM, Dn.tOrM, Dn.tNotM, Dn.eIf, Dn.eAnd, Dn.eOr, Dn.eNot, Dn.U1, Dn.U2, Dn.ob, Dn.oi, Dn.eDisp, Dn.tms, Dn.tupO, Dn.lstO, Dn.isStrD, Dn.isiO, Dn.isiB, Dn.inO, Dn.memD, Dn.eqvD, Dn.eqvL, Dn.cmpOk, Dn.plainD, Dn.plainL, Dn.depD, Dn.depL, Dn.eqO, Dn.neO, Dn.ixO, Dn.atD, Dn.ixNat, Dn.lenO, Dn.ltO, Dn.leO, Dn.gtO, Dn.geO, Dn.eChain, Dn.isO, Dn.notIsO, Dn.isNoneB, Dn.notO, Dn.ninO, Dn.eCall, Dn.callF, Dn.lend, Dn.giveBack, Dn.seqOf, Dn.wipeS, Dn.backS, Dn.gN, Dn.eMut, Dn.tupleO, Dn.listO, Dn.eCut, Dn.pNone, Dn.pSome, Dn.cutO, Function.comp_def, -List.map_map, depaD]
  | bl b => simp [Dn.run, Dn.lent, Dn.outsL, Dn.sCons, Dn.sIf, Dn.sRet, Dn.sRetV, Dn.sRetN, Dn.sSet, Dn.sExpr, Dn.sNil, Dn.sRaise, Dn.put, Dn.eC, Dn.eVar, Dn.eMove, Dn.bVar, Dn.bVal, Dn.e1, Dn.e2, Dn.e2T, Dn.eN, Dn.aNil, Dn.aCons, Dn.rd, Dn.rdAll, Dn.ofOp, Dn.view, Dn.isOpen, Dn.asBool, Dn.tVal, Dn.tYesM, Dn.tAndM, Dn.tOrM, Dn.tNotM, Dn.eIf, Dn.eAnd, Dn.eOr, Dn.eNot, Dn.U1, Dn.U2, Dn.ob, Dn.oi, Dn.eDisp, Dn.tms, Dn.tupO, Dn.lstO, Dn.isStrD, Dn.isiO, Dn.isiB, Dn.inO, Dn.memD, Dn.eqvD, Dn.eqvL, Dn.cmpOk, Dn.plainD, Dn.plainL, Dn.depD, Dn.depL, Dn.eqO, Dn.neO, Dn.ixO, Dn.atD, Dn.ixNat, Dn.lenO, Dn.ltO, Dn.leO, Dn.gtO, Dn.geO, Dn.eChain, Dn.isO, Dn.notIsO, Dn.isNoneB, Dn.notO, Dn.ninO, Dn.eCall, Dn.callF, Dn.lend, Dn.giveBack, Dn.seqOf, Dn.wipeS, Dn.backS, Dn.gN, Dn.eMut, Dn.tupleO, Dn.listO, Dn.eCut, Dn.pNone, Dn.pSome, Dn.cutO, Function.comp_def, -List.map_map, depaD]
  | int b => simp [Dn.run, Dn.lent, Dn.outsL, Dn.sCons, Dn.sIf, Dn.sRet, Dn.sRetV, Dn.sRetN, Dn.sSet, Dn.sExpr, Dn.sNil, Dn.sRaise, Dn.put, Dn.eC, Dn.eVar, Dn.eMove, Dn.bVar, Dn.bVal, Dn.e1, Dn.e2, Dn.e2T, Dn.eN, Dn.aNil, Dn.aCons, Dn.rd, Dn.rdAll, Dn.ofOp, Dn.view, Dn.isOpen, Dn.asBool, Dn.tVal, Dn.tYesM, Dn.tAndM, Dn.tOrM, Dn.tNotM, Dn.eIf, Dn.eAnd, Dn.eOr, Dn.eNot, Dn.U1, Dn.U2, Dn.ob, Dn.oi, Dn.eDisp, Dn.tms, Dn.tupO, Dn.lstO, Dn.isStrD, Dn.isiO, Dn.isiB, Dn.inO, Dn.memD, Dn.eqvD, Dn.eqvL, Dn.cmpOk, Dn.plainD, Dn.plainL, Dn.depD, Dn.depL, Dn.eqO, Dn.neO, Dn.ixO, Dn.atD, Dn.ixNat, Dn.lenO, Dn.ltO, Dn.leO, Dn.gtO, Dn.geO, Dn.eChain, Dn.isO, Dn.notIsO, Dn.isNoneB, Dn.notO, Dn.ninO, Dn.eCall, Dn.callF, Dn.lend, Dn.giveBack, Dn.seqOf, Dn.wipeS, Dn.backS, Dn.gN, Dn.eMut, Dn.tupleO, Dn.listO, Dn.eCut, Dn.pNone, Dn.pSome, Dn.cutO, Function.comp_def, -List.map_map, depaD]
  | str b => simp [Dn.run, Dn.lent, Dn.outsL, Dn.sCons, Dn.sIf, Dn.sRet, Dn.sRetV, Dn.sRetN, Dn.sSet, Dn.sExpr, Dn.sNil, Dn.sRaise, Dn.put, Dn.eC, Dn.eVar, Dn.eMove, Dn.bVar, Dn.bVal, Dn.e1, Dn.e2, Dn.e2T, Dn.eN, Dn.aNil, Dn.aCons, Dn.rd, Dn.rdAll, Dn.ofOp, Dn.view, Dn.isOpen, Dn.asBool, Dn.tVal, Dn.tYesM, Dn.tAndM, Dn.tOrM, Dn.tNotM, Dn.eIf, Dn.eAnd, Dn.eOr, Dn.eNot, Dn.U1, Dn.U2, Dn.ob, Dn.oi, Dn.eDisp, Dn.tms, Dn.tupO, Dn.lstO, Dn.isStrD, Dn.isiO, Dn.isiB, Dn.inO, Dn.memD, Dn.eqvD, Dn.eqvL, Dn.cmpOk, Dn.plainD, Dn.plainL, Dn.depD, Dn.depL, Dn.eqO, Dn.neO, Dn.ixO, Dn.atD, Dn.ixNat, Dn.lenO, Dn.ltO, Dn.leO, Dn.gtO, Dn.geO, Dn.eChain, Dn.isO, Dn.notIsO, Dn.isNoneB, Dn.notO, Dn.ninO, Dn.eCall, Dn.callF, Dn.lend, Dn.giveBack, Dn.seqOf, Dn.wipeS, Dn.backS, Dn.gN, Dn.eMut, Dn.tupleO, Dn.listO, Dn.eCut, Dn.pNone, Dn.pSome, Dn.cutO, Function.comp_def, -List.map_map, depaD]
  | lst b => simp [Dn.run, Dn.lent, Dn.outsL, Dn.sCons, Dn.sIf, Dn.sRet, Dn.sRetV, Dn.sRetN, Dn.sSet, Dn.sExpr, Dn.sNil, Dn.sRaise, Dn.put, Dn.eC, Dn.eVar, Dn.eMove, Dn.bVar, Dn.bVal, Dn.e1, Dn.e2, Dn.e2T, Dn.eN, Dn.aNil, Dn.aCons, Dn.rd, Dn.rdAll, Dn.ofOp, Dn.view, Dn.isOpen, Dn.asBool, Dn.tVal, Dn.tYesM, Dn.tAndM, Dn.tOrM, Dn.tNotM, Dn.eIf, Dn.eAnd, Dn.eOr, Dn.eNot, Dn.U1, Dn.U2, Dn.ob, Dn.oi, Dn.eDisp, Dn.tms, Dn.tupO, Dn.lstO, Dn.isStrD, Dn.isiO, Dn.isiB, Dn.inO, Dn.memD, Dn.eqvD, Dn.eqvL, Dn.cmpOk, Dn.plainD, Dn.plainL, Dn.depD, Dn.depL, Dn.eqO, Dn.neO, Dn.ixO, Dn.atD, Dn.ixNat, Dn.lenO, Dn.ltO, Dn.leO, Dn.gtO, Dn.geO, Dn.eChain, Dn.isO, Dn.notIsO, Dn.isNoneB, Dn.notO, Dn.ninO, Dn.eCall, Dn.callF, Dn.lend, Dn.giveBack, Dn.seqOf, Dn.wipeS, Dn.backS, Dn.gN, Dn.eMut, Dn.tupleO, Dn.listO, Dn.eCut, Dn.pNone, Dn.pSome, Dn.cutO, Function.comp_def, -List.map_map, depaD]
  | dct b => simp [Dn.run, Dn.lent, Dn.outsL, Dn.sCons, Dn.sIf, Dn.sRet, Dn.sRetV, Dn.sRetN, Dn.sSet, Dn.sExpr, Dn.sNil, Dn.sRaise, Dn.put, Dn.eC, Dn.eVar, Dn.eMove, Dn.bVar, Dn.bVal, Dn.e1, Dn.e2, Dn.e2T, Dn.eN, Dn.aNil, Dn.aCons, Dn.rd, Dn.rdAll, Dn.ofOp, Dn.view, Dn.isOpen, Dn.asBool, Dn.tVal, Dn.tYesM, Dn.tAndM, Dn.tOrM, Dn.tNotM, Dn.eIf, Dn.eAnd, Dn.eOr, Dn.eNot, Dn.U1, Dn.U2, Dn.ob, Dn.oi, Dn.eDisp, Dn.tms, Dn.tupO, Dn.lstO, Dn.isStrD, Dn.isiO, Dn.isiB, Dn.inO, Dn.memD, Dn.eqvD, Dn.eqvL, Dn.cmpOk, Dn.plainD, Dn.plainL, Dn.depD, Dn.depL, Dn.eqO, Dn.neO, Dn.ixO, Dn.atD, Dn.ixNat, Dn.lenO, Dn.ltO, Dn.leO, Dn.gtO, Dn.geO, Dn.eChain, Dn.isO, Dn.notIsO, Dn.isNoneB, Dn.notO, Dn.ninO, Dn.eCall, Dn.callF, Dn.lend, Dn.giveBack, Dn.seqOf, Dn.wipeS, Dn.backS, Dn.gN, Dn.eMut, Dn.tupleO, Dn.listO, Dn.eCut, Dn.pNone, Dn.pSome, Dn.cutO, Function.comp_def, -List.map_map, depaD]
  | set b => cases h
  | obj b c => cases h
  | fn b => cases h
  | scr b => cases h
theorem is_arr_d (d : D) (h : okE d = true) : f_is_arrival [.d d] = .ret (.d (.bl (arrD d))) [none] := by
  unfold f_is_arrival m_is_arrival
  cases d with
  | tup xs =>
    match xs, h with
    | [], _ => simp [Dn.run, Dn.lent, Dn.outsL, Dn.sCons, Dn.sIf, Dn.sRet, Dn.sRetV, Dn.sRetN, Dn.sSet, Dn.sExpr, Dn.sNil, Dn.sRaise, Dn.put, Dn.eC, Dn.eVar, Dn.eMove, Dn.bVar, Dn.bVal, Dn.e1, Dn.e2, Dn.e2T, Dn.eN, Dn.aNil, Dn.aCons, Dn.rd, Dn.rdAll, Dn.ofOp, Dn.view, Dn.isOpen, Dn.asBool, Dn.tVal, Dn.tYesM, Dn.tAndM, Dn.tOrM, Dn.tNotM, Dn.eIf, Dn.eAnd, Dn.eOr, Dn.eNot, Dn.U1, Dn.U2, Dn.ob, Dn.oi, Dn.eDisp, Dn.tms, Dn.tupO, Dn.lstO, Dn.isStrD, Dn.isiO, Dn.isiB, Dn.inO, Dn.memD, Dn.eqvD, Dn.eqvL, Dn.cmpOk, Dn.plainD, Dn.plainL, Dn.depD, Dn.depL, Dn.eqO, Dn.neO, Dn.ixO, Dn.atD, Dn.ixNat, Dn.lenO, Dn.ltO, Dn.leO, Dn.gtO, Dn.geO, Dn.eChain, Dn.isO, Dn.notIsO, Dn.isNoneB, Dn.notO, Dn.ninO, Dn.eCall, Dn.callF, Dn.lend, Dn.giveBack, Dn.seqOf, Dn.wipeS, Dn.backS, Dn.gN, Dn.eMut, Dn.tupleO, Dn.listO, Dn.eCut, Dn.pNone, Dn.pSome, Dn.cutO, Function.comp_def, -List.map_map, arrD]
    | [x], h => simp [Dn.run, Dn.lent, Dn.outsL, Dn.sCons, Dn.sIf, Dn.sRet, Dn.sRetV, Dn.sRetN, Dn.sSet, Dn.sExpr, Dn.sNil, Dn.sRaise, Dn.put, Dn.eC, Dn.eVar, Dn.eMove, Dn.bVar, Dn.bVal, Dn.e1, Dn.e2, Dn.e2T, Dn.eN, Dn.aNil, Dn.aCons, Dn.rd, Dn.rdAll, Dn.ofOp, Dn.view, Dn.isOpen, Dn.asBool, Dn.tVal, Dn.tYesM, Dn.tAndM, Dn.tOrM, Dn.tNotM, Dn.eIf, Dn.eAnd, Dn.eOr, Dn.eNot, Dn.U1, Dn.U2, Dn.ob, Dn.oi, Dn.eDisp, Dn.tms, Dn.tupO, Dn.lstO, Dn.isStrD, Dn.isiO, Dn.isiB, Dn.inO, Dn.memD, Dn.eqvD, Dn.eqvL, Dn.cmpOk, Dn.plainD, Dn.plainL, Dn.depD, Dn.depL, Dn.eqO, Dn.neO, Dn.ixO, Dn.atD, Dn.ixNat, Dn.lenO, Dn.ltO, Dn.leO, Dn.gtO, Dn.geO, Dn.eChain, Dn.isO, Dn.notIsO, Dn.isNoneB, Dn.notO, Dn.ninO, Dn.eCall, Dn.callF, Dn.lend, Dn.giveBack, Dn.seqOf, Dn.wipeS, Dn.backS, Dn.gN, Dn.eMut, Dn.tupleO, Dn.listO, Dn.eCut, Dn.pNone, Dn.pSome, Dn.cutO, Function.comp_def, -List.map_map, arrD]
    | [x, y], h =>
      have h : okD x = true ∧ okD y = true := by simpa [okE] using h
      have hc := is_car_d y h.2
      have h1 := h.1
      cases x <;> first | (cases h1; done) | skip
      case str a _ =>
        by_cases ha : a = "in"
        · subst ha; simp [Dn.run, Dn.lent, Dn.outsL, Dn.sCons, Dn.sIf, Dn.sRet, Dn.sRetV, Dn.sRetN, Dn.sSet, Dn.sExpr, Dn.sNil, Dn.sRaise, Dn.put, Dn.eC, Dn.eVar, Dn.eMove, Dn.bVar, Dn.bVal, Dn.e1, Dn.e2, Dn.e2T, Dn.eN, Dn.aNil, Dn.aCons, Dn.rd, Dn.rdAll, Dn.ofOp, Dn.view, Dn.isOpen, Dn.asBool, Dn.tVal, Dn.tYesM, Dn.tAndM, Dn.tOrM, Dn.tNotM, Dn.eIf, Dn.eAnd, Dn.eOr, Dn.eNot, Dn.U1, Dn.U2, Dn.ob, Dn.oi, Dn.eDisp, Dn.tms, Dn.tupO, Dn.lstO, Dn.isStrD, Dn.isiO, Dn.isiB, Dn.inO, Dn.memD, Dn.eqvD, Dn.eqvL, Dn.cmpOk, Dn.plainD, Dn.plainL, Dn.depD, Dn.depL, Dn.eqO, Dn.neO, Dn.ixO, Dn.atD, Dn.ixNat, Dn.lenO, Dn.ltO, Dn.leO, Dn.gtO, Dn.geO, Dn.eChain, Dn.isO, Dn.notIsO, Dn.isNoneB, Dn.notO, Dn.ninO, Dn.eCall, Dn.callF, Dn.lend, Dn.giveBack, Dn.seqOf, Dn.wipeS, Dn.backS, Dn.gN, Dn.eMut, Dn.tupleO, Dn.listO, Dn.eCut, Dn.pNone, Dn.pSome, Dn.cutO, Function.comp_def, -List.map_map, arrD, hc]
        · have hb : (a == ("in" : Str)) = false := beq_eq_false_iff_ne.mpr ha
          simp [Dn.run, Dn.lent, Dn.outsL, Dn.sCons, Dn.sIf, Dn.sRet, Dn.sRetV, Dn.sRetN, Dn.sSet, Dn.sExpr, Dn.sNil, Dn.sRaise, Dn.put, Dn.eC, Dn.eVar, Dn.eMove, Dn.bVar, Dn.bVal, Dn.e1, Dn.e2, Dn.e2T, Dn.eN, Dn.aNil, Dn.aCons, Dn.rd, Dn.rdAll, Dn.ofOp, Dn.view, Dn.isOpen, Dn.asBool, Dn.tVal, Dn.tYesM, Dn.tAndM, Dn.tOrM, Dn.tNotM, Dn.eIf, Dn.eAnd, Dn.eOr, Dn.eNot, Dn.U1, Dn.U2, Dn.ob, Dn.oi, Dn.eDisp, Dn.tms, Dn.tupO, Dn.lstO, Dn.isStrD, Dn.isiO, Dn.isiB, Dn.inO, Dn.memD, Dn.eqvD, Dn.eqvL, Dn.cmpOk, Dn.plainD, Dn.plainL, Dn.depD, Dn.depL, Dn.eqO, Dn.neO, Dn.ixO, Dn.atD, Dn.ixNat, Dn.lenO, Dn.ltO, Dn.leO, Dn.gtO, Dn.geO, Dn.eChain, Dn.isO, Dn.notIsO, Dn.isNoneB, Dn.notO, Dn.ninO, Dn.eCall, Dn.callF, Dn.lend, Dn.giveBack, Dn.seqOf, Dn.wipeS, Dn.backS, Dn.gN, Dn.eMut, Dn.tupleO, Dn.listO, Dn.eCut, Dn.pNone, Dn.pSome, Dn.cutO, Function.comp_def, -List.map_map, arrD, hc, hb]
      all_goals simp [Dn.run, Dn.lent, Dn.outsL, Dn.sCons, Dn.sIf, Dn.sRet, Dn.sRetV, Dn.sRetN, Dn.sSet, Dn.sExpr, Dn.sNil, Dn.sRaise, Dn.put, Dn.eC, Dn.eVar, Dn.eMove, Dn.bVar, Dn.bVal, Dn.e1, Dn.e2, Dn.e2T, Dn.eN, Dn.aNil, Dn.aCons, Dn.rd, Dn.rdAll, Dn.ofOp, Dn.view, Dn.isOpen, Dn.asBool, Dn.tVal, Dn.tYesM, Dn.tAndM, Dn.tOrM, Dn.tNotM, Dn.eIf, Dn.eAnd, Dn.eOr, Dn.eNot, Dn.U1, Dn.U2, Dn.ob, Dn.oi, Dn.eDisp, Dn.tms, Dn.tupO, Dn.lstO, Dn.isStrD, Dn.isiO, Dn.isiB, Dn.inO, Dn.memD, Dn.eqvD, Dn.eqvL, Dn.cmpOk, Dn.plainD, Dn.plainL, Dn.depD, Dn.depL, Dn.eqO, Dn.neO, Dn.ixO, Dn.atD, Dn.ixNat, Dn.lenO, Dn.ltO, Dn.leO, Dn.gtO, Dn.geO, Dn.eChain, Dn.isO, Dn.notIsO, Dn.isNoneB, Dn.notO, Dn.ninO, Dn.eCall, Dn.callF, Dn.lend, Dn.giveBack, Dn.seqOf, Dn.wipeS, Dn.backS, Dn.gN, Dn.eMut, Dn.tupleO, Dn.listO, Dn.eCut, Dn.pNone, Dn.pSome, Dn.cutO, Function.comp_def, -List.map_map, arrD]
    | x :: y :: z :: r, _ =>
      have i1 : ((r.length : Int) + 1 + 1 + 1 == 2) = false := beq_eq_false_iff_ne.mpr (by omega)
      simp [Dn.run, Dn.lent, Dn.outsL, Dn.sCons, Dn.sIf, Dn.sRet, Dn.sRetV, Dn.sRetN, Dn.sSet, Dn.sExpr, Dn.sNil, Dn.sRaise, Dn.put, Dn.eC, Dn.eVar, Dn.eMove, Dn.bVar, Dn.bVal, Dn.e1, Dn.e2, Dn.e2T, Dn.eN, Dn.aNil, Dn.aCons, Dn.rd, Dn.rdAll, Dn.ofOp, Dn.view, Dn.isOpen, Dn.asBool, Dn.tVal, Dn.tYesM, Dn.tAndM, Dn.tOrM, Dn.tNotM, Dn.eIf, Dn.eAnd, Dn.eOr, Dn.eNot, Dn.U1, Dn.U2, Dn.ob, Dn.oi, Dn.eDisp, Dn.tms, Dn.tupO, Dn.lstO, Dn.isStrD, Dn.isiO, Dn.isiB, Dn.inO, Dn.memD, Dn.eqvD, Dn.eqvL, Dn.cmpOk, Dn.plainD, Dn.plainL, Dn.depD, Dn.depL, Dn.eqO, Dn.neO, Dn.ixO, Dn.atD, Dn.ixNat, Dn.lenO, Dn.ltO, Dn.leO, Dn.gtO, Dn.geO, Dn.eChain, Dn.isO, Dn.notIsO, Dn.isNoneB, Dn.notO, Dn.ninO, Dn.eCall, Dn.callF, Dn.lend, Dn.giveBack, Dn.seqOf, Dn.wipeS, Dn.backS, Dn.gN, Dn.eMut, Dn.tupleO, Dn.listO, Dn.eCut, Dn.pNone, Dn.pSome, Dn.cutO, Function.comp_def, -List.map_map, arrD, i1]
  | non => simp [Dn.run, Dn.lent, Dn.outsL, Dn.sCons, Dn.sIf, Dn.sRet, Dn.sRetV, Dn.sRetN, Dn.sSet, Dn.sExpr, Dn.sNil, Dn.sRaise, Dn.put, Dn.eC, Dn.eVar, Dn.eMove, Dn.bVar, Dn.bVal, Dn.e1, Dn.e2, Dn.e2T, Dn.eN, Dn.aNil, Dn.aCons, Dn.rd, Dn.rdAll, Dn.ofOp, Dn.view, Dn.isOpen, Dn.asBool, Dn.tVal, Dn.tYesM, Dn.tAndM, Dn.tOrM, Dn.tNotM, Dn.eIf, Dn.eAnd, Dn.eOr, Dn.eNot, Dn.U1, Dn.U2, Dn.ob, Dn.oi, Dn.eDisp, Dn.tms, Dn.tupO, Dn.lstO, Dn.isStrD, Dn.isiO, Dn.isiB, Dn.inO, Dn.memD, Dn.eqvD, Dn.eqvL, Dn.cmpOk, Dn.plainD, Dn.plainL, Dn.depD, Dn.depL, Dn.eqO, Dn.neO, Dn.ixO, Dn.atD, Dn.ixNat, Dn.lenO, Dn.ltO, Dn.leO, Dn.gtO, Dn.geO, Dn.eChain, Dn.isO, Dn.notIsO, Dn.isNoneB, Dn.notO, Dn.ninO, Dn.eCall, Dn.callF, Dn.lend, Dn.giveBack, Dn.seqOf, Dn.wipeS, Dn.backS, Dn.gN, Dn.eMut, Dn.tupleO, Dn.listO, Dn.eCut, Dn.pNone, Dn.pSome, Dn.cutO, Function.comp_def, -List.map_map, arrD]
  | bl b => simp [Dn.run, Dn.lent, Dn.outsL, Dn.sCons, Dn.sIf, Dn.sRet, Dn.sRetV, Dn.sRetN, Dn.sSet, Dn.sExpr, Dn.sNil, Dn.sRaise, Dn.put, Dn.eC, Dn.eVar, Dn.eMove, Dn.bVar, Dn.bVal, Dn.e1, Dn.e2, Dn.e2T, Dn.eN, Dn.aNil, Dn.aCons, Dn.rd, Dn.rdAll, Dn.ofOp, Dn.view, Dn.isOpen, Dn.asBool, Dn.tVal, Dn.tYesM, Dn.tAndM, Dn.tOrM, Dn.tNotM, Dn.eIf, Dn.eAnd, Dn.eOr, Dn.eNot, Dn.U1, Dn.U2, Dn.ob, Dn.oi, Dn.eDisp, Dn.tms, Dn.tupO, Dn.lstO, Dn.isStrD, Dn.isiO, Dn.isiB, Dn.inO, Dn.memD, Dn.eqvD, Dn.eqvL, Dn.cmpOk, Dn.plainD, Dn.plainL, Dn.depD, Dn.depL, Dn.eqO, Dn.neO, Dn.ixO, Dn.atD, Dn.ixNat, Dn.lenO, Dn.ltO, Dn.leO, Dn.gtO, Dn.geO, Dn.eChain, Dn.isO, Dn.notIsO, Dn.isNoneB, Dn.notO, Dn.ninO, Dn.eCall, Dn.callF, Dn.lend, Dn.giveBack, Dn.seqOf, Dn.wipeS, Dn.backS, Dn.gN, Dn.eMut, Dn.tupleO, Dn.listO, Dn.eCut, Dn.pNone, Dn.pSome, Dn.cutO, Function.comp_def, -List.map_map, arrD]
  | int b => simp [Dn.run, Dn.lent, Dn.outsL, Dn.sCons, Dn.sIf, Dn.sRet, Dn.sRetV, Dn.sRetN, Dn.sSet, Dn.sExpr, Dn.sNil, Dn.sRaise, Dn.put, Dn.eC, Dn.eVar, Dn.eMove, Dn.bVar, Dn.bVal, Dn.e1, Dn.e2, Dn.e2T, Dn.eN, Dn.aNil, Dn.aCons, Dn.rd, Dn.rdAll, Dn.ofOp, Dn.view, Dn.isOpen, Dn.asBool, Dn.tVal, Dn.tYesM, Dn.tAndM, Dn.tOrM, Dn.tNotM, Dn.eIf, Dn.eAnd, Dn.eOr, Dn.eNot, Dn.U1, Dn.U2, Dn.ob, Dn.oi, Dn.eDisp, Dn.tms, Dn.tupO, Dn.lstO, Dn.isStrD, Dn.isiO, Dn.isiB, Dn.inO, Dn.memD, Dn.eqvD, Dn.eqvL, Dn.cmpOk, Dn.plainD, Dn.plainL, Dn.depD, Dn.depL, Dn.eqO, Dn.neO, Dn.ixO, Dn.atD, Dn.ixNat, Dn.lenO, Dn.ltO, Dn.leO, Dn.gtO, Dn.geO, Dn.eChain, Dn.isO, Dn.notIsO, Dn.isNoneB, Dn.notO, Dn.ninO, Dn.eCall, Dn.callF, Dn.lend, Dn.giveBack, Dn.seqOf, Dn.wipeS, Dn.backS, Dn.gN, Dn.eMut, Dn.tupleO, Dn.listO, Dn.eCut, Dn.pNone, Dn.pSome, Dn.cutO, Function.comp_def, -List.map_map, arrD]
  | str b => simp [Dn.run, Dn.lent, Dn.outsL, Dn.sCons, Dn.sIf, Dn.sRet, Dn.sRetV, Dn.sRetN, Dn.sSet, Dn.sExpr, Dn.sNil, Dn.sRaise, Dn.put, Dn.eC, Dn.eVar, Dn.eMove, Dn.bVar, Dn.bVal, Dn.e1, Dn.e2, Dn.e2T, Dn.eN, Dn.aNil, Dn.aCons, Dn.rd, Dn.rdAll, Dn.ofOp, Dn.view, Dn.isOpen, Dn.asBool, Dn.tVal, Dn.tYesM, Dn.tAndM, Dn.tOrM, Dn.tNotM, Dn.eIf, Dn.eAnd, Dn.eOr, Dn.eNot, Dn.U1, Dn.U2, Dn.ob, Dn.oi, Dn.eDisp, Dn.tms, Dn.tupO, Dn.lstO, Dn.isStrD, Dn.isiO, Dn.isiB, Dn.inO, Dn.memD, Dn.eqvD, Dn.eqvL, Dn.cmpOk, Dn.plainD, Dn.plainL, Dn.depD, Dn.depL, Dn.eqO, Dn.neO, Dn.ixO, Dn.atD, Dn.ixNat, Dn.lenO, Dn.ltO, Dn.leO, Dn.gtO, Dn.geO, Dn.eChain, Dn.isO, Dn.notIsO, Dn.isNoneB, Dn.notO, Dn.ninO, Dn.eCall, Dn.callF, Dn.lend, Dn.giveBack, Dn.seqOf, Dn.wipeS, Dn.backS, Dn.gN, Dn.eMut, Dn.tupleO, Dn.listO, Dn.eCut, Dn.pNone, Dn.pSome, Dn.cutO, Function.comp_def, -List.map_map, arrD]
  | lst b => simp [Dn.run, Dn.lent, Dn.outsL, Dn.sCons, Dn.sIf, Dn.sRet, Dn.sRetV, Dn.sRetN, Dn.sSet, Dn.sExpr, Dn.sNil, Dn.sRaise, Dn.put, Dn.eC, Dn.eVar, Dn.eMove, Dn.bVar, Dn.bVal, Dn.e1, Dn.e2, Dn.e2T, Dn.eN, Dn.aNil, Dn.aCons, Dn.rd, Dn.rdAll, Dn.ofOp, Dn.view, Dn.isOpen, Dn.asBool, Dn.tVal, Dn.tYesM, Dn.tAndM, Dn.tOrM, Dn.tNotM, Dn.eIf, Dn.eAnd, Dn.eOr, Dn.eNot, Dn.U1, Dn.U2, Dn.ob, Dn.oi, Dn.eDisp, Dn.tms, Dn.tupO, Dn.lstO, Dn.isStrD, Dn.isiO, Dn.isiB, Dn.inO, Dn.memD, Dn.eqvD, Dn.eqvL, Dn.cmpOk, Dn.plainD, Dn.plainL, Dn.depD, Dn.depL, Dn.eqO, Dn.neO, Dn.ixO, Dn.atD, Dn.ixNat, Dn.lenO, Dn.ltO, Dn.leO, Dn.gtO, Dn.geO, Dn.eChain, Dn.isO, Dn.notIsO, Dn.isNoneB, Dn.notO, Dn.ninO, Dn.eCall, Dn.callF, Dn.lend, Dn.giveBack, Dn.seqOf, Dn.wipeS, Dn.backS, Dn.gN, Dn.eMut, Dn.tupleO, Dn.listO, Dn.eCut, Dn.pNone, Dn.pSome, Dn.cutO, Function.comp_def, -List.map_map, arrD]
  | dct b => simp [Dn.run, Dn.lent, Dn.outsL, Dn.sCons, Dn.sIf, Dn.sRet, Dn.sRetV, Dn.sRetN, Dn.sSet, Dn.sExpr, Dn.sNil, Dn.sRaise, Dn.put, Dn.eC, Dn.eVar, Dn.eMove, Dn.bVar, Dn.bVal, Dn.e1, Dn.e2, Dn.e2T, Dn.eN, Dn.aNil, Dn.aCons, Dn.rd, Dn.rdAll, Dn.ofOp, Dn.view, Dn.isOpen, Dn.asBool, Dn.tVal, Dn.tYesM, Dn.tAndM, Dn.tOrM, Dn.tNotM, Dn.eIf, Dn.eAnd, Dn.eOr, Dn.eNot, Dn.U1, Dn.U2, Dn.ob, Dn.oi, Dn.eDisp, Dn.tms, Dn.tupO, Dn.lstO, Dn.isStrD, Dn.isiO, Dn.isiB, Dn.inO, Dn.memD, Dn.eqvD, Dn.eqvL, Dn.cmpOk, Dn.plainD, Dn.plainL, Dn.depD, Dn.depL, Dn.eqO, Dn.neO, Dn.ixO, Dn.atD, Dn.ixNat, Dn.lenO, Dn.ltO, Dn.leO, Dn.gtO, Dn.geO, Dn.eChain, Dn.isO, Dn.notIsO, Dn.isNoneB, Dn.notO, Dn.ninO, Dn.eCall, Dn.callF, Dn.lend, Dn.giveBack, Dn.seqOf, Dn.wipeS, Dn.backS, Dn.gN, Dn.eMut, Dn.tupleO, Dn.listO, Dn.eCut, Dn.pNone, Dn.pSome, Dn.cutO, Function.comp_def, -List.map_map, arrD]
  | set b => cases h
  | obj b c => cases h
  | fn b => cases h
  | scr b => cases h
end Tk46
set_option autoImplicit false
set_option linter.all false
set_option maxRecDepth 100000
namespace Tk46
open PySem Dn
/-- a list, open or not -/
def ol (b : Bool) (xs : List D) : O := if b = true then .lst xs else .d (.lst xs)
def back (b : Bool) (xs : List D) : Slot := if b = true then some (.lst xs) else none
def distinctL (ds : List D) : Bool := match keysOf ds with
  | some ks => decide ((dedK ks).length = ks.length)
  | none => false
theorem keys_cars : ∀ {ds : List D}, ds.all carD = true → ∃ ks, keysOf ds = some ks
  | [], _ => ⟨[], rfl⟩
  | d :: ds, h => by
    simp only [List.all_cons, Bool.and_eq_true] at h
    obtain ⟨ks, e⟩ := keys_cars h.2
    cases d <;> first | (cases h.1; done) | skip
    rename_i x
    exact ⟨.inr x :: ks, by unfold keysOf; simp only [keyD, e]⟩
theorem all_okD : ∀ {d : D}, carD d = true → okD d = true := fun {d} h => by
  cases d <;> first | (cases h; done) | skip
  rename_i x
  simp only [carD, carOk, Bool.and_eq_true, decide_eq_true_eq] at h
  simp [okD]; omega
def laneB (ds : List D) : Bool := ds.all carD && distinctL ds
theorem set_len (ds : List D) {ks : List L2.Key} (e : keysOf ds = some ks) : (dedK ks).length = ks.length ↔ ((dedK ks).length : Int) = (ds.length : Int) := by
  rw [keysOf_len e]; omega
theorem is_lane_tup (ds : List D) (h : ds.all okD = true) (hl : ds.length ≤ 4000) : f_is_lane [.d (.tup ds)] = .ret (.d (.bl (laneB ds))) [none] := by
  unfold f_is_lane m_is_lane
  have hc := eLcH_pure (i := 0) (vs := [1]) (g := gN 1) (t := tYesM) (e := eCall 1 f_is_car (aCons (bVar 1) aNil)) (δ := [some (.d (.tup ds)), none]) (fun _ => true) (fun d => .bl (carD d)) rfl rfl (by omega) (fun d hd => by
    have h1 := is_car_d d (List.all_eq_true.mp h d hd)
    refine ⟨[some (.d (.tup ds)), some (.d d)], [some (.d (.tup ds)), some (.d d)], by simp [Dn.run, Dn.lent, Dn.outsL, Dn.sCons, Dn.sIf, Dn.sRet, Dn.sRetV, Dn.sRetN, Dn.sSet, Dn.sExpr, Dn.sNil, Dn.sRaise, Dn.put, Dn.eC, Dn.eVar, Dn.eMove, Dn.bVar, Dn.bVal, Dn.e1, Dn.e2, Dn.e2T, Dn.eN, Dn.aNil, Dn.aCons, Dn.rd, Dn.rdAll, Dn.ofOp, Dn.view, Dn.isOpen, Dn.asBool, Dn.tVal, Dn.tYesM, Dn.tAndM, Dn.tOrM, Dn.tNotM, Dn.eIf, Dn.eAnd, Dn.eOr, Dn.eNot, Dn.U1, Dn.U2, Dn.ob, Dn.oi, Dn.eDisp, Dn.tms, Dn.tupO, Dn.lstO, Dn.isStrD, Dn.isiO, Dn.isiB, Dn.inO, Dn.memD, Dn.eqvD, Dn.eqvL, Dn.cmpOk, Dn.plainD, Dn.plainL, Dn.depD, Dn.depL, Dn.eqO, Dn.neO, Dn.ixO, Dn.atD, Dn.ixNat, Dn.lenO, Dn.ltO, Dn.leO, Dn.gtO, Dn.geO, Dn.eChain, Dn.isO, Dn.notIsO, Dn.isNoneB, Dn.notO, Dn.ninO, Dn.eCall, Dn.callF, Dn.lend, Dn.giveBack, Dn.seqOf, Dn.wipeS, Dn.backS, Dn.gN, Dn.eMut, Dn.tupleO, Dn.listO, Dn.eCut, Dn.pNone, Dn.pSome, Dn.cutO, Function.comp_def, -List.map_map], rfl, by simp [Dn.run, Dn.lent, Dn.outsL, Dn.sCons, Dn.sIf, Dn.sRet, Dn.sRetV, Dn.sRetN, Dn.sSet, Dn.sExpr, Dn.sNil, Dn.sRaise, Dn.put, Dn.eC, Dn.eVar, Dn.eMove, Dn.bVar, Dn.bVal, Dn.e1, Dn.e2, Dn.e2T, Dn.eN, Dn.aNil, Dn.aCons, Dn.rd, Dn.rdAll, Dn.ofOp, Dn.view, Dn.isOpen, Dn.asBool, Dn.tVal, Dn.tYesM, Dn.tAndM, Dn.tOrM, Dn.tNotM, Dn.eIf, Dn.eAnd, Dn.eOr, Dn.eNot, Dn.U1, Dn.U2, Dn.ob, Dn.oi, Dn.eDisp, Dn.tms, Dn.tupO, Dn.lstO, Dn.isStrD, Dn.isiO, Dn.isiB, Dn.inO, Dn.memD, Dn.eqvD, Dn.eqvL, Dn.cmpOk, Dn.plainD, Dn.plainL, Dn.depD, Dn.depL, Dn.eqO, Dn.neO, Dn.ixO, Dn.atD, Dn.ixNat, Dn.lenO, Dn.ltO, Dn.leO, Dn.gtO, Dn.geO, Dn.eChain, Dn.isO, Dn.notIsO, Dn.isNoneB, Dn.notO, Dn.ninO, Dn.eCall, Dn.callF, Dn.lend, Dn.giveBack, Dn.seqOf, Dn.wipeS, Dn.backS, Dn.gN, Dn.eMut, Dn.tupleO, Dn.listO, Dn.eCut, Dn.pNone, Dn.pSome, Dn.cutO, Function.comp_def, -List.map_map], fun _ => ⟨.d (.bl (carD d)), [some (.d (.tup ds)), some (.d d)], by simp [Dn.run, Dn.lent, Dn.outsL, Dn.sCons, Dn.sIf, Dn.sRet, Dn.sRetV, Dn.sRetN, Dn.sSet, Dn.sExpr, Dn.sNil, Dn.sRaise, Dn.put, Dn.eC, Dn.eVar, Dn.eMove, Dn.bVar, Dn.bVal, Dn.e1, Dn.e2, Dn.e2T, Dn.eN, Dn.aNil, Dn.aCons, Dn.rd, Dn.rdAll, Dn.ofOp, Dn.view, Dn.isOpen, Dn.asBool, Dn.tVal, Dn.tYesM, Dn.tAndM, Dn.tOrM, Dn.tNotM, Dn.eIf, Dn.eAnd, Dn.eOr, Dn.eNot, Dn.U1, Dn.U2, Dn.ob, Dn.oi, Dn.eDisp, Dn.tms, Dn.tupO, Dn.lstO, Dn.isStrD, Dn.isiO, Dn.isiB, Dn.inO, Dn.memD, Dn.eqvD, Dn.eqvL, Dn.cmpOk, Dn.plainD, Dn.plainL, Dn.depD, Dn.depL, Dn.eqO, Dn.neO, Dn.ixO, Dn.atD, Dn.ixNat, Dn.lenO, Dn.ltO, Dn.leO, Dn.gtO, Dn.geO, Dn.eChain, Dn.isO, Dn.notIsO, Dn.isNoneB, Dn.notO, Dn.ninO, Dn.eCall, Dn.callF, Dn.lend, Dn.giveBack, Dn.seqOf, Dn.wipeS, Dn.backS, Dn.gN, Dn.eMut, Dn.tupleO, Dn.listO, Dn.eCut, Dn.pNone, Dn.pSome, Dn.cutO, Function.comp_def, -List.map_map, h1], rfl, by simp [Dn.run, Dn.lent, Dn.outsL, Dn.sCons, Dn.sIf, Dn.sRet, Dn.sRetV, Dn.sRetN, Dn.sSet, Dn.sExpr, Dn.sNil, Dn.sRaise, Dn.put, Dn.eC, Dn.eVar, Dn.eMove, Dn.bVar, Dn.bVal, Dn.e1, Dn.e2, Dn.e2T, Dn.eN, Dn.aNil, Dn.aCons, Dn.rd, Dn.rdAll, Dn.ofOp, Dn.view, Dn.isOpen, Dn.asBool, Dn.tVal, Dn.tYesM, Dn.tAndM, Dn.tOrM, Dn.tNotM, Dn.eIf, Dn.eAnd, Dn.eOr, Dn.eNot, Dn.U1, Dn.U2, Dn.ob, Dn.oi, Dn.eDisp, Dn.tms, Dn.tupO, Dn.lstO, Dn.isStrD, Dn.isiO, Dn.isiB, Dn.inO, Dn.memD, Dn.eqvD, Dn.eqvL, Dn.cmpOk, Dn.plainD, Dn.plainL, Dn.depD, Dn.depL, Dn.eqO, Dn.neO, Dn.ixO, Dn.atD, Dn.ixNat, Dn.lenO, Dn.ltO, Dn.leO, Dn.gtO, Dn.geO, Dn.eChain, Dn.isO, Dn.notIsO, Dn.isNoneB, Dn.notO, Dn.ninO, Dn.eCall, Dn.callF, Dn.lend, Dn.giveBack, Dn.seqOf, Dn.wipeS, Dn.backS, Dn.gN, Dn.eMut, Dn.tupleO, Dn.listO, Dn.eCut, Dn.pNone, Dn.pSome, Dn.cutO, Function.comp_def, -List.map_map]⟩⟩)
  rw [filter_true] at hc
  by_cases ha : ds.all carD = true
  · obtain ⟨ks, e⟩ := keys_cars ha
    have hk : ks.length ≤ 4000 := by rw [keysOf_len e]; exact hl
    have hb : (((dedK ks).length : Int) == (ds.length : Int)) = decide ((dedK ks).length = ks.length) := by
      rw [keysOf_len e]
      by_cases z : (dedK ks).length = ds.length
      · rw [decide_eq_true z, z]; simp
      · rw [decide_eq_false z]
        exact beq_eq_false_iff_ne.mpr (by omega)
    simp [Dn.run, Dn.lent, Dn.outsL, Dn.sCons, Dn.sIf, Dn.sRet, Dn.sRetV, Dn.sRetN, Dn.sSet, Dn.sExpr, Dn.sNil, Dn.sRaise, Dn.put, Dn.eC, Dn.eVar, Dn.eMove, Dn.bVar, Dn.bVal, Dn.e1, Dn.e2, Dn.e2T, Dn.eN, Dn.aNil, Dn.aCons, Dn.rd, Dn.rdAll, Dn.ofOp, Dn.view, Dn.isOpen, Dn.asBool, Dn.tVal, Dn.tYesM, Dn.tAndM, Dn.tOrM, Dn.tNotM, Dn.eIf, Dn.eAnd, Dn.eOr, Dn.eNot, Dn.U1, Dn.U2, Dn.ob, Dn.oi, Dn.eDisp, Dn.tms, Dn.tupO, Dn.lstO, Dn.isStrD, Dn.isiO, Dn.isiB, Dn.inO, Dn.memD, Dn.eqvD, Dn.eqvL, Dn.cmpOk, Dn.plainD, Dn.plainL, Dn.depD, Dn.depL, Dn.eqO, Dn.neO, Dn.ixO, Dn.atD, Dn.ixNat, Dn.lenO, Dn.ltO, Dn.leO, Dn.gtO, Dn.geO, Dn.eChain, Dn.isO, Dn.notIsO, Dn.isNoneB, Dn.notO, Dn.ninO, Dn.eCall, Dn.callF, Dn.lend, Dn.giveBack, Dn.seqOf, Dn.wipeS, Dn.backS, Dn.gN, Dn.eMut, Dn.tupleO, Dn.listO, Dn.eCut, Dn.pNone, Dn.pSome, Dn.cutO, Function.comp_def, -List.map_map, hc, allO_map, ha, setO, e, hk, laneB, distinctL, hb]
  · have ha : ds.all carD = false := by simpa using ha
    simp [Dn.run, Dn.lent, Dn.outsL, Dn.sCons, Dn.sIf, Dn.sRet, Dn.sRetV, Dn.sRetN, Dn.sSet, Dn.sExpr, Dn.sNil, Dn.sRaise, Dn.put, Dn.eC, Dn.eVar, Dn.eMove, Dn.bVar, Dn.bVal, Dn.e1, Dn.e2, Dn.e2T, Dn.eN, Dn.aNil, Dn.aCons, Dn.rd, Dn.rdAll, Dn.ofOp, Dn.view, Dn.isOpen, Dn.asBool, Dn.tVal, Dn.tYesM, Dn.tAndM, Dn.tOrM, Dn.tNotM, Dn.eIf, Dn.eAnd, Dn.eOr, Dn.eNot, Dn.U1, Dn.U2, Dn.ob, Dn.oi, Dn.eDisp, Dn.tms, Dn.tupO, Dn.lstO, Dn.isStrD, Dn.isiO, Dn.isiB, Dn.inO, Dn.memD, Dn.eqvD, Dn.eqvL, Dn.cmpOk, Dn.plainD, Dn.plainL, Dn.depD, Dn.depL, Dn.eqO, Dn.neO, Dn.ixO, Dn.atD, Dn.ixNat, Dn.lenO, Dn.ltO, Dn.leO, Dn.gtO, Dn.geO, Dn.eChain, Dn.isO, Dn.notIsO, Dn.isNoneB, Dn.notO, Dn.ninO, Dn.eCall, Dn.callF, Dn.lend, Dn.giveBack, Dn.seqOf, Dn.wipeS, Dn.backS, Dn.gN, Dn.eMut, Dn.tupleO, Dn.listO, Dn.eCut, Dn.pNone, Dn.pSome, Dn.cutO, Function.comp_def, -List.map_map, hc, allO_map, ha, laneB]
theorem is_lane_no (d : D) (h : okD d = true) (hn : ∀ ds, d ≠ .tup ds) : f_is_lane [.d d] = .ret (.d (.bl false)) [none] := by
  unfold f_is_lane m_is_lane
  cases d <;> first | (cases h; done) | exact absurd rfl (hn _) | simp [Dn.run, Dn.lent, Dn.outsL, Dn.sCons, Dn.sIf, Dn.sRet, Dn.sRetV, Dn.sRetN, Dn.sSet, Dn.sExpr, Dn.sNil, Dn.sRaise, Dn.put, Dn.eC, Dn.eVar, Dn.eMove, Dn.bVar, Dn.bVal, Dn.e1, Dn.e2, Dn.e2T, Dn.eN, Dn.aNil, Dn.aCons, Dn.rd, Dn.rdAll, Dn.ofOp, Dn.view, Dn.isOpen, Dn.asBool, Dn.tVal, Dn.tYesM, Dn.tAndM, Dn.tOrM, Dn.tNotM, Dn.eIf, Dn.eAnd, Dn.eOr, Dn.eNot, Dn.U1, Dn.U2, Dn.ob, Dn.oi, Dn.eDisp, Dn.tms, Dn.tupO, Dn.lstO, Dn.isStrD, Dn.isiO, Dn.isiB, Dn.inO, Dn.memD, Dn.eqvD, Dn.eqvL, Dn.cmpOk, Dn.plainD, Dn.plainL, Dn.depD, Dn.depL, Dn.eqO, Dn.neO, Dn.ixO, Dn.atD, Dn.ixNat, Dn.lenO, Dn.ltO, Dn.leO, Dn.gtO, Dn.geO, Dn.eChain, Dn.isO, Dn.notIsO, Dn.isNoneB, Dn.notO, Dn.ninO, Dn.eCall, Dn.callF, Dn.lend, Dn.giveBack, Dn.seqOf, Dn.wipeS, Dn.backS, Dn.gN, Dn.eMut, Dn.tupleO, Dn.listO, Dn.eCut, Dn.pNone, Dn.pSome, Dn.cutO, Function.comp_def, -List.map_map]
theorem distinct_list (b : Bool) (ds : List D) (ha : ds.all carD = true) (hl : ds.length ≤ 4000) : f_are_distinct [ol b ds] = .ret (.d (.bl (distinctL ds))) [back b ds] := by
  unfold f_are_distinct m_are_distinct
  obtain ⟨ks, e⟩ := keys_cars ha
  have hk : ks.length ≤ 4000 := by rw [keysOf_len e]; exact hl
  have hb : (((dedK ks).length : Int) == (ds.length : Int)) = decide ((dedK ks).length = ks.length) := by
    rw [keysOf_len e]
    by_cases z : (dedK ks).length = ds.length
    · rw [decide_eq_true z, z]; simp
    · rw [decide_eq_false z]
      exact beq_eq_false_iff_ne.mpr (by omega)
  cases b <;> simp [Dn.run, Dn.lent, Dn.outsL, Dn.sCons, Dn.sIf, Dn.sRet, Dn.sRetV, Dn.sRetN, Dn.sSet, Dn.sExpr, Dn.sNil, Dn.sRaise, Dn.put, Dn.eC, Dn.eVar, Dn.eMove, Dn.bVar, Dn.bVal, Dn.e1, Dn.e2, Dn.e2T, Dn.eN, Dn.aNil, Dn.aCons, Dn.rd, Dn.rdAll, Dn.ofOp, Dn.view, Dn.isOpen, Dn.asBool, Dn.tVal, Dn.tYesM, Dn.tAndM, Dn.tOrM, Dn.tNotM, Dn.eIf, Dn.eAnd, Dn.eOr, Dn.eNot, Dn.U1, Dn.U2, Dn.ob, Dn.oi, Dn.eDisp, Dn.tms, Dn.tupO, Dn.lstO, Dn.isStrD, Dn.isiO, Dn.isiB, Dn.inO, Dn.memD, Dn.eqvD, Dn.eqvL, Dn.cmpOk, Dn.plainD, Dn.plainL, Dn.depD, Dn.depL, Dn.eqO, Dn.neO, Dn.ixO, Dn.atD, Dn.ixNat, Dn.lenO, Dn.ltO, Dn.leO, Dn.gtO, Dn.geO, Dn.eChain, Dn.isO, Dn.notIsO, Dn.isNoneB, Dn.notO, Dn.ninO, Dn.eCall, Dn.callF, Dn.lend, Dn.giveBack, Dn.seqOf, Dn.wipeS, Dn.backS, Dn.gN, Dn.eMut, Dn.tupleO, Dn.listO, Dn.eCut, Dn.pNone, Dn.pSome, Dn.cutO, Function.comp_def, -List.map_map, ol, back, setO, e, hk, distinctL, hb]
/-! logs -/
def eventB (d : D) : Bool := arrD d || depaD d
def isInD : D → Bool
  | .tup (.str a :: _) => a == "in"
  | _ => false
def carOf : D → D
  | .tup [_, x] => x
  | _ => .non
def carsIn (evs : List D) : List D := (evs.filter isInD).map carOf
def logB (evs : List D) : Bool := evs.all eventB && distinctL (carsIn evs)
theorem ev_form {d : D} (h : eventB d = true) : (∃ x, carD x = true ∧ d = .tup [.str "in", x]) ∨ d = .tup [.str "out"] := by
  unfold eventB at h
  cases d <;> first | (cases h; done) | skip
  rename_i xs
  match xs, h with
  | [], h => cases h
  | [.str a], h =>
    have : a = "out" := by simpa [arrD, depaD] using h
    subst this
    exact .inr rfl
  | [.str a, x], h =>
    have : a = "in" ∧ carD x = true := by simpa [arrD, depaD] using h
    obtain ⟨rfl, hx⟩ := this
    exact .inl ⟨x, hx, rfl⟩
  | .str a :: x :: y :: r, h => simp [arrD, depaD] at h
  | .non :: r, h => cases r <;> simp [arrD, depaD] at h
  | .bl _ :: r, h => cases r <;> simp [arrD, depaD] at h
  | .int _ :: r, h => cases r <;> simp [arrD, depaD] at h
  | .tup _ :: r, h => cases r <;> simp [arrD, depaD] at h
  | .lst _ :: r, h => cases r <;> simp [arrD, depaD] at h
  | .set _ :: r, h => cases r <;> simp [arrD, depaD] at h
  | .dct _ :: r, h => cases r <;> simp [arrD, depaD] at h
  | .obj _ _ :: r, h => cases r <;> simp [arrD, depaD] at h
  | .fn _ :: r, h => cases r <;> simp [arrD, depaD] at h
  | .scr _ :: r, h => cases r <;> simp [arrD, depaD] at h
theorem carsIn_ok {evs : List D} (h : evs.all eventB = true) : (carsIn evs).all carD = true := by
  unfold carsIn
  rw [List.all_map, List.all_eq_true]
  intro d hd
  obtain ⟨h1, h2⟩ := List.mem_filter.mp hd
  rcases ev_form (List.all_eq_true.mp h d h1) with ⟨x, hx, rfl⟩ | rfl
  · exact hx
  · revert h2; decide
theorem some_log (b : Bool) (evs : List D) (h : evs.all okE = true) (hl : evs.length ≤ 4000) : f_is_some_log [ol b evs] = .ret (.d (.bl (logB evs))) [back b evs] := by
  unfold f_is_some_log m_is_some_log
  have hc := eLcH_pure (i := 0) (vs := [1]) (g := gN 1) (t := tYesM) (e := eOr (eCall 1 f_is_arrival (aCons (bVar 1) aNil)) (eCall 1 f_is_departure (aCons (bVar 1) aNil))) (δ := [some (ol b evs), none]) (ds := evs) (fun _ => true) (fun d => .bl (eventB d)) rfl (by cases b <;> rfl) (by omega) (fun d hd => by
    have h1 := is_arr_d d (List.all_eq_true.mp h d hd)
    have h2 := is_dep_d d (List.all_eq_true.mp h d hd)
    refine ⟨[if b = true then none else some (.d (.lst evs)), some (.d d)], [if b = true then none else some (.d (.lst evs)), some (.d d)], ?_, rfl, by simp, fun _ => ⟨.d (.bl (eventB d)), [if b = true then none else some (.d (.lst evs)), some (.d d)], ?_, rfl, ?_⟩⟩
    · cases b <;> simp [Dn.run, Dn.lent, Dn.outsL, Dn.sCons, Dn.sIf, Dn.sRet, Dn.sRetV, Dn.sRetN, Dn.sSet, Dn.sExpr, Dn.sNil, Dn.sRaise, Dn.put, Dn.eC, Dn.eVar, Dn.eMove, Dn.bVar, Dn.bVal, Dn.e1, Dn.e2, Dn.e2T, Dn.eN, Dn.aNil, Dn.aCons, Dn.rd, Dn.rdAll, Dn.ofOp, Dn.view, Dn.isOpen, Dn.asBool, Dn.tVal, Dn.tYesM, Dn.tAndM, Dn.tOrM, Dn.tNotM, Dn.eIf, Dn.eAnd, Dn.eOr, Dn.eNot, Dn.U1, Dn.U2, Dn.ob, Dn.oi, Dn.eDisp, Dn.tms, Dn.tupO, Dn.lstO, Dn.isStrD, Dn.isiO, Dn.isiB, Dn.inO, Dn.memD, Dn.eqvD, Dn.eqvL, Dn.cmpOk, Dn.plainD, Dn.plainL, Dn.depD, Dn.depL, Dn.eqO, Dn.neO, Dn.ixO, Dn.atD, Dn.ixNat, Dn.lenO, Dn.ltO, Dn.leO, Dn.gtO, Dn.geO, Dn.eChain, Dn.isO, Dn.notIsO, Dn.isNoneB, Dn.notO, Dn.ninO, Dn.eCall, Dn.callF, Dn.lend, Dn.giveBack, Dn.seqOf, Dn.wipeS, Dn.backS, Dn.gN, Dn.eMut, Dn.tupleO, Dn.listO, Dn.eCut, Dn.pNone, Dn.pSome, Dn.cutO, Function.comp_def, -List.map_map, ol]
    · cases b <;> cases ha : arrD d <;> simp [Dn.run, Dn.lent, Dn.outsL, Dn.sCons, Dn.sIf, Dn.sRet, Dn.sRetV, Dn.sRetN, Dn.sSet, Dn.sExpr, Dn.sNil, Dn.sRaise, Dn.put, Dn.eC, Dn.eVar, Dn.eMove, Dn.bVar, Dn.bVal, Dn.e1, Dn.e2, Dn.e2T, Dn.eN, Dn.aNil, Dn.aCons, Dn.rd, Dn.rdAll, Dn.ofOp, Dn.view, Dn.isOpen, Dn.asBool, Dn.tVal, Dn.tYesM, Dn.tAndM, Dn.tOrM, Dn.tNotM, Dn.eIf, Dn.eAnd, Dn.eOr, Dn.eNot, Dn.U1, Dn.U2, Dn.ob, Dn.oi, Dn.eDisp, Dn.tms, Dn.tupO, Dn.lstO, Dn.isStrD, Dn.isiO, Dn.isiB, Dn.inO, Dn.memD, Dn.eqvD, Dn.eqvL, Dn.cmpOk, Dn.plainD, Dn.plainL, Dn.depD, Dn.depL, Dn.eqO, Dn.neO, Dn.ixO, Dn.atD, Dn.ixNat, Dn.lenO, Dn.ltO, Dn.leO, Dn.gtO, Dn.geO, Dn.eChain, Dn.isO, Dn.notIsO, Dn.isNoneB, Dn.notO, Dn.ninO, Dn.eCall, Dn.callF, Dn.lend, Dn.giveBack, Dn.seqOf, Dn.wipeS, Dn.backS, Dn.gN, Dn.eMut, Dn.tupleO, Dn.listO, Dn.eCut, Dn.pNone, Dn.pSome, Dn.cutO, Function.comp_def, -List.map_map, h1, h2, eventB, ha]
    · cases b <;> simp [Dn.run, Dn.lent, Dn.outsL, Dn.sCons, Dn.sIf, Dn.sRet, Dn.sRetV, Dn.sRetN, Dn.sSet, Dn.sExpr, Dn.sNil, Dn.sRaise, Dn.put, Dn.eC, Dn.eVar, Dn.eMove, Dn.bVar, Dn.bVal, Dn.e1, Dn.e2, Dn.e2T, Dn.eN, Dn.aNil, Dn.aCons, Dn.rd, Dn.rdAll, Dn.ofOp, Dn.view, Dn.isOpen, Dn.asBool, Dn.tVal, Dn.tYesM, Dn.tAndM, Dn.tOrM, Dn.tNotM, Dn.eIf, Dn.eAnd, Dn.eOr, Dn.eNot, Dn.U1, Dn.U2, Dn.ob, Dn.oi, Dn.eDisp, Dn.tms, Dn.tupO, Dn.lstO, Dn.isStrD, Dn.isiO, Dn.isiB, Dn.inO, Dn.memD, Dn.eqvD, Dn.eqvL, Dn.cmpOk, Dn.plainD, Dn.plainL, Dn.depD, Dn.depL, Dn.eqO, Dn.neO, Dn.ixO, Dn.atD, Dn.ixNat, Dn.lenO, Dn.ltO, Dn.leO, Dn.gtO, Dn.geO, Dn.eChain, Dn.isO, Dn.notIsO, Dn.isNoneB, Dn.notO, Dn.ninO, Dn.eCall, Dn.callF, Dn.lend, Dn.giveBack, Dn.seqOf, Dn.wipeS, Dn.backS, Dn.gN, Dn.eMut, Dn.tupleO, Dn.listO, Dn.eCut, Dn.pNone, Dn.pSome, Dn.cutO, Function.comp_def, -List.map_map, ol])
  rw [filter_true] at hc
  by_cases ha : evs.all eventB = true
  · have hd := eLcH_pure (i := 0) (vs := [1]) (g := gN 1) (t := tVal (e2 eqO (bVal (e2 ixO (bVar 1) (bVal (eC (D.int 0))))) (bVal (eC (D.str "in"))))) (e := e2 ixO (bVar 1) (bVal (eC (D.int 1)))) (δ := [some (ol b evs), none]) (ds := evs) isInD carOf rfl (by cases b <;> rfl) (by omega) (fun d hd => by
      refine ⟨[if b = true then none else some (.d (.lst evs)), some (.d d)], [if b = true then none else some (.d (.lst evs)), some (.d d)], ?_, ?_, fun _ => ?_, fun hi => ⟨.d (carOf d), [if b = true then none else some (.d (.lst evs)), some (.d d)], ?_, ?_, ?_⟩⟩
      · cases b <;> simp [Dn.run, Dn.lent, Dn.outsL, Dn.sCons, Dn.sIf, Dn.sRet, Dn.sRetV, Dn.sRetN, Dn.sSet, Dn.sExpr, Dn.sNil, Dn.sRaise, Dn.put, Dn.eC, Dn.eVar, Dn.eMove, Dn.bVar, Dn.bVal, Dn.e1, Dn.e2, Dn.e2T, Dn.eN, Dn.aNil, Dn.aCons, Dn.rd, Dn.rdAll, Dn.ofOp, Dn.view, Dn.isOpen, Dn.asBool, Dn.tVal, Dn.tYesM, Dn.tAndM, Dn.tOrM, Dn.tNotM, Dn.eIf, Dn.eAnd, Dn.eOr, Dn.eNot, Dn.U1, Dn.U2, Dn.ob, Dn.oi, Dn.eDisp, Dn.tms, Dn.tupO, Dn.lstO, Dn.isStrD, Dn.isiO, Dn.isiB, Dn.inO, Dn.memD, Dn.eqvD, Dn.eqvL, Dn.cmpOk, Dn.plainD, Dn.plainL, Dn.depD, Dn.depL, Dn.eqO, Dn.neO, Dn.ixO, Dn.atD, Dn.ixNat, Dn.lenO, Dn.ltO, Dn.leO, Dn.gtO, Dn.geO, Dn.eChain, Dn.isO, Dn.notIsO, Dn.isNoneB, Dn.notO, Dn.ninO, Dn.eCall, Dn.callF, Dn.lend, Dn.giveBack, Dn.seqOf, Dn.wipeS, Dn.backS, Dn.gN, Dn.eMut, Dn.tupleO, Dn.listO, Dn.eCut, Dn.pNone, Dn.pSome, Dn.cutO, Function.comp_def, -List.map_map, ol]
      · rcases ev_form (List.all_eq_true.mp ha d hd) with ⟨x, hx, rfl⟩ | rfl <;> cases b <;> simp [Dn.run, Dn.lent, Dn.outsL, Dn.sCons, Dn.sIf, Dn.sRet, Dn.sRetV, Dn.sRetN, Dn.sSet, Dn.sExpr, Dn.sNil, Dn.sRaise, Dn.put, Dn.eC, Dn.eVar, Dn.eMove, Dn.bVar, Dn.bVal, Dn.e1, Dn.e2, Dn.e2T, Dn.eN, Dn.aNil, Dn.aCons, Dn.rd, Dn.rdAll, Dn.ofOp, Dn.view, Dn.isOpen, Dn.asBool, Dn.tVal, Dn.tYesM, Dn.tAndM, Dn.tOrM, Dn.tNotM, Dn.eIf, Dn.eAnd, Dn.eOr, Dn.eNot, Dn.U1, Dn.U2, Dn.ob, Dn.oi, Dn.eDisp, Dn.tms, Dn.tupO, Dn.lstO, Dn.isStrD, Dn.isiO, Dn.isiB, Dn.inO, Dn.memD, Dn.eqvD, Dn.eqvL, Dn.cmpOk, Dn.plainD, Dn.plainL, Dn.depD, Dn.depL, Dn.eqO, Dn.neO, Dn.ixO, Dn.atD, Dn.ixNat, Dn.lenO, Dn.ltO, Dn.leO, Dn.gtO, Dn.geO, Dn.eChain, Dn.isO, Dn.notIsO, Dn.isNoneB, Dn.notO, Dn.ninO, Dn.eCall, Dn.callF, Dn.lend, Dn.giveBack, Dn.seqOf, Dn.wipeS, Dn.backS, Dn.gN, Dn.eMut, Dn.tupleO, Dn.listO, Dn.eCut, Dn.pNone, Dn.pSome, Dn.cutO, Function.comp_def, -List.map_map, isInD]
      · cases b <;> simp [Dn.run, Dn.lent, Dn.outsL, Dn.sCons, Dn.sIf, Dn.sRet, Dn.sRetV, Dn.sRetN, Dn.sSet, Dn.sExpr, Dn.sNil, Dn.sRaise, Dn.put, Dn.eC, Dn.eVar, Dn.eMove, Dn.bVar, Dn.bVal, Dn.e1, Dn.e2, Dn.e2T, Dn.eN, Dn.aNil, Dn.aCons, Dn.rd, Dn.rdAll, Dn.ofOp, Dn.view, Dn.isOpen, Dn.asBool, Dn.tVal, Dn.tYesM, Dn.tAndM, Dn.tOrM, Dn.tNotM, Dn.eIf, Dn.eAnd, Dn.eOr, Dn.eNot, Dn.U1, Dn.U2, Dn.ob, Dn.oi, Dn.eDisp, Dn.tms, Dn.tupO, Dn.lstO, Dn.isStrD, Dn.isiO, Dn.isiB, Dn.inO, Dn.memD, Dn.eqvD, Dn.eqvL, Dn.cmpOk, Dn.plainD, Dn.plainL, Dn.depD, Dn.depL, Dn.eqO, Dn.neO, Dn.ixO, Dn.atD, Dn.ixNat, Dn.lenO, Dn.ltO, Dn.leO, Dn.gtO, Dn.geO, Dn.eChain, Dn.isO, Dn.notIsO, Dn.isNoneB, Dn.notO, Dn.ninO, Dn.eCall, Dn.callF, Dn.lend, Dn.giveBack, Dn.seqOf, Dn.wipeS, Dn.backS, Dn.gN, Dn.eMut, Dn.tupleO, Dn.listO, Dn.eCut, Dn.pNone, Dn.pSome, Dn.cutO, Function.comp_def, -List.map_map, ol]
      · rcases ev_form (List.all_eq_true.mp ha d hd) with ⟨x, hx, rfl⟩ | rfl
        · cases b <;> simp [Dn.run, Dn.lent, Dn.outsL, Dn.sCons, Dn.sIf, Dn.sRet, Dn.sRetV, Dn.sRetN, Dn.sSet, Dn.sExpr, Dn.sNil, Dn.sRaise, Dn.put, Dn.eC, Dn.eVar, Dn.eMove, Dn.bVar, Dn.bVal, Dn.e1, Dn.e2, Dn.e2T, Dn.eN, Dn.aNil, Dn.aCons, Dn.rd, Dn.rdAll, Dn.ofOp, Dn.view, Dn.isOpen, Dn.asBool, Dn.tVal, Dn.tYesM, Dn.tAndM, Dn.tOrM, Dn.tNotM, Dn.eIf, Dn.eAnd, Dn.eOr, Dn.eNot, Dn.U1, Dn.U2, Dn.ob, Dn.oi, Dn.eDisp, Dn.tms, Dn.tupO, Dn.lstO, Dn.isStrD, Dn.isiO, Dn.isiB, Dn.inO, Dn.memD, Dn.eqvD, Dn.eqvL, Dn.cmpOk, Dn.plainD, Dn.plainL, Dn.depD, Dn.depL, Dn.eqO, Dn.neO, Dn.ixO, Dn.atD, Dn.ixNat, Dn.lenO, Dn.ltO, Dn.leO, Dn.gtO, Dn.geO, Dn.eChain, Dn.isO, Dn.notIsO, Dn.isNoneB, Dn.notO, Dn.ninO, Dn.eCall, Dn.callF, Dn.lend, Dn.giveBack, Dn.seqOf, Dn.wipeS, Dn.backS, Dn.gN, Dn.eMut, Dn.tupleO, Dn.listO, Dn.eCut, Dn.pNone, Dn.pSome, Dn.cutO, Function.comp_def, -List.map_map, carOf]
        · exact absurd hi (by decide)
      · rfl
      · cases b <;> simp [Dn.run, Dn.lent, Dn.outsL, Dn.sCons, Dn.sIf, Dn.sRet, Dn.sRetV, Dn.sRetN, Dn.sSet, Dn.sExpr, Dn.sNil, Dn.sRaise, Dn.put, Dn.eC, Dn.eVar, Dn.eMove, Dn.bVar, Dn.bVal, Dn.e1, Dn.e2, Dn.e2T, Dn.eN, Dn.aNil, Dn.aCons, Dn.rd, Dn.rdAll, Dn.ofOp, Dn.view, Dn.isOpen, Dn.asBool, Dn.tVal, Dn.tYesM, Dn.tAndM, Dn.tOrM, Dn.tNotM, Dn.eIf, Dn.eAnd, Dn.eOr, Dn.eNot, Dn.U1, Dn.U2, Dn.ob, Dn.oi, Dn.eDisp, Dn.tms, Dn.tupO, Dn.lstO, Dn.isStrD, Dn.isiO, Dn.isiB, Dn.inO, Dn.memD, Dn.eqvD, Dn.eqvL, Dn.cmpOk, Dn.plainD, Dn.plainL, Dn.depD, Dn.depL, Dn.eqO, Dn.neO, Dn.ixO, Dn.atD, Dn.ixNat, Dn.lenO, Dn.ltO, Dn.leO, Dn.gtO, Dn.geO, Dn.eChain, Dn.isO, Dn.notIsO, Dn.isNoneB, Dn.notO, Dn.ninO, Dn.eCall, Dn.callF, Dn.lend, Dn.giveBack, Dn.seqOf, Dn.wipeS, Dn.backS, Dn.gN, Dn.eMut, Dn.tupleO, Dn.listO, Dn.eCut, Dn.pNone, Dn.pSome, Dn.cutO, Function.comp_def, -List.map_map, ol])
    have he := distinct_list true (carsIn evs) (carsIn_ok ha) (Nat.le_trans (by unfold carsIn; rw [List.length_map]; exact List.length_filter_le _ _) hl)
    have he' : f_are_distinct [.lst ((evs.filter isInD).map carOf)] = .ret (.d (.bl (distinctL (carsIn evs)))) [some (.lst (carsIn evs))] := he
    cases b <;> simp only [ol, if_true, if_false, Bool.false_eq_true] at hc hd ⊢ <;> simp [Dn.run, Dn.lent, Dn.outsL, Dn.sCons, Dn.sIf, Dn.sRet, Dn.sRetV, Dn.sRetN, Dn.sSet, Dn.sExpr, Dn.sNil, Dn.sRaise, Dn.put, Dn.eC, Dn.eVar, Dn.eMove, Dn.bVar, Dn.bVal, Dn.e1, Dn.e2, Dn.e2T, Dn.eN, Dn.aNil, Dn.aCons, Dn.rd, Dn.rdAll, Dn.ofOp, Dn.view, Dn.isOpen, Dn.asBool, Dn.tVal, Dn.tYesM, Dn.tAndM, Dn.tOrM, Dn.tNotM, Dn.eIf, Dn.eAnd, Dn.eOr, Dn.eNot, Dn.U1, Dn.U2, Dn.ob, Dn.oi, Dn.eDisp, Dn.tms, Dn.tupO, Dn.lstO, Dn.isStrD, Dn.isiO, Dn.isiB, Dn.inO, Dn.memD, Dn.eqvD, Dn.eqvL, Dn.cmpOk, Dn.plainD, Dn.plainL, Dn.depD, Dn.depL, Dn.eqO, Dn.neO, Dn.ixO, Dn.atD, Dn.ixNat, Dn.lenO, Dn.ltO, Dn.leO, Dn.gtO, Dn.geO, Dn.eChain, Dn.isO, Dn.notIsO, Dn.isNoneB, Dn.notO, Dn.ninO, Dn.eCall, Dn.callF, Dn.lend, Dn.giveBack, Dn.seqOf, Dn.wipeS, Dn.backS, Dn.gN, Dn.eMut, Dn.tupleO, Dn.listO, Dn.eCut, Dn.pNone, Dn.pSome, Dn.cutO, Function.comp_def, -List.map_map, hc, hd, allO_map, ha, he', logB, back]
  · have ha : evs.all eventB = false := by simpa using ha
    cases b <;> simp only [ol, if_true, if_false, Bool.false_eq_true] at hc ⊢ <;> simp [Dn.run, Dn.lent, Dn.outsL, Dn.sCons, Dn.sIf, Dn.sRet, Dn.sRetV, Dn.sRetN, Dn.sSet, Dn.sExpr, Dn.sNil, Dn.sRaise, Dn.put, Dn.eC, Dn.eVar, Dn.eMove, Dn.bVar, Dn.bVal, Dn.e1, Dn.e2, Dn.e2T, Dn.eN, Dn.aNil, Dn.aCons, Dn.rd, Dn.rdAll, Dn.ofOp, Dn.view, Dn.isOpen, Dn.asBool, Dn.tVal, Dn.tYesM, Dn.tAndM, Dn.tOrM, Dn.tNotM, Dn.eIf, Dn.eAnd, Dn.eOr, Dn.eNot, Dn.U1, Dn.U2, Dn.ob, Dn.oi, Dn.eDisp, Dn.tms, Dn.tupO, Dn.lstO, Dn.isStrD, Dn.isiO, Dn.isiB, Dn.inO, Dn.memD, Dn.eqvD, Dn.eqvL, Dn.cmpOk, Dn.plainD, Dn.plainL, Dn.depD, Dn.depL, Dn.eqO, Dn.neO, Dn.ixO, Dn.atD, Dn.ixNat, Dn.lenO, Dn.ltO, Dn.leO, Dn.gtO, Dn.geO, Dn.eChain, Dn.isO, Dn.notIsO, Dn.isNoneB, Dn.notO, Dn.ninO, Dn.eCall, Dn.callF, Dn.lend, Dn.giveBack, Dn.seqOf, Dn.wipeS, Dn.backS, Dn.gN, Dn.eMut, Dn.tupleO, Dn.listO, Dn.eCut, Dn.pNone, Dn.pSome, Dn.cutO, Function.comp_def, -List.map_map, hc, allO_map, ha, logB, back]
end Tk46
set_option autoImplicit false
set_option linter.all false
set_option maxRecDepth 100000
namespace Tk46
open PySem Dn
theorem cars_strs : ∀ {ds : List D}, ds.all carD = true → ∃ ys : List Str, ds = ys.map D.str ∧ ys.all carOk = true
  | [], _ => ⟨[], rfl, rfl⟩
  | d :: ds, h => by
    simp only [List.all_cons, Bool.and_eq_true] at h
    obtain ⟨ys, rfl, e⟩ := cars_strs h.2
    cases d <;> first | (cases h.1; done) | skip
    rename_i x
    have h1 : carOk x = true := h.1
    exact ⟨x :: ys, rfl, by simp [h1, e]⟩
theorem strsOf_map : ∀ ys : List Str, strsOf (ys.map D.str) = some ys
  | [] => rfl
  | y :: ys => by simp [strsOf, strsOf_map ys]
theorem totL_le {n : Nat} : ∀ {ys : List Str}, (∀ y ∈ ys, y.length ≤ n) → totL ys ≤ n * ys.length
  | [], _ => by simp [totL]
  | y :: ys, h => by
    have h1 := totL_le fun z hz => h z (List.mem_cons_of_mem _ hz)
    have h2 := h y (by simp)
    unfold totL at h1 ⊢
    rw [List.map_cons, List.sum_cons, List.length_cons, Nat.mul_add]
    omega
theorem car_len {x : Str} (h : carOk x = true) : x.length ≤ 4 := by
  simp only [carOk, Bool.and_eq_true, decide_eq_true_eq] at h
  exact h.1.2
def joined (a : Str) (ys : List Str) : Str := Txt.join a ys
theorem join_tup {a : Str} {ys : List Str} {n : Nat} (h : ∀ y ∈ ys, y.length ≤ n) (ha : a.length ≤ 1) (hl : (n + 1) * ys.length ≤ 1000000) : joinO (.str a) (.tup (ys.map D.str)) = some (.d (.str (joined a ys))) := by
  have h1 := totL_le h
  have h2 : ys.length * a.length ≤ ys.length * 1 := Nat.mul_le_mul_left _ ha
  have h3 : totL ys + ys.length * a.length ≤ 1000000 := by
    rw [Nat.add_mul] at hl
    omega
  simp only [joinO, joinL, strsOf_map]
  rw [if_pos h3]; rfl
theorem join_lst {a : Str} {ys : List Str} {n : Nat} (h : ∀ y ∈ ys, y.length ≤ n) (ha : a.length ≤ 1) (hl : (n + 1) * ys.length ≤ 1000000) : joinO (.str a) (.lst (ys.map D.str)) = some (.d (.str (joined a ys))) := join_tup h ha hl
theorem format_lane_ok (ys : List Str) (h : laneB (ys.map D.str) = true) (hl : ys.length ≤ 4000) : f_format_lane [.d (.tup (ys.map .str))] = .ret (.d (.str (joined " " ys))) [none] := by
  have hc : (ys.map D.str).all carD = true := by
    unfold laneB at h
    exact (Bool.and_eq_true _ _ ▸ h).1
  have h1 := is_lane_tup (ys.map D.str) (by
    rw [List.all_eq_true] at hc ⊢
    exact fun d hd => all_okD (hc d hd)) (by simpa using hl)
  have hn : ∀ y ∈ ys, y.length ≤ 4 := fun y hy => car_len (List.all_eq_true.mp hc (.str y) (List.mem_map_of_mem hy))
  have h2 := join_tup (a := " ") hn (by decide) (by omega)
  unfold f_format_lane m_format_lane
  simp [Dn.run, Dn.lent, Dn.outsL, Dn.sCons, Dn.sIf, Dn.sRet, Dn.sRetV, Dn.sRetN, Dn.sSet, Dn.sExpr, Dn.sNil, Dn.sRaise, Dn.put, Dn.eC, Dn.eVar, Dn.eMove, Dn.bVar, Dn.bVal, Dn.e1, Dn.e2, Dn.e2T, Dn.eN, Dn.aNil, Dn.aCons, Dn.rd, Dn.rdAll, Dn.ofOp, Dn.view, Dn.isOpen, Dn.asBool, Dn.tVal, Dn.tYesM, Dn.tAndM, Dn.tOrM, Dn.tNotM, Dn.eIf, Dn.eAnd, Dn.eOr, Dn.eNot, Dn.U1, Dn.U2, Dn.ob, Dn.oi, Dn.eDisp, Dn.tms, Dn.tupO, Dn.lstO, Dn.isStrD, Dn.isiO, Dn.isiB, Dn.inO, Dn.memD, Dn.eqvD, Dn.eqvL, Dn.cmpOk, Dn.plainD, Dn.plainL, Dn.depD, Dn.depL, Dn.eqO, Dn.neO, Dn.ixO, Dn.atD, Dn.ixNat, Dn.lenO, Dn.ltO, Dn.leO, Dn.gtO, Dn.geO, Dn.eChain, Dn.isO, Dn.notIsO, Dn.isNoneB, Dn.notO, Dn.ninO, Dn.eCall, Dn.callF, Dn.lend, Dn.giveBack, Dn.seqOf, Dn.wipeS, Dn.backS, Dn.gN, Dn.eMut, Dn.tupleO, Dn.listO, Dn.eCut, Dn.pNone, Dn.pSome, Dn.cutO, Function.comp_def, -List.map_map, h1, h, h2]
/-- a log's events, by their cars -/
inductive Ev where
  | arr (x : Str) | dep
def evD : Ev → D
  | .arr x => .tup [.str "in", .str x]
  | .dep => .tup [.str "out"]
def evW : Ev → Str
  | .arr x => "+" ++ x
  | .dep => "-"
theorem evs_of : ∀ {ds : List D}, ds.all eventB = true → ∃ es : List Ev, ds = es.map evD
  | [], _ => ⟨[], rfl⟩
  | d :: ds, h => by
    simp only [List.all_cons, Bool.and_eq_true] at h
    obtain ⟨es, rfl⟩ := evs_of h.2
    rcases ev_form h.1 with ⟨x, hx, rfl⟩ | rfl
    · cases x <;> first | (cases hx; done) | skip
      rename_i x
      exact ⟨.arr x :: es, rfl⟩
    · exact ⟨.dep :: es, rfl⟩
theorem out_in : ¬ (("out" : Str) = "in") := by decide
theorem plus_empty (x : Str) : (Str.empty ++ ("+" : Str)) ++ x = "+" ++ x := rfl
theorem app_len (x y : Str) : (x ++ y).length = x.length + y.length := by
  show (x.cps ++ y.cps).size = _
  rw [Array.size_append]; rfl
theorem ev_len {e : Ev} (h : eventB (evD e) = true) : (evW e).length ≤ 5 := by
  cases e with
  | dep => decide
  | arr x =>
    have : carOk x = true := by simpa [eventB, evD, arrD, depaD, carD] using h
    have := car_len this
    show (("+" : Str) ++ x).length ≤ 5
    rw [app_len]
    have : ("+" : Str).length = 1 := by decide
    omega
theorem okE_ev {e : Ev} (h : eventB (evD e) = true) : okE (evD e) = true := by
  cases e with
  | dep => decide
  | arr x =>
    have : carOk x = true := by simpa [eventB, evD, arrD, depaD, carD] using h
    have := car_len this
    simp [evD, okE, okD]
    exact ⟨by decide, by omega⟩
theorem format_log_ok (b : Bool) (es : List Ev) (h : logB (es.map evD) = true) (hl : es.length ≤ 4000) : f_format_log [ol b (es.map evD)] = .ret (.d (.str (joined " " (es.map evW)))) [back b (es.map evD)] := by
  have ha : (es.map evD).all eventB = true := by
    unfold logB at h
    exact (Bool.and_eq_true _ _ ▸ h).1
  have hev : ∀ e ∈ es, eventB (evD e) = true := fun e he => List.all_eq_true.mp ha _ (List.mem_map_of_mem he)
  have h1 := some_log b (es.map evD) (by
    rw [List.all_eq_true]
    intro d hd
    obtain ⟨e, he, rfl⟩ := List.mem_map.mp hd
    exact okE_ev (hev e he)) (by simpa using hl)
  have hn : ∀ y ∈ es.map evW, y.length ≤ 5 := fun y hy => by
    obtain ⟨e, he, rfl⟩ := List.mem_map.mp hy
    exact ev_len (hev e he)
  have h2 := join_lst (a := " ") hn (by decide) (by rw [List.length_map]; omega)
  have hc := eLcH_pure (i := 0) (vs := [1]) (g := gN 1) (t := tYesM) (e := eIf (tVal (e2 eqO (bVal (e2 ixO (bVar 1) (bVal (eC (D.int 0))))) (bVal (eC (D.str "in"))))) (eFs [eC (D.str "+"), e2 ixO (bVar 1) (bVal (eC (D.int 1)))] Str.empty) (eC (D.str "-"))) (δ := [some (ol b (es.map evD)), none]) (ds := es.map evD) (fun _ => true)
    (fun d => .str (match d with | .tup [_, .str x] => "+" ++ x | _ => "-")) rfl (by cases b <;> rfl) (by simpa using (by omega : es.length ≤ 1000000)) (fun d hd => by
      obtain ⟨e, he, rfl⟩ := List.mem_map.mp hd
      have h4 := hev e he
      refine ⟨[if b = true then none else some (.d (.lst (es.map evD))), some (.d (evD e))], [if b = true then none else some (.d (.lst (es.map evD))), some (.d (evD e))], ?_, rfl, by simp, fun _ => ⟨.d (.str (evW e)), [if b = true then none else some (.d (.lst (es.map evD))), some (.d (evD e))], ?_, ?_, ?_⟩⟩
      · cases b <;> simp [Dn.run, Dn.lent, Dn.outsL, Dn.sCons, Dn.sIf, Dn.sRet, Dn.sRetV, Dn.sRetN, Dn.sSet, Dn.sExpr, Dn.sNil, Dn.sRaise, Dn.put, Dn.eC, Dn.eVar, Dn.eMove, Dn.bVar, Dn.bVal, Dn.e1, Dn.e2, Dn.e2T, Dn.eN, Dn.aNil, Dn.aCons, Dn.rd, Dn.rdAll, Dn.ofOp, Dn.view, Dn.isOpen, Dn.asBool, Dn.tVal, Dn.tYesM, Dn.tAndM, Dn.tOrM, Dn.tNotM, Dn.eIf, Dn.eAnd, Dn.eOr, Dn.eNot, Dn.U1, Dn.U2, Dn.ob, Dn.oi, Dn.eDisp, Dn.tms, Dn.tupO, Dn.lstO, Dn.isStrD, Dn.isiO, Dn.isiB, Dn.inO, Dn.memD, Dn.eqvD, Dn.eqvL, Dn.cmpOk, Dn.plainD, Dn.plainL, Dn.depD, Dn.depL, Dn.eqO, Dn.neO, Dn.ixO, Dn.atD, Dn.ixNat, Dn.lenO, Dn.ltO, Dn.leO, Dn.gtO, Dn.geO, Dn.eChain, Dn.isO, Dn.notIsO, Dn.isNoneB, Dn.notO, Dn.ninO, Dn.eCall, Dn.callF, Dn.lend, Dn.giveBack, Dn.seqOf, Dn.wipeS, Dn.backS, Dn.gN, Dn.eMut, Dn.tupleO, Dn.listO, Dn.eCut, Dn.pNone, Dn.pSome, Dn.cutO, Function.comp_def, -List.map_map, ol]
      · cases e with
        | dep => cases b <;> simp [Dn.run, Dn.lent, Dn.outsL, Dn.sCons, Dn.sIf, Dn.sRet, Dn.sRetV, Dn.sRetN, Dn.sSet, Dn.sExpr, Dn.sNil, Dn.sRaise, Dn.put, Dn.eC, Dn.eVar, Dn.eMove, Dn.bVar, Dn.bVal, Dn.e1, Dn.e2, Dn.e2T, Dn.eN, Dn.aNil, Dn.aCons, Dn.rd, Dn.rdAll, Dn.ofOp, Dn.view, Dn.isOpen, Dn.asBool, Dn.tVal, Dn.tYesM, Dn.tAndM, Dn.tOrM, Dn.tNotM, Dn.eIf, Dn.eAnd, Dn.eOr, Dn.eNot, Dn.U1, Dn.U2, Dn.ob, Dn.oi, Dn.eDisp, Dn.tms, Dn.tupO, Dn.lstO, Dn.isStrD, Dn.isiO, Dn.isiB, Dn.inO, Dn.memD, Dn.eqvD, Dn.eqvL, Dn.cmpOk, Dn.plainD, Dn.plainL, Dn.depD, Dn.depL, Dn.eqO, Dn.neO, Dn.ixO, Dn.atD, Dn.ixNat, Dn.lenO, Dn.ltO, Dn.leO, Dn.gtO, Dn.geO, Dn.eChain, Dn.isO, Dn.notIsO, Dn.isNoneB, Dn.notO, Dn.ninO, Dn.eCall, Dn.callF, Dn.lend, Dn.giveBack, Dn.seqOf, Dn.wipeS, Dn.backS, Dn.gN, Dn.eMut, Dn.tupleO, Dn.listO, Dn.eCut, Dn.pNone, Dn.pSome, Dn.cutO, Function.comp_def, -List.map_map, evD, evW, out_in]
        | arr x =>
          have : carOk x = true := by simpa [eventB, evD, arrD, depaD, carD] using h4
          have := car_len this
          have l0 : ("+" : Str).length ≤ 1000000 := by decide
          have l1 : x.length ≤ 1000000 := by omega
          have l2 : (Str.empty ++ ("+" : Str)).length ≤ 1000000 := by decide
          have l3 : ((Str.empty ++ ("+" : Str)) ++ x).length ≤ 1000000 := by
            rw [app_len]
            have : (Str.empty ++ ("+" : Str)).length = 1 := by decide
            omega
          have l4 : (("+" : Str) ++ x).length ≤ 1000000 := l3
          cases b <;> simp [Dn.run, Dn.lent, Dn.outsL, Dn.sCons, Dn.sIf, Dn.sRet, Dn.sRetV, Dn.sRetN, Dn.sSet, Dn.sExpr, Dn.sNil, Dn.sRaise, Dn.put, Dn.eC, Dn.eVar, Dn.eMove, Dn.bVar, Dn.bVal, Dn.e1, Dn.e2, Dn.e2T, Dn.eN, Dn.aNil, Dn.aCons, Dn.rd, Dn.rdAll, Dn.ofOp, Dn.view, Dn.isOpen, Dn.asBool, Dn.tVal, Dn.tYesM, Dn.tAndM, Dn.tOrM, Dn.tNotM, Dn.eIf, Dn.eAnd, Dn.eOr, Dn.eNot, Dn.U1, Dn.U2, Dn.ob, Dn.oi, Dn.eDisp, Dn.tms, Dn.tupO, Dn.lstO, Dn.isStrD, Dn.isiO, Dn.isiB, Dn.inO, Dn.memD, Dn.eqvD, Dn.eqvL, Dn.cmpOk, Dn.plainD, Dn.plainL, Dn.depD, Dn.depL, Dn.eqO, Dn.neO, Dn.ixO, Dn.atD, Dn.ixNat, Dn.lenO, Dn.ltO, Dn.leO, Dn.gtO, Dn.geO, Dn.eChain, Dn.isO, Dn.notIsO, Dn.isNoneB, Dn.notO, Dn.ninO, Dn.eCall, Dn.callF, Dn.lend, Dn.giveBack, Dn.seqOf, Dn.wipeS, Dn.backS, Dn.gN, Dn.eMut, Dn.tupleO, Dn.listO, Dn.eCut, Dn.pNone, Dn.pSome, Dn.cutO, Function.comp_def, -List.map_map, evD, evW, eFs, fmtS, l0, l1, l2, l3, l4, plus_empty]
      · cases e <;> rfl
      · cases b <;> simp [Dn.run, Dn.lent, Dn.outsL, Dn.sCons, Dn.sIf, Dn.sRet, Dn.sRetV, Dn.sRetN, Dn.sSet, Dn.sExpr, Dn.sNil, Dn.sRaise, Dn.put, Dn.eC, Dn.eVar, Dn.eMove, Dn.bVar, Dn.bVal, Dn.e1, Dn.e2, Dn.e2T, Dn.eN, Dn.aNil, Dn.aCons, Dn.rd, Dn.rdAll, Dn.ofOp, Dn.view, Dn.isOpen, Dn.asBool, Dn.tVal, Dn.tYesM, Dn.tAndM, Dn.tOrM, Dn.tNotM, Dn.eIf, Dn.eAnd, Dn.eOr, Dn.eNot, Dn.U1, Dn.U2, Dn.ob, Dn.oi, Dn.eDisp, Dn.tms, Dn.tupO, Dn.lstO, Dn.isStrD, Dn.isiO, Dn.isiB, Dn.inO, Dn.memD, Dn.eqvD, Dn.eqvL, Dn.cmpOk, Dn.plainD, Dn.plainL, Dn.depD, Dn.depL, Dn.eqO, Dn.neO, Dn.ixO, Dn.atD, Dn.ixNat, Dn.lenO, Dn.ltO, Dn.leO, Dn.gtO, Dn.geO, Dn.eChain, Dn.isO, Dn.notIsO, Dn.isNoneB, Dn.notO, Dn.ninO, Dn.eCall, Dn.callF, Dn.lend, Dn.giveBack, Dn.seqOf, Dn.wipeS, Dn.backS, Dn.gN, Dn.eMut, Dn.tupleO, Dn.listO, Dn.eCut, Dn.pNone, Dn.pSome, Dn.cutO, Function.comp_def, -List.map_map, ol])
  rw [filter_true, List.map_map] at hc
  have e1 : ((fun d => D.str (match d with | .tup [_, .str x] => "+" ++ x | _ => "-")) ∘ evD) = D.str ∘ evW := funext fun e => by cases e <;> rfl
  rw [e1, ← List.map_map] at hc
  unfold f_format_log m_format_log
  cases b <;> simp only [ol, if_true, if_false, Bool.false_eq_true] at hc h1 ⊢ <;> simp [Dn.run, Dn.lent, Dn.outsL, Dn.sCons, Dn.sIf, Dn.sRet, Dn.sRetV, Dn.sRetN, Dn.sSet, Dn.sExpr, Dn.sNil, Dn.sRaise, Dn.put, Dn.eC, Dn.eVar, Dn.eMove, Dn.bVar, Dn.bVal, Dn.e1, Dn.e2, Dn.e2T, Dn.eN, Dn.aNil, Dn.aCons, Dn.rd, Dn.rdAll, Dn.ofOp, Dn.view, Dn.isOpen, Dn.asBool, Dn.tVal, Dn.tYesM, Dn.tAndM, Dn.tOrM, Dn.tNotM, Dn.eIf, Dn.eAnd, Dn.eOr, Dn.eNot, Dn.U1, Dn.U2, Dn.ob, Dn.oi, Dn.eDisp, Dn.tms, Dn.tupO, Dn.lstO, Dn.isStrD, Dn.isiO, Dn.isiB, Dn.inO, Dn.memD, Dn.eqvD, Dn.eqvL, Dn.cmpOk, Dn.plainD, Dn.plainL, Dn.depD, Dn.depL, Dn.eqO, Dn.neO, Dn.ixO, Dn.atD, Dn.ixNat, Dn.lenO, Dn.ltO, Dn.leO, Dn.gtO, Dn.geO, Dn.eChain, Dn.isO, Dn.notIsO, Dn.isNoneB, Dn.notO, Dn.ninO, Dn.eCall, Dn.callF, Dn.lend, Dn.giveBack, Dn.seqOf, Dn.wipeS, Dn.backS, Dn.gN, Dn.eMut, Dn.tupleO, Dn.listO, Dn.eCut, Dn.pNone, Dn.pSome, Dn.cutO, Function.comp_def, -List.map_map, hc, h1, h, h2, back]
end Tk46
set_option autoImplicit false
set_option linter.all false
set_option maxRecDepth 100000
namespace Tk46
open PySem Dn
/-! sides -/
def sdB (ys : List Str) : Bool := ys.all fun y => y == "L" || y == "R"
theorem sides_all (b : Bool) (ys : List Str) (hs : ∀ y ∈ ys, y.length ≤ 1000000) (hl : ys.length ≤ 900000) : eLcH 0 [1] (gN 1) tYesM (eCall 1 f_is_side (aCons (bVar 1) aNil)) [some (ol b (ys.map .str)), none] = .ok (.lst ((ys.map D.str).map fun d => .bl (sideD d))) [some (ol b (ys.map .str)), none] := by
  have hc := eLcH_pure (i := 0) (vs := [1]) (g := gN 1) (t := tYesM) (e := eCall 1 f_is_side (aCons (bVar 1) aNil)) (δ := [some (ol b (ys.map D.str)), none]) (ds := ys.map D.str) (fun _ => true) (fun d => .bl (sideD d)) rfl (by cases b <;> rfl) (by rw [List.length_map]; omega) (fun d hd => by
    obtain ⟨y, hy, rfl⟩ := List.mem_map.mp hd
    have h1 := is_side_d (.str y) (by simpa [okD] using hs y hy)
    refine ⟨[if b = true then none else some (.d (.lst (ys.map .str))), some (.d (.str y))], [if b = true then none else some (.d (.lst (ys.map .str))), some (.d (.str y))], ?_, rfl, by simp, fun _ => ⟨.d (.bl (sideD (.str y))), [if b = true then none else some (.d (.lst (ys.map .str))), some (.d (.str y))], ?_, rfl, ?_⟩⟩
    · cases b <;> simp [Dn.run, Dn.lent, Dn.outsL, Dn.sCons, Dn.sIf, Dn.sRet, Dn.sRetV, Dn.sRetN, Dn.sSet, Dn.sExpr, Dn.sNil, Dn.sRaise, Dn.put, Dn.eC, Dn.eVar, Dn.eMove, Dn.bVar, Dn.bVal, Dn.e1, Dn.e2, Dn.e2T, Dn.eN, Dn.aNil, Dn.aCons, Dn.rd, Dn.rdAll, Dn.ofOp, Dn.view, Dn.isOpen, Dn.asBool, Dn.tVal, Dn.tYesM, Dn.tAndM, Dn.tOrM, Dn.tNotM, Dn.eIf, Dn.eAnd, Dn.eOr, Dn.eNot, Dn.U1, Dn.U2, Dn.ob, Dn.oi, Dn.eDisp, Dn.tms, Dn.tupO, Dn.lstO, Dn.isStrD, Dn.isiO, Dn.isiB, Dn.inO, Dn.memD, Dn.eqvD, Dn.eqvL, Dn.cmpOk, Dn.plainD, Dn.plainL, Dn.depD, Dn.depL, Dn.eqO, Dn.neO, Dn.ixO, Dn.atD, Dn.ixNat, Dn.lenO, Dn.ltO, Dn.leO, Dn.gtO, Dn.geO, Dn.eChain, Dn.isO, Dn.notIsO, Dn.isNoneB, Dn.notO, Dn.ninO, Dn.eCall, Dn.callF, Dn.lend, Dn.giveBack, Dn.seqOf, Dn.wipeS, Dn.backS, Dn.gN, Dn.eMut, Dn.tupleO, Dn.listO, Dn.eCut, Dn.pNone, Dn.pSome, Dn.cutO, Function.comp_def, -List.map_map, ol]
    · cases b <;> simp [Dn.run, Dn.lent, Dn.outsL, Dn.sCons, Dn.sIf, Dn.sRet, Dn.sRetV, Dn.sRetN, Dn.sSet, Dn.sExpr, Dn.sNil, Dn.sRaise, Dn.put, Dn.eC, Dn.eVar, Dn.eMove, Dn.bVar, Dn.bVal, Dn.e1, Dn.e2, Dn.e2T, Dn.eN, Dn.aNil, Dn.aCons, Dn.rd, Dn.rdAll, Dn.ofOp, Dn.view, Dn.isOpen, Dn.asBool, Dn.tVal, Dn.tYesM, Dn.tAndM, Dn.tOrM, Dn.tNotM, Dn.eIf, Dn.eAnd, Dn.eOr, Dn.eNot, Dn.U1, Dn.U2, Dn.ob, Dn.oi, Dn.eDisp, Dn.tms, Dn.tupO, Dn.lstO, Dn.isStrD, Dn.isiO, Dn.isiB, Dn.inO, Dn.memD, Dn.eqvD, Dn.eqvL, Dn.cmpOk, Dn.plainD, Dn.plainL, Dn.depD, Dn.depL, Dn.eqO, Dn.neO, Dn.ixO, Dn.atD, Dn.ixNat, Dn.lenO, Dn.ltO, Dn.leO, Dn.gtO, Dn.geO, Dn.eChain, Dn.isO, Dn.notIsO, Dn.isNoneB, Dn.notO, Dn.ninO, Dn.eCall, Dn.callF, Dn.lend, Dn.giveBack, Dn.seqOf, Dn.wipeS, Dn.backS, Dn.gN, Dn.eMut, Dn.tupleO, Dn.listO, Dn.eCut, Dn.pNone, Dn.pSome, Dn.cutO, Function.comp_def, -List.map_map, h1]
    · cases b <;> simp [Dn.run, Dn.lent, Dn.outsL, Dn.sCons, Dn.sIf, Dn.sRet, Dn.sRetV, Dn.sRetN, Dn.sSet, Dn.sExpr, Dn.sNil, Dn.sRaise, Dn.put, Dn.eC, Dn.eVar, Dn.eMove, Dn.bVar, Dn.bVal, Dn.e1, Dn.e2, Dn.e2T, Dn.eN, Dn.aNil, Dn.aCons, Dn.rd, Dn.rdAll, Dn.ofOp, Dn.view, Dn.isOpen, Dn.asBool, Dn.tVal, Dn.tYesM, Dn.tAndM, Dn.tOrM, Dn.tNotM, Dn.eIf, Dn.eAnd, Dn.eOr, Dn.eNot, Dn.U1, Dn.U2, Dn.ob, Dn.oi, Dn.eDisp, Dn.tms, Dn.tupO, Dn.lstO, Dn.isStrD, Dn.isiO, Dn.isiB, Dn.inO, Dn.memD, Dn.eqvD, Dn.eqvL, Dn.cmpOk, Dn.plainD, Dn.plainL, Dn.depD, Dn.depL, Dn.eqO, Dn.neO, Dn.ixO, Dn.atD, Dn.ixNat, Dn.lenO, Dn.ltO, Dn.leO, Dn.gtO, Dn.geO, Dn.eChain, Dn.isO, Dn.notIsO, Dn.isNoneB, Dn.notO, Dn.ninO, Dn.eCall, Dn.callF, Dn.lend, Dn.giveBack, Dn.seqOf, Dn.wipeS, Dn.backS, Dn.gN, Dn.eMut, Dn.tupleO, Dn.listO, Dn.eCut, Dn.pNone, Dn.pSome, Dn.cutO, Function.comp_def, -List.map_map, ol])
  rw [filter_true] at hc
  exact hc
theorem sides_b (ys : List Str) : ((ys.map D.str).all sideD) = sdB ys := by
  unfold sdB
  rw [List.all_map]
  rfl
theorem join_lst0 {ys : List Str} (h : sdB ys = true) (hl : ys.length ≤ 900000) : joinO (.str "") (.lst (ys.map D.str)) = some (.d (.str (joined "" ys))) := by
  have hn : ∀ y ∈ ys, y.length ≤ 1 := fun y hy => by
    have := List.all_eq_true.mp h y hy
    simp only [Bool.or_eq_true, beq_iff_eq] at this
    rcases this with rfl | rfl <;> decide
  have h1 := totL_le hn
  have h3 : totL ys + ys.length * ("" : Str).length ≤ 1000000 := by
    have : ("" : Str).length = 0 := by decide
    rw [this]; omega
  simp only [joinO, joinL, strsOf_map]
  rw [if_pos h3]; rfl
theorem format_sides_ok (b : Bool) (ys : List Str) (h : sdB ys = true) (hl : ys.length ≤ 900000) : f_format_sides [ol b (ys.map .str)] = .ret (.d (.str (joined "" ys))) [back b (ys.map .str)] := by
  have hn : ∀ y ∈ ys, y.length ≤ 1000000 := fun y hy => by
    have := List.all_eq_true.mp h y hy
    simp only [Bool.or_eq_true, beq_iff_eq] at this
    rcases this with rfl | rfl <;> decide
  have h1 := sides_all b ys hn hl
  have h2 := join_lst0 h hl
  have h3 := sides_b ys
  unfold f_format_sides m_format_sides
  cases b <;> simp only [ol, if_true, if_false, Bool.false_eq_true] at h1 ⊢ <;> simp [Dn.run, Dn.lent, Dn.outsL, Dn.sCons, Dn.sIf, Dn.sRet, Dn.sRetV, Dn.sRetN, Dn.sSet, Dn.sExpr, Dn.sNil, Dn.sRaise, Dn.put, Dn.eC, Dn.eVar, Dn.eMove, Dn.bVar, Dn.bVal, Dn.e1, Dn.e2, Dn.e2T, Dn.eN, Dn.aNil, Dn.aCons, Dn.rd, Dn.rdAll, Dn.ofOp, Dn.view, Dn.isOpen, Dn.asBool, Dn.tVal, Dn.tYesM, Dn.tAndM, Dn.tOrM, Dn.tNotM, Dn.eIf, Dn.eAnd, Dn.eOr, Dn.eNot, Dn.U1, Dn.U2, Dn.ob, Dn.oi, Dn.eDisp, Dn.tms, Dn.tupO, Dn.lstO, Dn.isStrD, Dn.isiO, Dn.isiB, Dn.inO, Dn.memD, Dn.eqvD, Dn.eqvL, Dn.cmpOk, Dn.plainD, Dn.plainL, Dn.depD, Dn.depL, Dn.eqO, Dn.neO, Dn.ixO, Dn.atD, Dn.ixNat, Dn.lenO, Dn.ltO, Dn.leO, Dn.gtO, Dn.geO, Dn.eChain, Dn.isO, Dn.notIsO, Dn.isNoneB, Dn.notO, Dn.ninO, Dn.eCall, Dn.callF, Dn.lend, Dn.giveBack, Dn.seqOf, Dn.wipeS, Dn.backS, Dn.gN, Dn.eMut, Dn.tupleO, Dn.listO, Dn.eCut, Dn.pNone, Dn.pSome, Dn.cutO, Function.comp_def, -List.map_map, h1, allO_map, h3, h, h2, back]
/-! patterns -/
def pD : Option Str → D
  | none => .non
  | some x => .str x
def pW : Option Str → Str
  | none => "?"
  | some x => x
def cars (ps : List (Option Str)) : List Str := ps.filterMap id
def patB (ps : List (Option Str)) : Bool := (ps.all fun p => match p with | none => true | some x => carOk x) && distinctL ((cars ps).map .str)
def notNon : D → Bool
  | .non => false
  | _ => true
theorem pat_cars (ps : List (Option Str)) : ((ps.map pD).filter notNon).map (fun d => d) = (cars ps).map D.str := by
  rw [List.map_id']
  induction ps with
  | nil => rfl
  | cons p ps ih =>
    cases p with
    | none => rw [List.map_cons, List.filter_cons_of_neg (by decide)]; exact ih
    | some x => rw [List.map_cons, List.filter_cons_of_pos rfl, ih]; rfl
theorem some_pattern (ps : List (Option Str)) (h : patB ps = true) (hl : ps.length ≤ 4000) : f_is_some_pattern [.d (.tup (ps.map pD))] = .ret (.d (.bl true)) [none] := by
  have hp : ∀ p ∈ ps, ∀ x, p = some x → carOk x = true := fun p hp x e => by
    unfold patB at h
    have := List.all_eq_true.mp (Bool.and_eq_true _ _ ▸ h).1 p hp
    subst e
    exact this
  have hc := eLcH_pure (i := 0) (vs := [1]) (g := gN 1) (t := tYesM) (e := eOr (e2 isO (bVar 1) (bVal (eC D.non))) (eCall 1 f_is_car (aCons (bVar 1) aNil))) (δ := [some (.d (.tup (ps.map pD))), none]) (ds := ps.map pD) (fun _ => true) (fun d => .bl true) rfl rfl (by rw [List.length_map]; omega) (fun d hd => by
    obtain ⟨p, hm, rfl⟩ := List.mem_map.mp hd
    refine ⟨[some (.d (.tup (ps.map pD))), some (.d (pD p))], [some (.d (.tup (ps.map pD))), some (.d (pD p))], by simp [Dn.run, Dn.lent, Dn.outsL, Dn.sCons, Dn.sIf, Dn.sRet, Dn.sRetV, Dn.sRetN, Dn.sSet, Dn.sExpr, Dn.sNil, Dn.sRaise, Dn.put, Dn.eC, Dn.eVar, Dn.eMove, Dn.bVar, Dn.bVal, Dn.e1, Dn.e2, Dn.e2T, Dn.eN, Dn.aNil, Dn.aCons, Dn.rd, Dn.rdAll, Dn.ofOp, Dn.view, Dn.isOpen, Dn.asBool, Dn.tVal, Dn.tYesM, Dn.tAndM, Dn.tOrM, Dn.tNotM, Dn.eIf, Dn.eAnd, Dn.eOr, Dn.eNot, Dn.U1, Dn.U2, Dn.ob, Dn.oi, Dn.eDisp, Dn.tms, Dn.tupO, Dn.lstO, Dn.isStrD, Dn.isiO, Dn.isiB, Dn.inO, Dn.memD, Dn.eqvD, Dn.eqvL, Dn.cmpOk, Dn.plainD, Dn.plainL, Dn.depD, Dn.depL, Dn.eqO, Dn.neO, Dn.ixO, Dn.atD, Dn.ixNat, Dn.lenO, Dn.ltO, Dn.leO, Dn.gtO, Dn.geO, Dn.eChain, Dn.isO, Dn.notIsO, Dn.isNoneB, Dn.notO, Dn.ninO, Dn.eCall, Dn.callF, Dn.lend, Dn.giveBack, Dn.seqOf, Dn.wipeS, Dn.backS, Dn.gN, Dn.eMut, Dn.tupleO, Dn.listO, Dn.eCut, Dn.pNone, Dn.pSome, Dn.cutO, Function.comp_def, -List.map_map], rfl, by simp, fun _ => ⟨.d (.bl true), [some (.d (.tup (ps.map pD))), some (.d (pD p))], ?_, rfl, by simp [Dn.run, Dn.lent, Dn.outsL, Dn.sCons, Dn.sIf, Dn.sRet, Dn.sRetV, Dn.sRetN, Dn.sSet, Dn.sExpr, Dn.sNil, Dn.sRaise, Dn.put, Dn.eC, Dn.eVar, Dn.eMove, Dn.bVar, Dn.bVal, Dn.e1, Dn.e2, Dn.e2T, Dn.eN, Dn.aNil, Dn.aCons, Dn.rd, Dn.rdAll, Dn.ofOp, Dn.view, Dn.isOpen, Dn.asBool, Dn.tVal, Dn.tYesM, Dn.tAndM, Dn.tOrM, Dn.tNotM, Dn.eIf, Dn.eAnd, Dn.eOr, Dn.eNot, Dn.U1, Dn.U2, Dn.ob, Dn.oi, Dn.eDisp, Dn.tms, Dn.tupO, Dn.lstO, Dn.isStrD, Dn.isiO, Dn.isiB, Dn.inO, Dn.memD, Dn.eqvD, Dn.eqvL, Dn.cmpOk, Dn.plainD, Dn.plainL, Dn.depD, Dn.depL, Dn.eqO, Dn.neO, Dn.ixO, Dn.atD, Dn.ixNat, Dn.lenO, Dn.ltO, Dn.leO, Dn.gtO, Dn.geO, Dn.eChain, Dn.isO, Dn.notIsO, Dn.isNoneB, Dn.notO, Dn.ninO, Dn.eCall, Dn.callF, Dn.lend, Dn.giveBack, Dn.seqOf, Dn.wipeS, Dn.backS, Dn.gN, Dn.eMut, Dn.tupleO, Dn.listO, Dn.eCut, Dn.pNone, Dn.pSome, Dn.cutO, Function.comp_def, -List.map_map]⟩⟩
    cases p with
    | none => simp [Dn.run, Dn.lent, Dn.outsL, Dn.sCons, Dn.sIf, Dn.sRet, Dn.sRetV, Dn.sRetN, Dn.sSet, Dn.sExpr, Dn.sNil, Dn.sRaise, Dn.put, Dn.eC, Dn.eVar, Dn.eMove, Dn.bVar, Dn.bVal, Dn.e1, Dn.e2, Dn.e2T, Dn.eN, Dn.aNil, Dn.aCons, Dn.rd, Dn.rdAll, Dn.ofOp, Dn.view, Dn.isOpen, Dn.asBool, Dn.tVal, Dn.tYesM, Dn.tAndM, Dn.tOrM, Dn.tNotM, Dn.eIf, Dn.eAnd, Dn.eOr, Dn.eNot, Dn.U1, Dn.U2, Dn.ob, Dn.oi, Dn.eDisp, Dn.tms, Dn.tupO, Dn.lstO, Dn.isStrD, Dn.isiO, Dn.isiB, Dn.inO, Dn.memD, Dn.eqvD, Dn.eqvL, Dn.cmpOk, Dn.plainD, Dn.plainL, Dn.depD, Dn.depL, Dn.eqO, Dn.neO, Dn.ixO, Dn.atD, Dn.ixNat, Dn.lenO, Dn.ltO, Dn.leO, Dn.gtO, Dn.geO, Dn.eChain, Dn.isO, Dn.notIsO, Dn.isNoneB, Dn.notO, Dn.ninO, Dn.eCall, Dn.callF, Dn.lend, Dn.giveBack, Dn.seqOf, Dn.wipeS, Dn.backS, Dn.gN, Dn.eMut, Dn.tupleO, Dn.listO, Dn.eCut, Dn.pNone, Dn.pSome, Dn.cutO, Function.comp_def, -List.map_map, pD]
    | some x =>
      have h1 := hp _ hm x rfl
      have h2 := is_car_d (.str x) (all_okD (d := .str x) h1)
      simp [Dn.run, Dn.lent, Dn.outsL, Dn.sCons, Dn.sIf, Dn.sRet, Dn.sRetV, Dn.sRetN, Dn.sSet, Dn.sExpr, Dn.sNil, Dn.sRaise, Dn.put, Dn.eC, Dn.eVar, Dn.eMove, Dn.bVar, Dn.bVal, Dn.e1, Dn.e2, Dn.e2T, Dn.eN, Dn.aNil, Dn.aCons, Dn.rd, Dn.rdAll, Dn.ofOp, Dn.view, Dn.isOpen, Dn.asBool, Dn.tVal, Dn.tYesM, Dn.tAndM, Dn.tOrM, Dn.tNotM, Dn.eIf, Dn.eAnd, Dn.eOr, Dn.eNot, Dn.U1, Dn.U2, Dn.ob, Dn.oi, Dn.eDisp, Dn.tms, Dn.tupO, Dn.lstO, Dn.isStrD, Dn.isiO, Dn.isiB, Dn.inO, Dn.memD, Dn.eqvD, Dn.eqvL, Dn.cmpOk, Dn.plainD, Dn.plainL, Dn.depD, Dn.depL, Dn.eqO, Dn.neO, Dn.ixO, Dn.atD, Dn.ixNat, Dn.lenO, Dn.ltO, Dn.leO, Dn.gtO, Dn.geO, Dn.eChain, Dn.isO, Dn.notIsO, Dn.isNoneB, Dn.notO, Dn.ninO, Dn.eCall, Dn.callF, Dn.lend, Dn.giveBack, Dn.seqOf, Dn.wipeS, Dn.backS, Dn.gN, Dn.eMut, Dn.tupleO, Dn.listO, Dn.eCut, Dn.pNone, Dn.pSome, Dn.cutO, Function.comp_def, -List.map_map, pD, h2, carD, h1])
  rw [filter_true] at hc
  have hd := eLcH_pure (i := 0) (vs := [1]) (g := gN 1) (t := tVal (e2 notIsO (bVar 1) (bVal (eC D.non)))) (e := eVar 1) (δ := [some (.d (.tup (ps.map pD))), none]) (ds := ps.map pD) notNon (fun d => d) rfl rfl (by rw [List.length_map]; omega) (fun d hd => by
    obtain ⟨p, hm, rfl⟩ := List.mem_map.mp hd
    refine ⟨[some (.d (.tup (ps.map pD))), some (.d (pD p))], [some (.d (.tup (ps.map pD))), some (.d (pD p))], by simp [Dn.run, Dn.lent, Dn.outsL, Dn.sCons, Dn.sIf, Dn.sRet, Dn.sRetV, Dn.sRetN, Dn.sSet, Dn.sExpr, Dn.sNil, Dn.sRaise, Dn.put, Dn.eC, Dn.eVar, Dn.eMove, Dn.bVar, Dn.bVal, Dn.e1, Dn.e2, Dn.e2T, Dn.eN, Dn.aNil, Dn.aCons, Dn.rd, Dn.rdAll, Dn.ofOp, Dn.view, Dn.isOpen, Dn.asBool, Dn.tVal, Dn.tYesM, Dn.tAndM, Dn.tOrM, Dn.tNotM, Dn.eIf, Dn.eAnd, Dn.eOr, Dn.eNot, Dn.U1, Dn.U2, Dn.ob, Dn.oi, Dn.eDisp, Dn.tms, Dn.tupO, Dn.lstO, Dn.isStrD, Dn.isiO, Dn.isiB, Dn.inO, Dn.memD, Dn.eqvD, Dn.eqvL, Dn.cmpOk, Dn.plainD, Dn.plainL, Dn.depD, Dn.depL, Dn.eqO, Dn.neO, Dn.ixO, Dn.atD, Dn.ixNat, Dn.lenO, Dn.ltO, Dn.leO, Dn.gtO, Dn.geO, Dn.eChain, Dn.isO, Dn.notIsO, Dn.isNoneB, Dn.notO, Dn.ninO, Dn.eCall, Dn.callF, Dn.lend, Dn.giveBack, Dn.seqOf, Dn.wipeS, Dn.backS, Dn.gN, Dn.eMut, Dn.tupleO, Dn.listO, Dn.eCut, Dn.pNone, Dn.pSome, Dn.cutO, Function.comp_def, -List.map_map], ?_, by simp [Dn.run, Dn.lent, Dn.outsL, Dn.sCons, Dn.sIf, Dn.sRet, Dn.sRetV, Dn.sRetN, Dn.sSet, Dn.sExpr, Dn.sNil, Dn.sRaise, Dn.put, Dn.eC, Dn.eVar, Dn.eMove, Dn.bVar, Dn.bVal, Dn.e1, Dn.e2, Dn.e2T, Dn.eN, Dn.aNil, Dn.aCons, Dn.rd, Dn.rdAll, Dn.ofOp, Dn.view, Dn.isOpen, Dn.asBool, Dn.tVal, Dn.tYesM, Dn.tAndM, Dn.tOrM, Dn.tNotM, Dn.eIf, Dn.eAnd, Dn.eOr, Dn.eNot, Dn.U1, Dn.U2, Dn.ob, Dn.oi, Dn.eDisp, Dn.tms, Dn.tupO, Dn.lstO, Dn.isStrD, Dn.isiO, Dn.isiB, Dn.inO, Dn.memD, Dn.eqvD, Dn.eqvL, Dn.cmpOk, Dn.plainD, Dn.plainL, Dn.depD, Dn.depL, Dn.eqO, Dn.neO, Dn.ixO, Dn.atD, Dn.ixNat, Dn.lenO, Dn.ltO, Dn.leO, Dn.gtO, Dn.geO, Dn.eChain, Dn.isO, Dn.notIsO, Dn.isNoneB, Dn.notO, Dn.ninO, Dn.eCall, Dn.callF, Dn.lend, Dn.giveBack, Dn.seqOf, Dn.wipeS, Dn.backS, Dn.gN, Dn.eMut, Dn.tupleO, Dn.listO, Dn.eCut, Dn.pNone, Dn.pSome, Dn.cutO, Function.comp_def, -List.map_map], fun _ => ⟨.d (pD p), [some (.d (.tup (ps.map pD))), some (.d (pD p))], by simp [Dn.run, Dn.lent, Dn.outsL, Dn.sCons, Dn.sIf, Dn.sRet, Dn.sRetV, Dn.sRetN, Dn.sSet, Dn.sExpr, Dn.sNil, Dn.sRaise, Dn.put, Dn.eC, Dn.eVar, Dn.eMove, Dn.bVar, Dn.bVal, Dn.e1, Dn.e2, Dn.e2T, Dn.eN, Dn.aNil, Dn.aCons, Dn.rd, Dn.rdAll, Dn.ofOp, Dn.view, Dn.isOpen, Dn.asBool, Dn.tVal, Dn.tYesM, Dn.tAndM, Dn.tOrM, Dn.tNotM, Dn.eIf, Dn.eAnd, Dn.eOr, Dn.eNot, Dn.U1, Dn.U2, Dn.ob, Dn.oi, Dn.eDisp, Dn.tms, Dn.tupO, Dn.lstO, Dn.isStrD, Dn.isiO, Dn.isiB, Dn.inO, Dn.memD, Dn.eqvD, Dn.eqvL, Dn.cmpOk, Dn.plainD, Dn.plainL, Dn.depD, Dn.depL, Dn.eqO, Dn.neO, Dn.ixO, Dn.atD, Dn.ixNat, Dn.lenO, Dn.ltO, Dn.leO, Dn.gtO, Dn.geO, Dn.eChain, Dn.isO, Dn.notIsO, Dn.isNoneB, Dn.notO, Dn.ninO, Dn.eCall, Dn.callF, Dn.lend, Dn.giveBack, Dn.seqOf, Dn.wipeS, Dn.backS, Dn.gN, Dn.eMut, Dn.tupleO, Dn.listO, Dn.eCut, Dn.pNone, Dn.pSome, Dn.cutO, Function.comp_def, -List.map_map], rfl, by simp [Dn.run, Dn.lent, Dn.outsL, Dn.sCons, Dn.sIf, Dn.sRet, Dn.sRetV, Dn.sRetN, Dn.sSet, Dn.sExpr, Dn.sNil, Dn.sRaise, Dn.put, Dn.eC, Dn.eVar, Dn.eMove, Dn.bVar, Dn.bVal, Dn.e1, Dn.e2, Dn.e2T, Dn.eN, Dn.aNil, Dn.aCons, Dn.rd, Dn.rdAll, Dn.ofOp, Dn.view, Dn.isOpen, Dn.asBool, Dn.tVal, Dn.tYesM, Dn.tAndM, Dn.tOrM, Dn.tNotM, Dn.eIf, Dn.eAnd, Dn.eOr, Dn.eNot, Dn.U1, Dn.U2, Dn.ob, Dn.oi, Dn.eDisp, Dn.tms, Dn.tupO, Dn.lstO, Dn.isStrD, Dn.isiO, Dn.isiB, Dn.inO, Dn.memD, Dn.eqvD, Dn.eqvL, Dn.cmpOk, Dn.plainD, Dn.plainL, Dn.depD, Dn.depL, Dn.eqO, Dn.neO, Dn.ixO, Dn.atD, Dn.ixNat, Dn.lenO, Dn.ltO, Dn.leO, Dn.gtO, Dn.geO, Dn.eChain, Dn.isO, Dn.notIsO, Dn.isNoneB, Dn.notO, Dn.ninO, Dn.eCall, Dn.callF, Dn.lend, Dn.giveBack, Dn.seqOf, Dn.wipeS, Dn.backS, Dn.gN, Dn.eMut, Dn.tupleO, Dn.listO, Dn.eCut, Dn.pNone, Dn.pSome, Dn.cutO, Function.comp_def, -List.map_map]⟩⟩
    cases p <;> simp [Dn.run, Dn.lent, Dn.outsL, Dn.sCons, Dn.sIf, Dn.sRet, Dn.sRetV, Dn.sRetN, Dn.sSet, Dn.sExpr, Dn.sNil, Dn.sRaise, Dn.put, Dn.eC, Dn.eVar, Dn.eMove, Dn.bVar, Dn.bVal, Dn.e1, Dn.e2, Dn.e2T, Dn.eN, Dn.aNil, Dn.aCons, Dn.rd, Dn.rdAll, Dn.ofOp, Dn.view, Dn.isOpen, Dn.asBool, Dn.tVal, Dn.tYesM, Dn.tAndM, Dn.tOrM, Dn.tNotM, Dn.eIf, Dn.eAnd, Dn.eOr, Dn.eNot, Dn.U1, Dn.U2, Dn.ob, Dn.oi, Dn.eDisp, Dn.tms, Dn.tupO, Dn.lstO, Dn.isStrD, Dn.isiO, Dn.isiB, Dn.inO, Dn.memD, Dn.eqvD, Dn.eqvL, Dn.cmpOk, Dn.plainD, Dn.plainL, Dn.depD, Dn.depL, Dn.eqO, Dn.neO, Dn.ixO, Dn.atD, Dn.ixNat, Dn.lenO, Dn.ltO, Dn.leO, Dn.gtO, Dn.geO, Dn.eChain, Dn.isO, Dn.notIsO, Dn.isNoneB, Dn.notO, Dn.ninO, Dn.eCall, Dn.callF, Dn.lend, Dn.giveBack, Dn.seqOf, Dn.wipeS, Dn.backS, Dn.gN, Dn.eMut, Dn.tupleO, Dn.listO, Dn.eCut, Dn.pNone, Dn.pSome, Dn.cutO, Function.comp_def, -List.map_map, pD, notIsO, notNon])
  rw [pat_cars] at hd
  have hcar : ((cars ps).map D.str).all carD = true := by
    rw [List.all_map, List.all_eq_true]
    intro x hx
    obtain ⟨p, hm, e⟩ := List.mem_filterMap.mp hx
    exact hp p hm x e
  have he := distinct_list true ((cars ps).map D.str) hcar (by
    rw [List.length_map]
    exact Nat.le_trans (List.length_filterMap_le _ _) hl)
  have hdi : distinctL ((cars ps).map D.str) = true := by
    unfold patB at h
    exact (Bool.and_eq_true _ _ ▸ h).2
  have he' : f_are_distinct [.lst ((cars ps).map D.str)] = .ret (.d (.bl true)) [some (.lst ((cars ps).map D.str))] := by rw [← hdi]; exact he
  have ha : allO (.lst ((ps.map pD).map fun _ => D.bl true)) = some (.d (.bl true)) := by
    rw [allO_map]; simp
  unfold f_is_some_pattern m_is_some_pattern
  simp [Dn.run, Dn.lent, Dn.outsL, Dn.sCons, Dn.sIf, Dn.sRet, Dn.sRetV, Dn.sRetN, Dn.sSet, Dn.sExpr, Dn.sNil, Dn.sRaise, Dn.put, Dn.eC, Dn.eVar, Dn.eMove, Dn.bVar, Dn.bVal, Dn.e1, Dn.e2, Dn.e2T, Dn.eN, Dn.aNil, Dn.aCons, Dn.rd, Dn.rdAll, Dn.ofOp, Dn.view, Dn.isOpen, Dn.asBool, Dn.tVal, Dn.tYesM, Dn.tAndM, Dn.tOrM, Dn.tNotM, Dn.eIf, Dn.eAnd, Dn.eOr, Dn.eNot, Dn.U1, Dn.U2, Dn.ob, Dn.oi, Dn.eDisp, Dn.tms, Dn.tupO, Dn.lstO, Dn.isStrD, Dn.isiO, Dn.isiB, Dn.inO, Dn.memD, Dn.eqvD, Dn.eqvL, Dn.cmpOk, Dn.plainD, Dn.plainL, Dn.depD, Dn.depL, Dn.eqO, Dn.neO, Dn.ixO, Dn.atD, Dn.ixNat, Dn.lenO, Dn.ltO, Dn.leO, Dn.gtO, Dn.geO, Dn.eChain, Dn.isO, Dn.notIsO, Dn.isNoneB, Dn.notO, Dn.ninO, Dn.eCall, Dn.callF, Dn.lend, Dn.giveBack, Dn.seqOf, Dn.wipeS, Dn.backS, Dn.gN, Dn.eMut, Dn.tupleO, Dn.listO, Dn.eCut, Dn.pNone, Dn.pSome, Dn.cutO, Function.comp_def, -List.map_map, hc, hd, ha, he']
theorem format_pattern_ok (ps : List (Option Str)) (h : patB ps = true) (hl : ps.length ≤ 4000) : f_format_pattern [.d (.tup (ps.map pD))] = .ret (.d (.str (joined " " (ps.map pW)))) [none] := by
  have h1 := some_pattern ps h hl
  have hn : ∀ y ∈ ps.map pW, y.length ≤ 4 := fun y hy => by
    obtain ⟨p, hp, rfl⟩ := List.mem_map.mp hy
    cases p with
    | none => decide
    | some x =>
      unfold patB at h
      have h0 := List.all_eq_true.mp (Bool.and_eq_true _ _ ▸ h).1 _ hp
      have : carOk x = true := h0
      exact car_len this
  have h2 := join_lst (a := " ") hn (by decide) (by rw [List.length_map]; omega)
  have hc := eLcH_pure (i := 0) (vs := [1]) (g := gN 1) (t := tYesM) (e := eIf (tVal (e2 isO (bVar 1) (bVal (eC D.non)))) (eC (D.str "?")) (eVar 1)) (δ := [some (.d (.tup (ps.map pD))), none]) (ds := ps.map pD) (fun _ => true) (fun d => match d with | .str x => .str x | _ => .str "?") rfl rfl (by rw [List.length_map]; omega) (fun d hd => by
    obtain ⟨p, hm, rfl⟩ := List.mem_map.mp hd
    refine ⟨[some (.d (.tup (ps.map pD))), some (.d (pD p))], [some (.d (.tup (ps.map pD))), some (.d (pD p))], by simp [Dn.run, Dn.lent, Dn.outsL, Dn.sCons, Dn.sIf, Dn.sRet, Dn.sRetV, Dn.sRetN, Dn.sSet, Dn.sExpr, Dn.sNil, Dn.sRaise, Dn.put, Dn.eC, Dn.eVar, Dn.eMove, Dn.bVar, Dn.bVal, Dn.e1, Dn.e2, Dn.e2T, Dn.eN, Dn.aNil, Dn.aCons, Dn.rd, Dn.rdAll, Dn.ofOp, Dn.view, Dn.isOpen, Dn.asBool, Dn.tVal, Dn.tYesM, Dn.tAndM, Dn.tOrM, Dn.tNotM, Dn.eIf, Dn.eAnd, Dn.eOr, Dn.eNot, Dn.U1, Dn.U2, Dn.ob, Dn.oi, Dn.eDisp, Dn.tms, Dn.tupO, Dn.lstO, Dn.isStrD, Dn.isiO, Dn.isiB, Dn.inO, Dn.memD, Dn.eqvD, Dn.eqvL, Dn.cmpOk, Dn.plainD, Dn.plainL, Dn.depD, Dn.depL, Dn.eqO, Dn.neO, Dn.ixO, Dn.atD, Dn.ixNat, Dn.lenO, Dn.ltO, Dn.leO, Dn.gtO, Dn.geO, Dn.eChain, Dn.isO, Dn.notIsO, Dn.isNoneB, Dn.notO, Dn.ninO, Dn.eCall, Dn.callF, Dn.lend, Dn.giveBack, Dn.seqOf, Dn.wipeS, Dn.backS, Dn.gN, Dn.eMut, Dn.tupleO, Dn.listO, Dn.eCut, Dn.pNone, Dn.pSome, Dn.cutO, Function.comp_def, -List.map_map], rfl, by simp, fun _ => ⟨.d (.str (pW p)), [some (.d (.tup (ps.map pD))), some (.d (pD p))], ?_, by cases p <;> rfl, by simp [Dn.run, Dn.lent, Dn.outsL, Dn.sCons, Dn.sIf, Dn.sRet, Dn.sRetV, Dn.sRetN, Dn.sSet, Dn.sExpr, Dn.sNil, Dn.sRaise, Dn.put, Dn.eC, Dn.eVar, Dn.eMove, Dn.bVar, Dn.bVal, Dn.e1, Dn.e2, Dn.e2T, Dn.eN, Dn.aNil, Dn.aCons, Dn.rd, Dn.rdAll, Dn.ofOp, Dn.view, Dn.isOpen, Dn.asBool, Dn.tVal, Dn.tYesM, Dn.tAndM, Dn.tOrM, Dn.tNotM, Dn.eIf, Dn.eAnd, Dn.eOr, Dn.eNot, Dn.U1, Dn.U2, Dn.ob, Dn.oi, Dn.eDisp, Dn.tms, Dn.tupO, Dn.lstO, Dn.isStrD, Dn.isiO, Dn.isiB, Dn.inO, Dn.memD, Dn.eqvD, Dn.eqvL, Dn.cmpOk, Dn.plainD, Dn.plainL, Dn.depD, Dn.depL, Dn.eqO, Dn.neO, Dn.ixO, Dn.atD, Dn.ixNat, Dn.lenO, Dn.ltO, Dn.leO, Dn.gtO, Dn.geO, Dn.eChain, Dn.isO, Dn.notIsO, Dn.isNoneB, Dn.notO, Dn.ninO, Dn.eCall, Dn.callF, Dn.lend, Dn.giveBack, Dn.seqOf, Dn.wipeS, Dn.backS, Dn.gN, Dn.eMut, Dn.tupleO, Dn.listO, Dn.eCut, Dn.pNone, Dn.pSome, Dn.cutO, Function.comp_def, -List.map_map]⟩⟩
    cases p <;> simp [Dn.run, Dn.lent, Dn.outsL, Dn.sCons, Dn.sIf, Dn.sRet, Dn.sRetV, Dn.sRetN, Dn.sSet, Dn.sExpr, Dn.sNil, Dn.sRaise, Dn.put, Dn.eC, Dn.eVar, Dn.eMove, Dn.bVar, Dn.bVal, Dn.e1, Dn.e2, Dn.e2T, Dn.eN, Dn.aNil, Dn.aCons, Dn.rd, Dn.rdAll, Dn.ofOp, Dn.view, Dn.isOpen, Dn.asBool, Dn.tVal, Dn.tYesM, Dn.tAndM, Dn.tOrM, Dn.tNotM, Dn.eIf, Dn.eAnd, Dn.eOr, Dn.eNot, Dn.U1, Dn.U2, Dn.ob, Dn.oi, Dn.eDisp, Dn.tms, Dn.tupO, Dn.lstO, Dn.isStrD, Dn.isiO, Dn.isiB, Dn.inO, Dn.memD, Dn.eqvD, Dn.eqvL, Dn.cmpOk, Dn.plainD, Dn.plainL, Dn.depD, Dn.depL, Dn.eqO, Dn.neO, Dn.ixO, Dn.atD, Dn.ixNat, Dn.lenO, Dn.ltO, Dn.leO, Dn.gtO, Dn.geO, Dn.eChain, Dn.isO, Dn.notIsO, Dn.isNoneB, Dn.notO, Dn.ninO, Dn.eCall, Dn.callF, Dn.lend, Dn.giveBack, Dn.seqOf, Dn.wipeS, Dn.backS, Dn.gN, Dn.eMut, Dn.tupleO, Dn.listO, Dn.eCut, Dn.pNone, Dn.pSome, Dn.cutO, Function.comp_def, -List.map_map, pD, pW])
  rw [filter_true, List.map_map] at hc
  have e1 : ((fun d => match d with | D.str x => D.str x | _ => D.str "?") ∘ pD) = D.str ∘ pW := funext fun p => by cases p <;> rfl
  rw [e1, ← List.map_map] at hc
  unfold f_format_pattern m_format_pattern
  simp [Dn.run, Dn.lent, Dn.outsL, Dn.sCons, Dn.sIf, Dn.sRet, Dn.sRetV, Dn.sRetN, Dn.sSet, Dn.sExpr, Dn.sNil, Dn.sRaise, Dn.put, Dn.eC, Dn.eVar, Dn.eMove, Dn.bVar, Dn.bVal, Dn.e1, Dn.e2, Dn.e2T, Dn.eN, Dn.aNil, Dn.aCons, Dn.rd, Dn.rdAll, Dn.ofOp, Dn.view, Dn.isOpen, Dn.asBool, Dn.tVal, Dn.tYesM, Dn.tAndM, Dn.tOrM, Dn.tNotM, Dn.eIf, Dn.eAnd, Dn.eOr, Dn.eNot, Dn.U1, Dn.U2, Dn.ob, Dn.oi, Dn.eDisp, Dn.tms, Dn.tupO, Dn.lstO, Dn.isStrD, Dn.isiO, Dn.isiB, Dn.inO, Dn.memD, Dn.eqvD, Dn.eqvL, Dn.cmpOk, Dn.plainD, Dn.plainL, Dn.depD, Dn.depL, Dn.eqO, Dn.neO, Dn.ixO, Dn.atD, Dn.ixNat, Dn.lenO, Dn.ltO, Dn.leO, Dn.gtO, Dn.geO, Dn.eChain, Dn.isO, Dn.notIsO, Dn.isNoneB, Dn.notO, Dn.ninO, Dn.eCall, Dn.callF, Dn.lend, Dn.giveBack, Dn.seqOf, Dn.wipeS, Dn.backS, Dn.gN, Dn.eMut, Dn.tupleO, Dn.listO, Dn.eCut, Dn.pNone, Dn.pSome, Dn.cutO, Function.comp_def, -List.map_map, hc, h1, h2]
end Tk46
set_option autoImplicit false
set_option linter.all false
set_option maxRecDepth 100000
namespace Tk46
open PySem Dn
theorem words_ok (t : Str) (h : t.length ≤ 1000000) (hne : t ≠ "") : f_words_of [.d (.str t)] = .ret (.lst ((Txt.split t " ").map .str)) [none] := by
  have h2 : (t == ("" : Str)) = false := beq_eq_false_iff_ne.mpr hne
  have h3 : ¬ (" " : Str).length = 0 := by decide
  unfold f_words_of m_words_of
  simp [Dn.run, Dn.lent, Dn.outsL, Dn.sCons, Dn.sIf, Dn.sRet, Dn.sRetV, Dn.sRetN, Dn.sSet, Dn.sExpr, Dn.sNil, Dn.sRaise, Dn.put, Dn.eC, Dn.eVar, Dn.eMove, Dn.bVar, Dn.bVal, Dn.e1, Dn.e2, Dn.e2T, Dn.eN, Dn.aNil, Dn.aCons, Dn.rd, Dn.rdAll, Dn.ofOp, Dn.view, Dn.isOpen, Dn.asBool, Dn.tVal, Dn.tYesM, Dn.tAndM, Dn.tOrM, Dn.tNotM, Dn.eIf, Dn.eAnd, Dn.eOr, Dn.eNot, Dn.U1, Dn.U2, Dn.ob, Dn.oi, Dn.eDisp, Dn.tms, Dn.tupO, Dn.lstO, Dn.isStrD, Dn.isiO, Dn.isiB, Dn.inO, Dn.memD, Dn.eqvD, Dn.eqvL, Dn.cmpOk, Dn.plainD, Dn.plainL, Dn.depD, Dn.depL, Dn.eqO, Dn.neO, Dn.ixO, Dn.atD, Dn.ixNat, Dn.lenO, Dn.ltO, Dn.leO, Dn.gtO, Dn.geO, Dn.eChain, Dn.isO, Dn.notIsO, Dn.isNoneB, Dn.notO, Dn.ninO, Dn.eCall, Dn.callF, Dn.lend, Dn.giveBack, Dn.seqOf, Dn.wipeS, Dn.backS, Dn.gN, Dn.eMut, Dn.tupleO, Dn.listO, Dn.eCut, Dn.pNone, Dn.pSome, Dn.cutO, Function.comp_def, -List.map_map, splitO, h, h2, h3]
theorem words_empty : f_words_of [.d (.str "")] = .ret (.lst []) [none] := by
  unfold f_words_of m_words_of
  simp [Dn.run, Dn.lent, Dn.outsL, Dn.sCons, Dn.sIf, Dn.sRet, Dn.sRetV, Dn.sRetN, Dn.sSet, Dn.sExpr, Dn.sNil, Dn.sRaise, Dn.put, Dn.eC, Dn.eVar, Dn.eMove, Dn.bVar, Dn.bVal, Dn.e1, Dn.e2, Dn.e2T, Dn.eN, Dn.aNil, Dn.aCons, Dn.rd, Dn.rdAll, Dn.ofOp, Dn.view, Dn.isOpen, Dn.asBool, Dn.tVal, Dn.tYesM, Dn.tAndM, Dn.tOrM, Dn.tNotM, Dn.eIf, Dn.eAnd, Dn.eOr, Dn.eNot, Dn.U1, Dn.U2, Dn.ob, Dn.oi, Dn.eDisp, Dn.tms, Dn.tupO, Dn.lstO, Dn.isStrD, Dn.isiO, Dn.isiB, Dn.inO, Dn.memD, Dn.eqvD, Dn.eqvL, Dn.cmpOk, Dn.plainD, Dn.plainL, Dn.depD, Dn.depL, Dn.eqO, Dn.neO, Dn.ixO, Dn.atD, Dn.ixNat, Dn.lenO, Dn.ltO, Dn.leO, Dn.gtO, Dn.geO, Dn.eChain, Dn.isO, Dn.notIsO, Dn.isNoneB, Dn.notO, Dn.ninO, Dn.eCall, Dn.callF, Dn.lend, Dn.giveBack, Dn.seqOf, Dn.wipeS, Dn.backS, Dn.gN, Dn.eMut, Dn.tupleO, Dn.listO, Dn.eCut, Dn.pNone, Dn.pSome, Dn.cutO, Function.comp_def, -List.map_map]
theorem check_ok : f_check_text [.d (.bl true)] = .ret (.d .non) [none] := by
  unfold f_check_text m_check_text
  simp [Dn.run, Dn.lent, Dn.outsL, Dn.sCons, Dn.sIf, Dn.sRet, Dn.sRetV, Dn.sRetN, Dn.sSet, Dn.sExpr, Dn.sNil, Dn.sRaise, Dn.put, Dn.eC, Dn.eVar, Dn.eMove, Dn.bVar, Dn.bVal, Dn.e1, Dn.e2, Dn.e2T, Dn.eN, Dn.aNil, Dn.aCons, Dn.rd, Dn.rdAll, Dn.ofOp, Dn.view, Dn.isOpen, Dn.asBool, Dn.tVal, Dn.tYesM, Dn.tAndM, Dn.tOrM, Dn.tNotM, Dn.eIf, Dn.eAnd, Dn.eOr, Dn.eNot, Dn.U1, Dn.U2, Dn.ob, Dn.oi, Dn.eDisp, Dn.tms, Dn.tupO, Dn.lstO, Dn.isStrD, Dn.isiO, Dn.isiB, Dn.inO, Dn.memD, Dn.eqvD, Dn.eqvL, Dn.cmpOk, Dn.plainD, Dn.plainL, Dn.depD, Dn.depL, Dn.eqO, Dn.neO, Dn.ixO, Dn.atD, Dn.ixNat, Dn.lenO, Dn.ltO, Dn.leO, Dn.gtO, Dn.geO, Dn.eChain, Dn.isO, Dn.notIsO, Dn.isNoneB, Dn.notO, Dn.ninO, Dn.eCall, Dn.callF, Dn.lend, Dn.giveBack, Dn.seqOf, Dn.wipeS, Dn.backS, Dn.gN, Dn.eMut, Dn.tupleO, Dn.listO, Dn.eCut, Dn.pNone, Dn.pSome, Dn.cutO, Function.comp_def, -List.map_map]
theorem split_words {ys : List Str} (hne : ys ≠ []) (h : ∀ y ∈ ys, 32 ∉ y.cps.toList) : Txt.split (joined " " ys) " " = ys :=
  TL.split_join (s := 32) (S := []) rfl (by decide +kernel) hne h
theorem joined_nil (a : Str) : joined a [] = "" := rfl
theorem joined_len (a : Str) : ∀ ys : List Str, (joined a ys).length = totL ys + (ys.length - 1) * a.length := by
  intro ys
  unfold joined
  rw [TL.join_eq]
  have h := congrArg List.length (TL.tl_join a ys)
  have e : (Str.join a ys).length = (TL.tl (Str.join a ys)).length := by
    show (Str.join a ys).cps.size = _
    simp [TL.tl]
  rw [e, h]
  clear h e
  induction ys with
  | nil => simp [TL.joinL, totL]
  | cons x r ih =>
    cases r with
    | nil =>
      show (TL.tl x).length = _
      simp [totL, TL.tl]
      rfl
    | cons z r =>
      show (TL.tl x ++ (TL.tl a ++ TL.joinL (TL.tl a) ((z :: r).map TL.tl))).length = _
      rw [List.length_append, List.length_append, ih]
      have e1 : (TL.tl x).length = x.length := by simp [TL.tl]; rfl
      have e2 : (TL.tl a).length = a.length := by simp [TL.tl]; rfl
      rw [e1, e2]
      simp only [totL, List.map_cons, List.sum_cons, List.length_cons]
      have : (r.length + 1 + 1 - 1) * a.length = (r.length + 1 - 1) * a.length + a.length := by
        rw [show r.length + 1 + 1 - 1 = (r.length + 1 - 1) + 1 by omega, Nat.add_mul, Nat.one_mul]
      rw [this]
      omega
theorem mem_totL {y : Str} : ∀ {ys : List Str}, y ∈ ys → y.length ≤ totL ys
  | z :: zs, h => by
    unfold totL
    rw [List.map_cons, List.sum_cons]
    rcases List.mem_cons.mp h with rfl | h
    · omega
    · have := mem_totL h
      unfold totL at this
      omega
theorem joined_ne {a : Str} {ys : List Str} {y : Str} (hy : y ∈ ys) (h : 1 ≤ y.length) : joined a ys ≠ "" := fun e => by
  have h1 := joined_len a ys
  rw [e] at h1
  have h0 : ("" : Str).length = 0 := by decide
  have : y.length ≤ totL ys := mem_totL hy
  omega
/-- the words of a joined text -/
theorem words_joined {ys : List Str} {n : Nat} (h : ∀ y ∈ ys, 1 ≤ y.length ∧ y.length ≤ n ∧ 32 ∉ y.cps.toList) (hl : (n + 1) * ys.length ≤ 1000000) : f_words_of [.d (.str (joined " " ys))] = .ret (.lst (ys.map .str)) [none] := by
  cases ys with
  | nil => exact words_empty
  | cons y r =>
    have h1 := words_ok (joined " " (y :: r)) (by
      rw [joined_len]
      have := totL_le fun z hz => (h z hz).2.1
      have e : (" " : Str).length = 1 := by decide
      rw [e, Nat.mul_one]
      rw [Nat.add_mul] at hl
      omega) (joined_ne (List.mem_cons_self ..) (h y (by simp)).1)
    rw [split_words (by simp) fun z hz => (h z hz).2.2] at h1
    exact h1
theorem no_space {x : Str} (h : carOk x = true) : 32 ∉ x.cps.toList := fun hm => by
  simp only [carOk, Bool.and_eq_true] at h
  have := List.all_eq_true.mp h.2 32 hm
  revert this; decide
theorem car_pos {x : Str} (h : carOk x = true) : 1 ≤ x.length := by
  simp only [carOk, Bool.and_eq_true, decide_eq_true_eq] at h
  exact h.1.1
theorem parse_lane_ok (ys : List Str) (h : laneB (ys.map D.str) = true) (hl : ys.length ≤ 4000) : f_parse_lane [.d (.str (joined " " ys))] = .ret (.d (.tup (ys.map .str))) [none] := by
  have hc : (ys.map D.str).all carD = true := by
    unfold laneB at h
    exact (Bool.and_eq_true _ _ ▸ h).1
  have hcar : ∀ y ∈ ys, carOk y = true := fun y hy => List.all_eq_true.mp hc (.str y) (List.mem_map_of_mem hy)
  have h1 := is_lane_tup (ys.map D.str) (by
    rw [List.all_eq_true] at hc ⊢
    exact fun d hd => all_okD (hc d hd)) (by simpa using hl)
  have h2 := words_joined (n := 4) (fun y hy => ⟨car_pos (hcar y hy), car_len (hcar y hy), no_space (hcar y hy)⟩) (ys := ys) (by omega)
  unfold f_parse_lane m_parse_lane
  simp [Dn.run, Dn.lent, Dn.outsL, Dn.sCons, Dn.sIf, Dn.sRet, Dn.sRetV, Dn.sRetN, Dn.sSet, Dn.sExpr, Dn.sNil, Dn.sRaise, Dn.put, Dn.eC, Dn.eVar, Dn.eMove, Dn.bVar, Dn.bVal, Dn.e1, Dn.e2, Dn.e2T, Dn.eN, Dn.aNil, Dn.aCons, Dn.rd, Dn.rdAll, Dn.ofOp, Dn.view, Dn.isOpen, Dn.asBool, Dn.tVal, Dn.tYesM, Dn.tAndM, Dn.tOrM, Dn.tNotM, Dn.eIf, Dn.eAnd, Dn.eOr, Dn.eNot, Dn.U1, Dn.U2, Dn.ob, Dn.oi, Dn.eDisp, Dn.tms, Dn.tupO, Dn.lstO, Dn.isStrD, Dn.isiO, Dn.isiB, Dn.inO, Dn.memD, Dn.eqvD, Dn.eqvL, Dn.cmpOk, Dn.plainD, Dn.plainL, Dn.depD, Dn.depL, Dn.eqO, Dn.neO, Dn.ixO, Dn.atD, Dn.ixNat, Dn.lenO, Dn.ltO, Dn.leO, Dn.gtO, Dn.geO, Dn.eChain, Dn.isO, Dn.notIsO, Dn.isNoneB, Dn.notO, Dn.ninO, Dn.eCall, Dn.callF, Dn.lend, Dn.giveBack, Dn.seqOf, Dn.wipeS, Dn.backS, Dn.gN, Dn.eMut, Dn.tupleO, Dn.listO, Dn.eCut, Dn.pNone, Dn.pSome, Dn.cutO, Function.comp_def, -List.map_map, h1, h, h2, check_ok]
theorem event_of_w (e : Ev) (h : eventB (evD e) = true) : f_event_of [.d (.str (evW e))] = .ret (.d (evD e)) [none] := by
  unfold f_event_of m_event_of
  cases e with
  | dep => simp [Dn.run, Dn.lent, Dn.outsL, Dn.sCons, Dn.sIf, Dn.sRet, Dn.sRetV, Dn.sRetN, Dn.sSet, Dn.sExpr, Dn.sNil, Dn.sRaise, Dn.put, Dn.eC, Dn.eVar, Dn.eMove, Dn.bVar, Dn.bVal, Dn.e1, Dn.e2, Dn.e2T, Dn.eN, Dn.aNil, Dn.aCons, Dn.rd, Dn.rdAll, Dn.ofOp, Dn.view, Dn.isOpen, Dn.asBool, Dn.tVal, Dn.tYesM, Dn.tAndM, Dn.tOrM, Dn.tNotM, Dn.eIf, Dn.eAnd, Dn.eOr, Dn.eNot, Dn.U1, Dn.U2, Dn.ob, Dn.oi, Dn.eDisp, Dn.tms, Dn.tupO, Dn.lstO, Dn.isStrD, Dn.isiO, Dn.isiB, Dn.inO, Dn.memD, Dn.eqvD, Dn.eqvL, Dn.cmpOk, Dn.plainD, Dn.plainL, Dn.depD, Dn.depL, Dn.eqO, Dn.neO, Dn.ixO, Dn.atD, Dn.ixNat, Dn.lenO, Dn.ltO, Dn.leO, Dn.gtO, Dn.geO, Dn.eChain, Dn.isO, Dn.notIsO, Dn.isNoneB, Dn.notO, Dn.ninO, Dn.eCall, Dn.callF, Dn.lend, Dn.giveBack, Dn.seqOf, Dn.wipeS, Dn.backS, Dn.gN, Dn.eMut, Dn.tupleO, Dn.listO, Dn.eCut, Dn.pNone, Dn.pSome, Dn.cutO, Function.comp_def, -List.map_map, evW, evD]
  | arr x =>
    have hx : carOk x = true := by simpa [eventB, evD, arrD, depaD, carD] using h
    have hl := car_len hx
    have h1 : ((("+" : Str) ++ x) == ("-" : Str)) = false := by
      refine beq_eq_false_iff_ne.mpr fun e => ?_
      have : ((("+" : Str) ++ x).cps.toList)[0]? = (("-" : Str).cps.toList)[0]? := by rw [e]
      have e2 : (("+" : Str) ++ x).cps.toList = 43 :: x.cps.toList := by
        show ((#[43] : Array Nat) ++ x.cps).toList = _
        simp
      have h9 : ((("-" : Str).cps.toList)[0]?) = some 45 := by decide +kernel
      rw [e2, h9] at this
      simp at this
    have e2 : (("+" : Str) ++ x).cps.toList = 43 :: x.cps.toList := by
      show ((#[43] : Array Nat) ++ x.cps).toList = _
      simp
    have l1 : (("+" : Str) ++ x).length ≤ 1000000 := by
      rw [app_len]
      have : ("+" : Str).length = 1 := by decide
      omega
    have c1 : cutStr (("+" : Str) ++ x) none (some 1) = "+" := by
      unfold cutStr cutL
      rw [e2]
      simp [bnd]
      rfl
    have c2 : cutStr (("+" : Str) ++ x) (some 1) none = x := by
      unfold cutStr cutL
      rw [e2]
      have : List.take x.cps.size x.cps.toList = x.cps.toList := List.take_of_length_le (by simp)
      simp [bnd, this]
    simp [Dn.run, Dn.lent, Dn.outsL, Dn.sCons, Dn.sIf, Dn.sRet, Dn.sRetV, Dn.sRetN, Dn.sSet, Dn.sExpr, Dn.sNil, Dn.sRaise, Dn.put, Dn.eC, Dn.eVar, Dn.eMove, Dn.bVar, Dn.bVal, Dn.e1, Dn.e2, Dn.e2T, Dn.eN, Dn.aNil, Dn.aCons, Dn.rd, Dn.rdAll, Dn.ofOp, Dn.view, Dn.isOpen, Dn.asBool, Dn.tVal, Dn.tYesM, Dn.tAndM, Dn.tOrM, Dn.tNotM, Dn.eIf, Dn.eAnd, Dn.eOr, Dn.eNot, Dn.U1, Dn.U2, Dn.ob, Dn.oi, Dn.eDisp, Dn.tms, Dn.tupO, Dn.lstO, Dn.isStrD, Dn.isiO, Dn.isiB, Dn.inO, Dn.memD, Dn.eqvD, Dn.eqvL, Dn.cmpOk, Dn.plainD, Dn.plainL, Dn.depD, Dn.depL, Dn.eqO, Dn.neO, Dn.ixO, Dn.atD, Dn.ixNat, Dn.lenO, Dn.ltO, Dn.leO, Dn.gtO, Dn.geO, Dn.eChain, Dn.isO, Dn.notIsO, Dn.isNoneB, Dn.notO, Dn.ninO, Dn.eCall, Dn.callF, Dn.lend, Dn.giveBack, Dn.seqOf, Dn.wipeS, Dn.backS, Dn.gN, Dn.eMut, Dn.tupleO, Dn.listO, Dn.eCut, Dn.pNone, Dn.pSome, Dn.cutO, Function.comp_def, -List.map_map, evW, evD, h1, l1, c1, c2]
end Tk46
set_option autoImplicit false
set_option linter.all false
set_option maxRecDepth 100000
namespace Tk46
open PySem Dn
theorem evW_ok {e : Ev} (h : eventB (evD e) = true) : 1 ≤ (evW e).length ∧ (evW e).length ≤ 5 ∧ 32 ∉ (evW e).cps.toList := by
  refine ⟨?_, ev_len h, ?_⟩
  · cases e with
    | dep => decide
    | arr x =>
      show 1 ≤ (("+" : Str) ++ x).length
      rw [app_len]
      have : ("+" : Str).length = 1 := by decide
      omega
  · cases e with
    | dep => decide +kernel
    | arr x =>
      have hx : carOk x = true := by simpa [eventB, evD, arrD, depaD, carD] using h
      show 32 ∉ (("+" : Str) ++ x).cps.toList
      have e2 : (("+" : Str) ++ x).cps.toList = 43 :: x.cps.toList := by
        show ((#[43] : Array Nat) ++ x.cps).toList = _
        simp
      rw [e2]
      intro hm
      rcases List.mem_cons.mp hm with z | z
      · cases z
      · exact no_space hx z
theorem parse_log_ok (es : List Ev) (h : logB (es.map evD) = true) (hl : es.length ≤ 4000) : f_parse_log [.d (.str (joined " " (es.map evW)))] = .ret (.lst (es.map evD)) [none] := by
  have ha : (es.map evD).all eventB = true := by
    unfold logB at h
    exact (Bool.and_eq_true _ _ ▸ h).1
  have hev : ∀ e ∈ es, eventB (evD e) = true := fun e he => List.all_eq_true.mp ha _ (List.mem_map_of_mem he)
  have h1 := some_log true (es.map evD) (by
    rw [List.all_eq_true]
    intro d hd
    obtain ⟨e, he, rfl⟩ := List.mem_map.mp hd
    exact okE_ev (hev e he)) (by simpa using hl)
  have h1' : f_is_some_log [.lst (es.map evD)] = .ret (.d (.bl true)) [some (.lst (es.map evD))] := by rw [← h]; exact h1
  have h2 := words_joined (n := 5) (ys := es.map evW) (fun y hy => by
    obtain ⟨e, he, rfl⟩ := List.mem_map.mp hy
    exact evW_ok (hev e he)) (by rw [List.length_map]; omega)
  have hq : iSeq (eCall 1 f_words_of (aCons (bVar 0) aNil)) [some (.d (.str (joined " " (es.map evW)))), none, none] = .ok ((es.map evW).map D.str) [some (.d (.str (joined " " (es.map evW)))), none, none] := by
    simp [Dn.run, Dn.lent, Dn.outsL, Dn.sCons, Dn.sIf, Dn.sRet, Dn.sRetV, Dn.sRetN, Dn.sSet, Dn.sExpr, Dn.sNil, Dn.sRaise, Dn.put, Dn.eC, Dn.eVar, Dn.eMove, Dn.bVar, Dn.bVal, Dn.e1, Dn.e2, Dn.e2T, Dn.eN, Dn.aNil, Dn.aCons, Dn.rd, Dn.rdAll, Dn.ofOp, Dn.view, Dn.isOpen, Dn.asBool, Dn.tVal, Dn.tYesM, Dn.tAndM, Dn.tOrM, Dn.tNotM, Dn.eIf, Dn.eAnd, Dn.eOr, Dn.eNot, Dn.U1, Dn.U2, Dn.ob, Dn.oi, Dn.eDisp, Dn.tms, Dn.tupO, Dn.lstO, Dn.isStrD, Dn.isiO, Dn.isiB, Dn.inO, Dn.memD, Dn.eqvD, Dn.eqvL, Dn.cmpOk, Dn.plainD, Dn.plainL, Dn.depD, Dn.depL, Dn.eqO, Dn.neO, Dn.ixO, Dn.atD, Dn.ixNat, Dn.lenO, Dn.ltO, Dn.leO, Dn.gtO, Dn.geO, Dn.eChain, Dn.isO, Dn.notIsO, Dn.isNoneB, Dn.notO, Dn.ninO, Dn.eCall, Dn.callF, Dn.lend, Dn.giveBack, Dn.seqOf, Dn.wipeS, Dn.backS, Dn.gN, Dn.eMut, Dn.tupleO, Dn.listO, Dn.eCut, Dn.pNone, Dn.pSome, Dn.cutO, Function.comp_def, -List.map_map, iSeq, h2]
  rw [List.map_map] at hq
  have hc := eLc_mapA (vs := [2]) (g := gN 2) (t := tYesM) (e := eCall 1 f_event_of (aCons (bVar 2) aNil)) (R := evD) hq (by omega) (fun e he => by
    have h4 := event_of_w e (hev e he)
    exact ⟨[some (.d (.str (joined " " (es.map evW)))), none, some (.d (.str (evW e)))], [some (.d (.str (joined " " (es.map evW)))), none, some (.d (.str (evW e)))], .d (evD e), [some (.d (.str (joined " " (es.map evW)))), none, some (.d (.str (evW e)))], by simp [Dn.run, Dn.lent, Dn.outsL, Dn.sCons, Dn.sIf, Dn.sRet, Dn.sRetV, Dn.sRetN, Dn.sSet, Dn.sExpr, Dn.sNil, Dn.sRaise, Dn.put, Dn.eC, Dn.eVar, Dn.eMove, Dn.bVar, Dn.bVal, Dn.e1, Dn.e2, Dn.e2T, Dn.eN, Dn.aNil, Dn.aCons, Dn.rd, Dn.rdAll, Dn.ofOp, Dn.view, Dn.isOpen, Dn.asBool, Dn.tVal, Dn.tYesM, Dn.tAndM, Dn.tOrM, Dn.tNotM, Dn.eIf, Dn.eAnd, Dn.eOr, Dn.eNot, Dn.U1, Dn.U2, Dn.ob, Dn.oi, Dn.eDisp, Dn.tms, Dn.tupO, Dn.lstO, Dn.isStrD, Dn.isiO, Dn.isiB, Dn.inO, Dn.memD, Dn.eqvD, Dn.eqvL, Dn.cmpOk, Dn.plainD, Dn.plainL, Dn.depD, Dn.depL, Dn.eqO, Dn.neO, Dn.ixO, Dn.atD, Dn.ixNat, Dn.lenO, Dn.ltO, Dn.leO, Dn.gtO, Dn.geO, Dn.eChain, Dn.isO, Dn.notIsO, Dn.isNoneB, Dn.notO, Dn.ninO, Dn.eCall, Dn.callF, Dn.lend, Dn.giveBack, Dn.seqOf, Dn.wipeS, Dn.backS, Dn.gN, Dn.eMut, Dn.tupleO, Dn.listO, Dn.eCut, Dn.pNone, Dn.pSome, Dn.cutO, Function.comp_def, -List.map_map], rfl, by simp [Dn.run, Dn.lent, Dn.outsL, Dn.sCons, Dn.sIf, Dn.sRet, Dn.sRetV, Dn.sRetN, Dn.sSet, Dn.sExpr, Dn.sNil, Dn.sRaise, Dn.put, Dn.eC, Dn.eVar, Dn.eMove, Dn.bVar, Dn.bVal, Dn.e1, Dn.e2, Dn.e2T, Dn.eN, Dn.aNil, Dn.aCons, Dn.rd, Dn.rdAll, Dn.ofOp, Dn.view, Dn.isOpen, Dn.asBool, Dn.tVal, Dn.tYesM, Dn.tAndM, Dn.tOrM, Dn.tNotM, Dn.eIf, Dn.eAnd, Dn.eOr, Dn.eNot, Dn.U1, Dn.U2, Dn.ob, Dn.oi, Dn.eDisp, Dn.tms, Dn.tupO, Dn.lstO, Dn.isStrD, Dn.isiO, Dn.isiB, Dn.inO, Dn.memD, Dn.eqvD, Dn.eqvL, Dn.cmpOk, Dn.plainD, Dn.plainL, Dn.depD, Dn.depL, Dn.eqO, Dn.neO, Dn.ixO, Dn.atD, Dn.ixNat, Dn.lenO, Dn.ltO, Dn.leO, Dn.gtO, Dn.geO, Dn.eChain, Dn.isO, Dn.notIsO, Dn.isNoneB, Dn.notO, Dn.ninO, Dn.eCall, Dn.callF, Dn.lend, Dn.giveBack, Dn.seqOf, Dn.wipeS, Dn.backS, Dn.gN, Dn.eMut, Dn.tupleO, Dn.listO, Dn.eCut, Dn.pNone, Dn.pSome, Dn.cutO, Function.comp_def, -List.map_map, h4], rfl, by simp [Dn.run, Dn.lent, Dn.outsL, Dn.sCons, Dn.sIf, Dn.sRet, Dn.sRetV, Dn.sRetN, Dn.sSet, Dn.sExpr, Dn.sNil, Dn.sRaise, Dn.put, Dn.eC, Dn.eVar, Dn.eMove, Dn.bVar, Dn.bVal, Dn.e1, Dn.e2, Dn.e2T, Dn.eN, Dn.aNil, Dn.aCons, Dn.rd, Dn.rdAll, Dn.ofOp, Dn.view, Dn.isOpen, Dn.asBool, Dn.tVal, Dn.tYesM, Dn.tAndM, Dn.tOrM, Dn.tNotM, Dn.eIf, Dn.eAnd, Dn.eOr, Dn.eNot, Dn.U1, Dn.U2, Dn.ob, Dn.oi, Dn.eDisp, Dn.tms, Dn.tupO, Dn.lstO, Dn.isStrD, Dn.isiO, Dn.isiB, Dn.inO, Dn.memD, Dn.eqvD, Dn.eqvL, Dn.cmpOk, Dn.plainD, Dn.plainL, Dn.depD, Dn.depL, Dn.eqO, Dn.neO, Dn.ixO, Dn.atD, Dn.ixNat, Dn.lenO, Dn.ltO, Dn.leO, Dn.gtO, Dn.geO, Dn.eChain, Dn.isO, Dn.notIsO, Dn.isNoneB, Dn.notO, Dn.ninO, Dn.eCall, Dn.callF, Dn.lend, Dn.giveBack, Dn.seqOf, Dn.wipeS, Dn.backS, Dn.gN, Dn.eMut, Dn.tupleO, Dn.listO, Dn.eCut, Dn.pNone, Dn.pSome, Dn.cutO, Function.comp_def, -List.map_map]⟩)
  unfold f_parse_log m_parse_log
  simp [Dn.run, Dn.lent, Dn.outsL, Dn.sCons, Dn.sIf, Dn.sRet, Dn.sRetV, Dn.sRetN, Dn.sSet, Dn.sExpr, Dn.sNil, Dn.sRaise, Dn.put, Dn.eC, Dn.eVar, Dn.eMove, Dn.bVar, Dn.bVal, Dn.e1, Dn.e2, Dn.e2T, Dn.eN, Dn.aNil, Dn.aCons, Dn.rd, Dn.rdAll, Dn.ofOp, Dn.view, Dn.isOpen, Dn.asBool, Dn.tVal, Dn.tYesM, Dn.tAndM, Dn.tOrM, Dn.tNotM, Dn.eIf, Dn.eAnd, Dn.eOr, Dn.eNot, Dn.U1, Dn.U2, Dn.ob, Dn.oi, Dn.eDisp, Dn.tms, Dn.tupO, Dn.lstO, Dn.isStrD, Dn.isiO, Dn.isiB, Dn.inO, Dn.memD, Dn.eqvD, Dn.eqvL, Dn.cmpOk, Dn.plainD, Dn.plainL, Dn.depD, Dn.depL, Dn.eqO, Dn.neO, Dn.ixO, Dn.atD, Dn.ixNat, Dn.lenO, Dn.ltO, Dn.leO, Dn.gtO, Dn.geO, Dn.eChain, Dn.isO, Dn.notIsO, Dn.isNoneB, Dn.notO, Dn.ninO, Dn.eCall, Dn.callF, Dn.lend, Dn.giveBack, Dn.seqOf, Dn.wipeS, Dn.backS, Dn.gN, Dn.eMut, Dn.tupleO, Dn.listO, Dn.eCut, Dn.pNone, Dn.pSome, Dn.cutO, Function.comp_def, -List.map_map, hc, h1', check_ok]
def sidesT (ys : List Str) : Str := joined "" ys
theorem joined0_cps {ys : List Str} (h : sdB ys = true) : (joined "" ys).cps.toList.map (fun c => D.str (sign c)) = ys.map D.str := by
  unfold joined
  rw [TL.join_eq]
  have e : (Str.join "" ys).cps.toList = TL.tl (Str.join "" ys) := rfl
  rw [e, TL.tl_join]
  clear e
  induction ys with
  | nil => rfl
  | cons x r ih =>
    simp only [sdB, List.all_cons, Bool.and_eq_true, Bool.or_eq_true, beq_iff_eq] at h
    have hx : (TL.tl x).map (fun c => D.str (sign c)) = [D.str x] := by
      rcases h.1 with rfl | rfl <;> rfl
    have ih' := ih (by simpa [sdB] using h.2)
    cases r with
    | nil => exact hx
    | cons z r =>
      show (TL.tl x ++ (TL.tl "" ++ TL.joinL (TL.tl "") ((z :: r).map TL.tl))).map _ = _
      rw [List.map_append, List.map_append, hx, ih']
      rfl
theorem parse_sides_ok (ys : List Str) (h : sdB ys = true) (hl : ys.length ≤ 900000) : f_parse_sides [.d (.str (joined "" ys))] = .ret (.lst (ys.map .str)) [none] := by
  have hn : ∀ y ∈ ys, y.length ≤ 1 := fun y hy => by
    have := List.all_eq_true.mp h y hy
    simp only [Bool.or_eq_true, beq_iff_eq] at this
    rcases this with rfl | rfl <;> decide
  have h1 := joined0_cps h
  have h2 : (joined "" ys).length ≤ 1000000 := by
    rw [joined_len]
    have := totL_le hn
    have e : ("" : Str).length = 0 := by decide
    rw [e]; omega
  have hc := eLcH_pure (i := 1) (vs := [2]) (g := gN 2) (t := tYesM) (e := eCall 1 f_is_side (aCons (bVar 2) aNil)) (δ := [some (.d (.str (joined "" ys))), some (.lst (ys.map D.str)), none]) (ds := ys.map D.str) (fun _ => true) (fun d => .bl (sideD d)) rfl rfl (by rw [List.length_map]; omega) (fun d hd => by
    obtain ⟨y, hy, rfl⟩ := List.mem_map.mp hd
    have h1 := is_side_d (.str y) (by have := hn y hy; simp [okD]; omega)
    exact ⟨[some (.d (.str (joined "" ys))), none, some (.d (.str y))], [some (.d (.str (joined "" ys))), none, some (.d (.str y))], by simp [Dn.run, Dn.lent, Dn.outsL, Dn.sCons, Dn.sIf, Dn.sRet, Dn.sRetV, Dn.sRetN, Dn.sSet, Dn.sExpr, Dn.sNil, Dn.sRaise, Dn.put, Dn.eC, Dn.eVar, Dn.eMove, Dn.bVar, Dn.bVal, Dn.e1, Dn.e2, Dn.e2T, Dn.eN, Dn.aNil, Dn.aCons, Dn.rd, Dn.rdAll, Dn.ofOp, Dn.view, Dn.isOpen, Dn.asBool, Dn.tVal, Dn.tYesM, Dn.tAndM, Dn.tOrM, Dn.tNotM, Dn.eIf, Dn.eAnd, Dn.eOr, Dn.eNot, Dn.U1, Dn.U2, Dn.ob, Dn.oi, Dn.eDisp, Dn.tms, Dn.tupO, Dn.lstO, Dn.isStrD, Dn.isiO, Dn.isiB, Dn.inO, Dn.memD, Dn.eqvD, Dn.eqvL, Dn.cmpOk, Dn.plainD, Dn.plainL, Dn.depD, Dn.depL, Dn.eqO, Dn.neO, Dn.ixO, Dn.atD, Dn.ixNat, Dn.lenO, Dn.ltO, Dn.leO, Dn.gtO, Dn.geO, Dn.eChain, Dn.isO, Dn.notIsO, Dn.isNoneB, Dn.notO, Dn.ninO, Dn.eCall, Dn.callF, Dn.lend, Dn.giveBack, Dn.seqOf, Dn.wipeS, Dn.backS, Dn.gN, Dn.eMut, Dn.tupleO, Dn.listO, Dn.eCut, Dn.pNone, Dn.pSome, Dn.cutO, Function.comp_def, -List.map_map], rfl, by simp, fun _ => ⟨.d (.bl (sideD (.str y))), [some (.d (.str (joined "" ys))), none, some (.d (.str y))], by simp [Dn.run, Dn.lent, Dn.outsL, Dn.sCons, Dn.sIf, Dn.sRet, Dn.sRetV, Dn.sRetN, Dn.sSet, Dn.sExpr, Dn.sNil, Dn.sRaise, Dn.put, Dn.eC, Dn.eVar, Dn.eMove, Dn.bVar, Dn.bVal, Dn.e1, Dn.e2, Dn.e2T, Dn.eN, Dn.aNil, Dn.aCons, Dn.rd, Dn.rdAll, Dn.ofOp, Dn.view, Dn.isOpen, Dn.asBool, Dn.tVal, Dn.tYesM, Dn.tAndM, Dn.tOrM, Dn.tNotM, Dn.eIf, Dn.eAnd, Dn.eOr, Dn.eNot, Dn.U1, Dn.U2, Dn.ob, Dn.oi, Dn.eDisp, Dn.tms, Dn.tupO, Dn.lstO, Dn.isStrD, Dn.isiO, Dn.isiB, Dn.inO, Dn.memD, Dn.eqvD, Dn.eqvL, Dn.cmpOk, Dn.plainD, Dn.plainL, Dn.depD, Dn.depL, Dn.eqO, Dn.neO, Dn.ixO, Dn.atD, Dn.ixNat, Dn.lenO, Dn.ltO, Dn.leO, Dn.gtO, Dn.geO, Dn.eChain, Dn.isO, Dn.notIsO, Dn.isNoneB, Dn.notO, Dn.ninO, Dn.eCall, Dn.callF, Dn.lend, Dn.giveBack, Dn.seqOf, Dn.wipeS, Dn.backS, Dn.gN, Dn.eMut, Dn.tupleO, Dn.listO, Dn.eCut, Dn.pNone, Dn.pSome, Dn.cutO, Function.comp_def, -List.map_map, h1], rfl, by simp [Dn.run, Dn.lent, Dn.outsL, Dn.sCons, Dn.sIf, Dn.sRet, Dn.sRetV, Dn.sRetN, Dn.sSet, Dn.sExpr, Dn.sNil, Dn.sRaise, Dn.put, Dn.eC, Dn.eVar, Dn.eMove, Dn.bVar, Dn.bVal, Dn.e1, Dn.e2, Dn.e2T, Dn.eN, Dn.aNil, Dn.aCons, Dn.rd, Dn.rdAll, Dn.ofOp, Dn.view, Dn.isOpen, Dn.asBool, Dn.tVal, Dn.tYesM, Dn.tAndM, Dn.tOrM, Dn.tNotM, Dn.eIf, Dn.eAnd, Dn.eOr, Dn.eNot, Dn.U1, Dn.U2, Dn.ob, Dn.oi, Dn.eDisp, Dn.tms, Dn.tupO, Dn.lstO, Dn.isStrD, Dn.isiO, Dn.isiB, Dn.inO, Dn.memD, Dn.eqvD, Dn.eqvL, Dn.cmpOk, Dn.plainD, Dn.plainL, Dn.depD, Dn.depL, Dn.eqO, Dn.neO, Dn.ixO, Dn.atD, Dn.ixNat, Dn.lenO, Dn.ltO, Dn.leO, Dn.gtO, Dn.geO, Dn.eChain, Dn.isO, Dn.notIsO, Dn.isNoneB, Dn.notO, Dn.ninO, Dn.eCall, Dn.callF, Dn.lend, Dn.giveBack, Dn.seqOf, Dn.wipeS, Dn.backS, Dn.gN, Dn.eMut, Dn.tupleO, Dn.listO, Dn.eCut, Dn.pNone, Dn.pSome, Dn.cutO, Function.comp_def, -List.map_map]⟩⟩)
  rw [filter_true] at hc
  have h3 := sides_b ys
  unfold f_parse_sides m_parse_sides
  simp [Dn.run, Dn.lent, Dn.outsL, Dn.sCons, Dn.sIf, Dn.sRet, Dn.sRetV, Dn.sRetN, Dn.sSet, Dn.sExpr, Dn.sNil, Dn.sRaise, Dn.put, Dn.eC, Dn.eVar, Dn.eMove, Dn.bVar, Dn.bVal, Dn.e1, Dn.e2, Dn.e2T, Dn.eN, Dn.aNil, Dn.aCons, Dn.rd, Dn.rdAll, Dn.ofOp, Dn.view, Dn.isOpen, Dn.asBool, Dn.tVal, Dn.tYesM, Dn.tAndM, Dn.tOrM, Dn.tNotM, Dn.eIf, Dn.eAnd, Dn.eOr, Dn.eNot, Dn.U1, Dn.U2, Dn.ob, Dn.oi, Dn.eDisp, Dn.tms, Dn.tupO, Dn.lstO, Dn.isStrD, Dn.isiO, Dn.isiB, Dn.inO, Dn.memD, Dn.eqvD, Dn.eqvL, Dn.cmpOk, Dn.plainD, Dn.plainL, Dn.depD, Dn.depL, Dn.eqO, Dn.neO, Dn.ixO, Dn.atD, Dn.ixNat, Dn.lenO, Dn.ltO, Dn.leO, Dn.gtO, Dn.geO, Dn.eChain, Dn.isO, Dn.notIsO, Dn.isNoneB, Dn.notO, Dn.ninO, Dn.eCall, Dn.callF, Dn.lend, Dn.giveBack, Dn.seqOf, Dn.wipeS, Dn.backS, Dn.gN, Dn.eMut, Dn.tupleO, Dn.listO, Dn.eCut, Dn.pNone, Dn.pSome, Dn.cutO, Function.comp_def, -List.map_map, h2, h1, hc, allO_map, h3, h, check_ok]
theorem pW_ok {ps : List (Option Str)} (h : patB ps = true) : ∀ p ∈ ps, 1 ≤ (pW p).length ∧ (pW p).length ≤ 4 ∧ 32 ∉ (pW p).cps.toList := fun p hp => by
  cases p with
  | none => exact ⟨by decide, by decide, by decide +kernel⟩
  | some x =>
    unfold patB at h
    have h0 := List.all_eq_true.mp (Bool.and_eq_true _ _ ▸ h).1 _ hp
    have hx : carOk x = true := h0
    exact ⟨car_pos hx, car_len hx, no_space hx⟩
theorem parse_pattern_ok (ps : List (Option Str)) (h : patB ps = true) (hl : ps.length ≤ 4000) : f_parse_pattern [.d (.str (joined " " (ps.map pW)))] = .ret (.d (.tup (ps.map pD))) [none] := by
  have h1 := some_pattern ps h hl
  have h2 := words_joined (n := 4) (ys := ps.map pW) (fun y hy => by
    obtain ⟨p, hp, rfl⟩ := List.mem_map.mp hy
    exact pW_ok h p hp) (by rw [List.length_map]; omega)
  have hq : iSeq (eCall 1 f_words_of (aCons (bVar 0) aNil)) [some (.d (.str (joined " " (ps.map pW)))), none, none] = .ok ((ps.map pW).map D.str) [some (.d (.str (joined " " (ps.map pW)))), none, none] := by
    simp [Dn.run, Dn.lent, Dn.outsL, Dn.sCons, Dn.sIf, Dn.sRet, Dn.sRetV, Dn.sRetN, Dn.sSet, Dn.sExpr, Dn.sNil, Dn.sRaise, Dn.put, Dn.eC, Dn.eVar, Dn.eMove, Dn.bVar, Dn.bVal, Dn.e1, Dn.e2, Dn.e2T, Dn.eN, Dn.aNil, Dn.aCons, Dn.rd, Dn.rdAll, Dn.ofOp, Dn.view, Dn.isOpen, Dn.asBool, Dn.tVal, Dn.tYesM, Dn.tAndM, Dn.tOrM, Dn.tNotM, Dn.eIf, Dn.eAnd, Dn.eOr, Dn.eNot, Dn.U1, Dn.U2, Dn.ob, Dn.oi, Dn.eDisp, Dn.tms, Dn.tupO, Dn.lstO, Dn.isStrD, Dn.isiO, Dn.isiB, Dn.inO, Dn.memD, Dn.eqvD, Dn.eqvL, Dn.cmpOk, Dn.plainD, Dn.plainL, Dn.depD, Dn.depL, Dn.eqO, Dn.neO, Dn.ixO, Dn.atD, Dn.ixNat, Dn.lenO, Dn.ltO, Dn.leO, Dn.gtO, Dn.geO, Dn.eChain, Dn.isO, Dn.notIsO, Dn.isNoneB, Dn.notO, Dn.ninO, Dn.eCall, Dn.callF, Dn.lend, Dn.giveBack, Dn.seqOf, Dn.wipeS, Dn.backS, Dn.gN, Dn.eMut, Dn.tupleO, Dn.listO, Dn.eCut, Dn.pNone, Dn.pSome, Dn.cutO, Function.comp_def, -List.map_map, iSeq, h2]
  rw [List.map_map] at hq
  have hc := eLc_mapA (vs := [2]) (g := gN 2) (t := tYesM) (e := eIf (tVal (e2 eqO (bVar 2) (bVal (eC (D.str "?"))))) (eC D.non) (eVar 2)) (R := pD) hq (by omega) (fun p hp => by
    have hx : ∀ x, p = some x → (x == ("?" : Str)) = false := fun x e => by
      subst e
      unfold patB at h
      have h0 := List.all_eq_true.mp (Bool.and_eq_true _ _ ▸ h).1 _ hp
      have hx : carOk x = true := h0
      refine beq_eq_false_iff_ne.mpr fun e => ?_
      subst e
      exact absurd hx (by decide +kernel)
    refine ⟨[some (.d (.str (joined " " (ps.map pW)))), none, some (.d (.str (pW p)))], [some (.d (.str (joined " " (ps.map pW)))), none, some (.d (.str (pW p)))], .d (pD p), [some (.d (.str (joined " " (ps.map pW)))), none, some (.d (.str (pW p)))], by simp [Dn.run, Dn.lent, Dn.outsL, Dn.sCons, Dn.sIf, Dn.sRet, Dn.sRetV, Dn.sRetN, Dn.sSet, Dn.sExpr, Dn.sNil, Dn.sRaise, Dn.put, Dn.eC, Dn.eVar, Dn.eMove, Dn.bVar, Dn.bVal, Dn.e1, Dn.e2, Dn.e2T, Dn.eN, Dn.aNil, Dn.aCons, Dn.rd, Dn.rdAll, Dn.ofOp, Dn.view, Dn.isOpen, Dn.asBool, Dn.tVal, Dn.tYesM, Dn.tAndM, Dn.tOrM, Dn.tNotM, Dn.eIf, Dn.eAnd, Dn.eOr, Dn.eNot, Dn.U1, Dn.U2, Dn.ob, Dn.oi, Dn.eDisp, Dn.tms, Dn.tupO, Dn.lstO, Dn.isStrD, Dn.isiO, Dn.isiB, Dn.inO, Dn.memD, Dn.eqvD, Dn.eqvL, Dn.cmpOk, Dn.plainD, Dn.plainL, Dn.depD, Dn.depL, Dn.eqO, Dn.neO, Dn.ixO, Dn.atD, Dn.ixNat, Dn.lenO, Dn.ltO, Dn.leO, Dn.gtO, Dn.geO, Dn.eChain, Dn.isO, Dn.notIsO, Dn.isNoneB, Dn.notO, Dn.ninO, Dn.eCall, Dn.callF, Dn.lend, Dn.giveBack, Dn.seqOf, Dn.wipeS, Dn.backS, Dn.gN, Dn.eMut, Dn.tupleO, Dn.listO, Dn.eCut, Dn.pNone, Dn.pSome, Dn.cutO, Function.comp_def, -List.map_map], rfl, ?_, rfl, by simp [Dn.run, Dn.lent, Dn.outsL, Dn.sCons, Dn.sIf, Dn.sRet, Dn.sRetV, Dn.sRetN, Dn.sSet, Dn.sExpr, Dn.sNil, Dn.sRaise, Dn.put, Dn.eC, Dn.eVar, Dn.eMove, Dn.bVar, Dn.bVal, Dn.e1, Dn.e2, Dn.e2T, Dn.eN, Dn.aNil, Dn.aCons, Dn.rd, Dn.rdAll, Dn.ofOp, Dn.view, Dn.isOpen, Dn.asBool, Dn.tVal, Dn.tYesM, Dn.tAndM, Dn.tOrM, Dn.tNotM, Dn.eIf, Dn.eAnd, Dn.eOr, Dn.eNot, Dn.U1, Dn.U2, Dn.ob, Dn.oi, Dn.eDisp, Dn.tms, Dn.tupO, Dn.lstO, Dn.isStrD, Dn.isiO, Dn.isiB, Dn.inO, Dn.memD, Dn.eqvD, Dn.eqvL, Dn.cmpOk, Dn.plainD, Dn.plainL, Dn.depD, Dn.depL, Dn.eqO, Dn.neO, Dn.ixO, Dn.atD, Dn.ixNat, Dn.lenO, Dn.ltO, Dn.leO, Dn.gtO, Dn.geO, Dn.eChain, Dn.isO, Dn.notIsO, Dn.isNoneB, Dn.notO, Dn.ninO, Dn.eCall, Dn.callF, Dn.lend, Dn.giveBack, Dn.seqOf, Dn.wipeS, Dn.backS, Dn.gN, Dn.eMut, Dn.tupleO, Dn.listO, Dn.eCut, Dn.pNone, Dn.pSome, Dn.cutO, Function.comp_def, -List.map_map]⟩
    cases p with
    | none => simp [Dn.run, Dn.lent, Dn.outsL, Dn.sCons, Dn.sIf, Dn.sRet, Dn.sRetV, Dn.sRetN, Dn.sSet, Dn.sExpr, Dn.sNil, Dn.sRaise, Dn.put, Dn.eC, Dn.eVar, Dn.eMove, Dn.bVar, Dn.bVal, Dn.e1, Dn.e2, Dn.e2T, Dn.eN, Dn.aNil, Dn.aCons, Dn.rd, Dn.rdAll, Dn.ofOp, Dn.view, Dn.isOpen, Dn.asBool, Dn.tVal, Dn.tYesM, Dn.tAndM, Dn.tOrM, Dn.tNotM, Dn.eIf, Dn.eAnd, Dn.eOr, Dn.eNot, Dn.U1, Dn.U2, Dn.ob, Dn.oi, Dn.eDisp, Dn.tms, Dn.tupO, Dn.lstO, Dn.isStrD, Dn.isiO, Dn.isiB, Dn.inO, Dn.memD, Dn.eqvD, Dn.eqvL, Dn.cmpOk, Dn.plainD, Dn.plainL, Dn.depD, Dn.depL, Dn.eqO, Dn.neO, Dn.ixO, Dn.atD, Dn.ixNat, Dn.lenO, Dn.ltO, Dn.leO, Dn.gtO, Dn.geO, Dn.eChain, Dn.isO, Dn.notIsO, Dn.isNoneB, Dn.notO, Dn.ninO, Dn.eCall, Dn.callF, Dn.lend, Dn.giveBack, Dn.seqOf, Dn.wipeS, Dn.backS, Dn.gN, Dn.eMut, Dn.tupleO, Dn.listO, Dn.eCut, Dn.pNone, Dn.pSome, Dn.cutO, Function.comp_def, -List.map_map, pW, pD]
    | some x => simp [Dn.run, Dn.lent, Dn.outsL, Dn.sCons, Dn.sIf, Dn.sRet, Dn.sRetV, Dn.sRetN, Dn.sSet, Dn.sExpr, Dn.sNil, Dn.sRaise, Dn.put, Dn.eC, Dn.eVar, Dn.eMove, Dn.bVar, Dn.bVal, Dn.e1, Dn.e2, Dn.e2T, Dn.eN, Dn.aNil, Dn.aCons, Dn.rd, Dn.rdAll, Dn.ofOp, Dn.view, Dn.isOpen, Dn.asBool, Dn.tVal, Dn.tYesM, Dn.tAndM, Dn.tOrM, Dn.tNotM, Dn.eIf, Dn.eAnd, Dn.eOr, Dn.eNot, Dn.U1, Dn.U2, Dn.ob, Dn.oi, Dn.eDisp, Dn.tms, Dn.tupO, Dn.lstO, Dn.isStrD, Dn.isiO, Dn.isiB, Dn.inO, Dn.memD, Dn.eqvD, Dn.eqvL, Dn.cmpOk, Dn.plainD, Dn.plainL, Dn.depD, Dn.depL, Dn.eqO, Dn.neO, Dn.ixO, Dn.atD, Dn.ixNat, Dn.lenO, Dn.ltO, Dn.leO, Dn.gtO, Dn.geO, Dn.eChain, Dn.isO, Dn.notIsO, Dn.isNoneB, Dn.notO, Dn.ninO, Dn.eCall, Dn.callF, Dn.lend, Dn.giveBack, Dn.seqOf, Dn.wipeS, Dn.backS, Dn.gN, Dn.eMut, Dn.tupleO, Dn.listO, Dn.eCut, Dn.pNone, Dn.pSome, Dn.cutO, Function.comp_def, -List.map_map, pW, pD, hx x rfl])
  unfold f_parse_pattern m_parse_pattern
  simp [Dn.run, Dn.lent, Dn.outsL, Dn.sCons, Dn.sIf, Dn.sRet, Dn.sRetV, Dn.sRetN, Dn.sSet, Dn.sExpr, Dn.sNil, Dn.sRaise, Dn.put, Dn.eC, Dn.eVar, Dn.eMove, Dn.bVar, Dn.bVal, Dn.e1, Dn.e2, Dn.e2T, Dn.eN, Dn.aNil, Dn.aCons, Dn.rd, Dn.rdAll, Dn.ofOp, Dn.view, Dn.isOpen, Dn.asBool, Dn.tVal, Dn.tYesM, Dn.tAndM, Dn.tOrM, Dn.tNotM, Dn.eIf, Dn.eAnd, Dn.eOr, Dn.eNot, Dn.U1, Dn.U2, Dn.ob, Dn.oi, Dn.eDisp, Dn.tms, Dn.tupO, Dn.lstO, Dn.isStrD, Dn.isiO, Dn.isiB, Dn.inO, Dn.memD, Dn.eqvD, Dn.eqvL, Dn.cmpOk, Dn.plainD, Dn.plainL, Dn.depD, Dn.depL, Dn.eqO, Dn.neO, Dn.ixO, Dn.atD, Dn.ixNat, Dn.lenO, Dn.ltO, Dn.leO, Dn.gtO, Dn.geO, Dn.eChain, Dn.isO, Dn.notIsO, Dn.isNoneB, Dn.notO, Dn.ninO, Dn.eCall, Dn.callF, Dn.lend, Dn.giveBack, Dn.seqOf, Dn.wipeS, Dn.backS, Dn.gN, Dn.eMut, Dn.tupleO, Dn.listO, Dn.eCut, Dn.pNone, Dn.pSome, Dn.cutO, Function.comp_def, -List.map_map, hc, h1, check_ok]
end Tk46
set_option autoImplicit false
set_option linter.all false
set_option maxRecDepth 100000
namespace Tk46
open PySem Dn
def mixA (b c : Int) : Int := (b + 49979687 * c) ^ 3 % (10 ^ 37 + 43)
def mixB (b c : Int) : Int := (mixA b c + 15485863 * c) ^ 3 % (10 ^ 36 + 67)
def drawR (a b c l : Int) : Int := if 0 < a then a % l else mixB b (c + 1) / 131071 % l
def drawS (a b c l : Int) : List D := if 0 < a then [.int (a / l), .int b, .int c] else [.int a, .int b, .int (c + 1)]
theorem two_big {i : Int} (h : i.natAbs < 2 ^ 200) : i.natAbs < 2 ^ 8000 := Nat.lt_of_lt_of_le h (Nat.pow_le_pow_right (by decide) (by decide))
theorem two_200 : (2 : Nat) ^ 200 = 1606938044258990275541962092341162602522202993782792835301376 := by decide
theorem big50 : (10 : Int) ^ 50 = 100000000000000000000000000000000000000000000000000 := by decide
theorem draw_run {a b c l : Int} (ha : 0 ≤ a) (hb : 0 ≤ b) (hb2 : b < 10 ^ 50) (hc : 0 ≤ c) (hc2 : c ≤ 1000000000) (hl : 0 < l) (hl2 : l ≤ 1000000000) :
    f__law_draw [.lst [.int a, .int b, .int c], .d (.int l)] = .ret (.d (.int (drawR a b c l))) [some (.lst (drawS a b c l)), none] := by
  have l1 : l.natAbs < 2 ^ 8000 := two_big (by rw [two_200]; omega)
  unfold f__law_draw m__law_draw
  by_cases h : 0 < a
  · simp [Dn.run, Dn.lent, Dn.outsL, Dn.sCons, Dn.sIf, Dn.sRet, Dn.sRetV, Dn.sRetN, Dn.sSet, Dn.sExpr, Dn.sNil, Dn.sRaise, Dn.put, Dn.eC, Dn.eVar, Dn.eMove, Dn.bVar, Dn.bVal, Dn.e1, Dn.e2, Dn.e2T, Dn.eN, Dn.aNil, Dn.aCons, Dn.rd, Dn.rdAll, Dn.ofOp, Dn.view, Dn.isOpen, Dn.asBool, Dn.tVal, Dn.tYesM, Dn.tAndM, Dn.tOrM, Dn.tNotM, Dn.eIf, Dn.eAnd, Dn.eOr, Dn.eNot, Dn.U1, Dn.U2, Dn.ob, Dn.oi, Dn.eDisp, Dn.tms, Dn.tupO, Dn.lstO, Dn.isStrD, Dn.isiO, Dn.isiB, Dn.inO, Dn.memD, Dn.eqvD, Dn.eqvL, Dn.cmpOk, Dn.plainD, Dn.plainL, Dn.depD, Dn.depL, Dn.eqO, Dn.neO, Dn.ixO, Dn.atD, Dn.ixNat, Dn.lenO, Dn.ltO, Dn.leO, Dn.gtO, Dn.geO, Dn.eChain, Dn.isO, Dn.notIsO, Dn.isNoneB, Dn.notO, Dn.ninO, Dn.eCall, Dn.callF, Dn.lend, Dn.giveBack, Dn.seqOf, Dn.wipeS, Dn.backS, Dn.gN, Dn.eMut, Dn.tupleO, Dn.listO, Dn.eCut, Dn.pNone, Dn.pSome, Dn.cutO, Function.comp_def, -List.map_map, h, modO, hl, fdivO, l1, sPut, Dn.putAt, drawR, drawS]
  · have q1 : ¬ a > 0 := h
    rw [big50] at hb2
    have k1 : (b + 49979687 * (c + 1)).natAbs < 2 ^ 8000 := two_big (by rw [two_200]; omega)
    have m1 : 0 ≤ mixA b (c + 1) := Int.emod_nonneg _ (by decide)
    have m2 : mixA b (c + 1) < 10 ^ 37 + 43 := Int.emod_lt_of_pos _ (by decide)
    have m3 : (10 : Int) ^ 37 + 43 = 10000000000000000000000000000000000043 := by decide
    rw [m3] at m2
    have k2 : (mixA b (c + 1) + 15485863 * (c + 1)).natAbs < 2 ^ 8000 := two_big (by rw [two_200]; omega)
    have t1 : (10 : Nat) < 2 ^ 8000 := Nat.lt_of_lt_of_le (by decide : 10 < 2 ^ 200) (Nat.pow_le_pow_right (by decide) (by decide))
    have t2 : (131071 : Nat) < 2 ^ 8000 := Nat.lt_of_lt_of_le (by decide : 131071 < 2 ^ 200) (Nat.pow_le_pow_right (by decide) (by decide))
    have e1 : e2 modO (bVal (e2 powO (bVal (e2 addO (bVal (e2 ixO (bVar 0) (bVal (eC (D.int 1))))) (bVal (e2 mulO (bVal (eC (D.int 49979687))) (bVal (e2 ixO (bVar 0) (bVal (eC (D.int 2))))))))) (bVal (eC (D.int 3))))) (bVal (e2 addO (bVal (e2 powO (bVal (eC (D.int 10))) (bVal (eC (D.int 37))))) (bVal (eC (D.int 43))))) [some (.lst [.int a, .int b, .int (c + 1)]), some (.d (.int l)), none, none] = .ok (.d (.int (mixA b (c + 1)))) [some (.lst [.int a, .int b, .int (c + 1)]), some (.d (.int l)), none, none] := by
      simp [Dn.run, Dn.lent, Dn.outsL, Dn.sCons, Dn.sIf, Dn.sRet, Dn.sRetV, Dn.sRetN, Dn.sSet, Dn.sExpr, Dn.sNil, Dn.sRaise, Dn.put, Dn.eC, Dn.eVar, Dn.eMove, Dn.bVar, Dn.bVal, Dn.e1, Dn.e2, Dn.e2T, Dn.eN, Dn.aNil, Dn.aCons, Dn.rd, Dn.rdAll, Dn.ofOp, Dn.view, Dn.isOpen, Dn.asBool, Dn.tVal, Dn.tYesM, Dn.tAndM, Dn.tOrM, Dn.tNotM, Dn.eIf, Dn.eAnd, Dn.eOr, Dn.eNot, Dn.U1, Dn.U2, Dn.ob, Dn.oi, Dn.eDisp, Dn.tms, Dn.tupO, Dn.lstO, Dn.isStrD, Dn.isiO, Dn.isiB, Dn.inO, Dn.memD, Dn.eqvD, Dn.eqvL, Dn.cmpOk, Dn.plainD, Dn.plainL, Dn.depD, Dn.depL, Dn.eqO, Dn.neO, Dn.ixO, Dn.atD, Dn.ixNat, Dn.lenO, Dn.ltO, Dn.leO, Dn.gtO, Dn.geO, Dn.eChain, Dn.isO, Dn.notIsO, Dn.isNoneB, Dn.notO, Dn.ninO, Dn.eCall, Dn.callF, Dn.lend, Dn.giveBack, Dn.seqOf, Dn.wipeS, Dn.backS, Dn.gN, Dn.eMut, Dn.tupleO, Dn.listO, Dn.eCut, Dn.pNone, Dn.pSome, Dn.cutO, Function.comp_def, -List.map_map, mulO, addO, powO, modO, k1, t1, mixA]
    have e2' : e2 modO (bVal (e2 powO (bVal (e2 addO (bVar 3) (bVal (e2 mulO (bVal (eC (D.int 15485863))) (bVal (e2 ixO (bVar 0) (bVal (eC (D.int 2))))))))) (bVal (eC (D.int 3))))) (bVal (e2 addO (bVal (e2 powO (bVal (eC (D.int 10))) (bVal (eC (D.int 36))))) (bVal (eC (D.int 67))))) [some (.lst [.int a, .int b, .int (c + 1)]), some (.d (.int l)), none, some (.d (.int (mixA b (c + 1))))] = .ok (.d (.int (mixB b (c + 1)))) [some (.lst [.int a, .int b, .int (c + 1)]), some (.d (.int l)), none, some (.d (.int (mixA b (c + 1))))] := by
      simp [Dn.run, Dn.lent, Dn.outsL, Dn.sCons, Dn.sIf, Dn.sRet, Dn.sRetV, Dn.sRetN, Dn.sSet, Dn.sExpr, Dn.sNil, Dn.sRaise, Dn.put, Dn.eC, Dn.eVar, Dn.eMove, Dn.bVar, Dn.bVal, Dn.e1, Dn.e2, Dn.e2T, Dn.eN, Dn.aNil, Dn.aCons, Dn.rd, Dn.rdAll, Dn.ofOp, Dn.view, Dn.isOpen, Dn.asBool, Dn.tVal, Dn.tYesM, Dn.tAndM, Dn.tOrM, Dn.tNotM, Dn.eIf, Dn.eAnd, Dn.eOr, Dn.eNot, Dn.U1, Dn.U2, Dn.ob, Dn.oi, Dn.eDisp, Dn.tms, Dn.tupO, Dn.lstO, Dn.isStrD, Dn.isiO, Dn.isiB, Dn.inO, Dn.memD, Dn.eqvD, Dn.eqvL, Dn.cmpOk, Dn.plainD, Dn.plainL, Dn.depD, Dn.depL, Dn.eqO, Dn.neO, Dn.ixO, Dn.atD, Dn.ixNat, Dn.lenO, Dn.ltO, Dn.leO, Dn.gtO, Dn.geO, Dn.eChain, Dn.isO, Dn.notIsO, Dn.isNoneB, Dn.notO, Dn.ninO, Dn.eCall, Dn.callF, Dn.lend, Dn.giveBack, Dn.seqOf, Dn.wipeS, Dn.backS, Dn.gN, Dn.eMut, Dn.tupleO, Dn.listO, Dn.eCut, Dn.pNone, Dn.pSome, Dn.cutO, Function.comp_def, -List.map_map, mulO, addO, powO, modO, k2, t1, mixB]
    have s1 : sPut 0 Dn.putAt (bVal (eC (D.int 2))) (e2 addO (bVal (e2 ixO (bVar 0) (bVal (eC (D.int 2))))) (bVal (eC (D.int 1)))) (lent [.lst [.int a, .int b, .int c], .d (.int l)]) [some (.lst [.int a, .int b, .int c]), some (.d (.int l)), none, none] = .nx [some (.lst [.int a, .int b, .int (c + 1)]), some (.d (.int l)), none, none] := by
      simp [Dn.run, Dn.lent, Dn.outsL, Dn.sCons, Dn.sIf, Dn.sRet, Dn.sRetV, Dn.sRetN, Dn.sSet, Dn.sExpr, Dn.sNil, Dn.sRaise, Dn.put, Dn.eC, Dn.eVar, Dn.eMove, Dn.bVar, Dn.bVal, Dn.e1, Dn.e2, Dn.e2T, Dn.eN, Dn.aNil, Dn.aCons, Dn.rd, Dn.rdAll, Dn.ofOp, Dn.view, Dn.isOpen, Dn.asBool, Dn.tVal, Dn.tYesM, Dn.tAndM, Dn.tOrM, Dn.tNotM, Dn.eIf, Dn.eAnd, Dn.eOr, Dn.eNot, Dn.U1, Dn.U2, Dn.ob, Dn.oi, Dn.eDisp, Dn.tms, Dn.tupO, Dn.lstO, Dn.isStrD, Dn.isiO, Dn.isiB, Dn.inO, Dn.memD, Dn.eqvD, Dn.eqvL, Dn.cmpOk, Dn.plainD, Dn.plainL, Dn.depD, Dn.depL, Dn.eqO, Dn.neO, Dn.ixO, Dn.atD, Dn.ixNat, Dn.lenO, Dn.ltO, Dn.leO, Dn.gtO, Dn.geO, Dn.eChain, Dn.isO, Dn.notIsO, Dn.isNoneB, Dn.notO, Dn.ninO, Dn.eCall, Dn.callF, Dn.lend, Dn.giveBack, Dn.seqOf, Dn.wipeS, Dn.backS, Dn.gN, Dn.eMut, Dn.tupleO, Dn.listO, Dn.eCut, Dn.pNone, Dn.pSome, Dn.cutO, Function.comp_def, -List.map_map, sPut, Dn.putAt, addO]
    have s2 : sSet 3 (e2 modO (bVal (e2 powO (bVal (e2 addO (bVal (e2 ixO (bVar 0) (bVal (eC (D.int 1))))) (bVal (e2 mulO (bVal (eC (D.int 49979687))) (bVal (e2 ixO (bVar 0) (bVal (eC (D.int 2))))))))) (bVal (eC (D.int 3))))) (bVal (e2 addO (bVal (e2 powO (bVal (eC (D.int 10))) (bVal (eC (D.int 37))))) (bVal (eC (D.int 43)))))) (lent [.lst [.int a, .int b, .int c], .d (.int l)]) [some (.lst [.int a, .int b, .int (c + 1)]), some (.d (.int l)), none, none] = .nx [some (.lst [.int a, .int b, .int (c + 1)]), some (.d (.int l)), none, some (.d (.int (mixA b (c + 1))))] := by
      unfold sSet
      rw [e1]
      simp [Dn.run, Dn.lent, Dn.outsL, Dn.sCons, Dn.sIf, Dn.sRet, Dn.sRetV, Dn.sRetN, Dn.sSet, Dn.sExpr, Dn.sNil, Dn.sRaise, Dn.put, Dn.eC, Dn.eVar, Dn.eMove, Dn.bVar, Dn.bVal, Dn.e1, Dn.e2, Dn.e2T, Dn.eN, Dn.aNil, Dn.aCons, Dn.rd, Dn.rdAll, Dn.ofOp, Dn.view, Dn.isOpen, Dn.asBool, Dn.tVal, Dn.tYesM, Dn.tAndM, Dn.tOrM, Dn.tNotM, Dn.eIf, Dn.eAnd, Dn.eOr, Dn.eNot, Dn.U1, Dn.U2, Dn.ob, Dn.oi, Dn.eDisp, Dn.tms, Dn.tupO, Dn.lstO, Dn.isStrD, Dn.isiO, Dn.isiB, Dn.inO, Dn.memD, Dn.eqvD, Dn.eqvL, Dn.cmpOk, Dn.plainD, Dn.plainL, Dn.depD, Dn.depL, Dn.eqO, Dn.neO, Dn.ixO, Dn.atD, Dn.ixNat, Dn.lenO, Dn.ltO, Dn.leO, Dn.gtO, Dn.geO, Dn.eChain, Dn.isO, Dn.notIsO, Dn.isNoneB, Dn.notO, Dn.ninO, Dn.eCall, Dn.callF, Dn.lend, Dn.giveBack, Dn.seqOf, Dn.wipeS, Dn.backS, Dn.gN, Dn.eMut, Dn.tupleO, Dn.listO, Dn.eCut, Dn.pNone, Dn.pSome, Dn.cutO, Function.comp_def, -List.map_map]
    have s3 : sSet 3 (e2 modO (bVal (e2 powO (bVal (e2 addO (bVar 3) (bVal (e2 mulO (bVal (eC (D.int 15485863))) (bVal (e2 ixO (bVar 0) (bVal (eC (D.int 2))))))))) (bVal (eC (D.int 3))))) (bVal (e2 addO (bVal (e2 powO (bVal (eC (D.int 10))) (bVal (eC (D.int 36))))) (bVal (eC (D.int 67)))))) (lent [.lst [.int a, .int b, .int c], .d (.int l)]) [some (.lst [.int a, .int b, .int (c + 1)]), some (.d (.int l)), none, some (.d (.int (mixA b (c + 1))))] = .nx [some (.lst [.int a, .int b, .int (c + 1)]), some (.d (.int l)), none, some (.d (.int (mixB b (c + 1))))] := by
      unfold sSet
      rw [e2']
      simp [Dn.run, Dn.lent, Dn.outsL, Dn.sCons, Dn.sIf, Dn.sRet, Dn.sRetV, Dn.sRetN, Dn.sSet, Dn.sExpr, Dn.sNil, Dn.sRaise, Dn.put, Dn.eC, Dn.eVar, Dn.eMove, Dn.bVar, Dn.bVal, Dn.e1, Dn.e2, Dn.e2T, Dn.eN, Dn.aNil, Dn.aCons, Dn.rd, Dn.rdAll, Dn.ofOp, Dn.view, Dn.isOpen, Dn.asBool, Dn.tVal, Dn.tYesM, Dn.tAndM, Dn.tOrM, Dn.tNotM, Dn.eIf, Dn.eAnd, Dn.eOr, Dn.eNot, Dn.U1, Dn.U2, Dn.ob, Dn.oi, Dn.eDisp, Dn.tms, Dn.tupO, Dn.lstO, Dn.isStrD, Dn.isiO, Dn.isiB, Dn.inO, Dn.memD, Dn.eqvD, Dn.eqvL, Dn.cmpOk, Dn.plainD, Dn.plainL, Dn.depD, Dn.depL, Dn.eqO, Dn.neO, Dn.ixO, Dn.atD, Dn.ixNat, Dn.lenO, Dn.ltO, Dn.leO, Dn.gtO, Dn.geO, Dn.eChain, Dn.isO, Dn.notIsO, Dn.isNoneB, Dn.notO, Dn.ninO, Dn.eCall, Dn.callF, Dn.lend, Dn.giveBack, Dn.seqOf, Dn.wipeS, Dn.backS, Dn.gN, Dn.eMut, Dn.tupleO, Dn.listO, Dn.eCut, Dn.pNone, Dn.pSome, Dn.cutO, Function.comp_def, -List.map_map]
    have s0 : sIf (tVal (e2 gtO (bVal (e2 ixO (bVar 0) (bVal (eC (D.int 0))))) (bVal (eC (D.int 0))))) (sCons (sSet 2 (e2 modO (bVal (e2 ixO (bVar 0) (bVal (eC (D.int 0))))) (bVar 1))) (sCons (sPut 0 Dn.putAt (bVal (eC (D.int 0))) (e2 fdivO (bVal (e2 ixO (bVar 0) (bVal (eC (D.int 0))))) (bVar 1))) (sRetV 2))) sNil (lent [.lst [.int a, .int b, .int c], .d (.int l)]) [some (.lst [.int a, .int b, .int c]), some (.d (.int l)), none, none] = .nx [some (.lst [.int a, .int b, .int c]), some (.d (.int l)), none, none] := by
      simp [Dn.run, Dn.lent, Dn.outsL, Dn.sCons, Dn.sIf, Dn.sRet, Dn.sRetV, Dn.sRetN, Dn.sSet, Dn.sExpr, Dn.sNil, Dn.sRaise, Dn.put, Dn.eC, Dn.eVar, Dn.eMove, Dn.bVar, Dn.bVal, Dn.e1, Dn.e2, Dn.e2T, Dn.eN, Dn.aNil, Dn.aCons, Dn.rd, Dn.rdAll, Dn.ofOp, Dn.view, Dn.isOpen, Dn.asBool, Dn.tVal, Dn.tYesM, Dn.tAndM, Dn.tOrM, Dn.tNotM, Dn.eIf, Dn.eAnd, Dn.eOr, Dn.eNot, Dn.U1, Dn.U2, Dn.ob, Dn.oi, Dn.eDisp, Dn.tms, Dn.tupO, Dn.lstO, Dn.isStrD, Dn.isiO, Dn.isiB, Dn.inO, Dn.memD, Dn.eqvD, Dn.eqvL, Dn.cmpOk, Dn.plainD, Dn.plainL, Dn.depD, Dn.depL, Dn.eqO, Dn.neO, Dn.ixO, Dn.atD, Dn.ixNat, Dn.lenO, Dn.ltO, Dn.leO, Dn.gtO, Dn.geO, Dn.eChain, Dn.isO, Dn.notIsO, Dn.isNoneB, Dn.notO, Dn.ninO, Dn.eCall, Dn.callF, Dn.lend, Dn.giveBack, Dn.seqOf, Dn.wipeS, Dn.backS, Dn.gN, Dn.eMut, Dn.tupleO, Dn.listO, Dn.eCut, Dn.pNone, Dn.pSome, Dn.cutO, Function.comp_def, -List.map_map, h]
    have s4 : sRet (e2 modO (bVal (e2 fdivO (bVar 3) (bVal (eC (D.int 131071))))) (bVar 1)) (lent [.lst [.int a, .int b, .int c], .d (.int l)]) [some (.lst [.int a, .int b, .int (c + 1)]), some (.d (.int l)), none, some (.d (.int (mixB b (c + 1))))] = .rt (.d (.int (drawR a b c l))) [some (.lst [.int a, .int b, .int (c + 1)]), some (.d (.int l)), none, some (.d (.int (mixB b (c + 1))))] := by
      simp [Dn.run, Dn.lent, Dn.outsL, Dn.sCons, Dn.sIf, Dn.sRet, Dn.sRetV, Dn.sRetN, Dn.sSet, Dn.sExpr, Dn.sNil, Dn.sRaise, Dn.put, Dn.eC, Dn.eVar, Dn.eMove, Dn.bVar, Dn.bVal, Dn.e1, Dn.e2, Dn.e2T, Dn.eN, Dn.aNil, Dn.aCons, Dn.rd, Dn.rdAll, Dn.ofOp, Dn.view, Dn.isOpen, Dn.asBool, Dn.tVal, Dn.tYesM, Dn.tAndM, Dn.tOrM, Dn.tNotM, Dn.eIf, Dn.eAnd, Dn.eOr, Dn.eNot, Dn.U1, Dn.U2, Dn.ob, Dn.oi, Dn.eDisp, Dn.tms, Dn.tupO, Dn.lstO, Dn.isStrD, Dn.isiO, Dn.isiB, Dn.inO, Dn.memD, Dn.eqvD, Dn.eqvL, Dn.cmpOk, Dn.plainD, Dn.plainL, Dn.depD, Dn.depL, Dn.eqO, Dn.neO, Dn.ixO, Dn.atD, Dn.ixNat, Dn.lenO, Dn.ltO, Dn.leO, Dn.gtO, Dn.geO, Dn.eChain, Dn.isO, Dn.notIsO, Dn.isNoneB, Dn.notO, Dn.ninO, Dn.eCall, Dn.callF, Dn.lend, Dn.giveBack, Dn.seqOf, Dn.wipeS, Dn.backS, Dn.gN, Dn.eMut, Dn.tupleO, Dn.listO, Dn.eCut, Dn.pNone, Dn.pSome, Dn.cutO, Function.comp_def, -List.map_map, modO, fdivO, t2, hl, drawR, h]
    refine (run_rt (o := .d (.int (drawR a b c l))) (δ := [some (.lst [.int a, .int b, .int (c + 1)]), some (.d (.int l)), none, some (.d (.int (mixB b (c + 1))))]) ?_ rfl).trans ?_
    · show sCons _ _ _ [some (.lst [.int a, .int b, .int c]), some (.d (.int l)), none, none] = _
      rw [seq_nx s0, seq_nx s1, seq_nx s2, seq_nx s3, s4]
    · simp [Dn.run, Dn.lent, Dn.outsL, Dn.sCons, Dn.sIf, Dn.sRet, Dn.sRetV, Dn.sRetN, Dn.sSet, Dn.sExpr, Dn.sNil, Dn.sRaise, Dn.put, Dn.eC, Dn.eVar, Dn.eMove, Dn.bVar, Dn.bVal, Dn.e1, Dn.e2, Dn.e2T, Dn.eN, Dn.aNil, Dn.aCons, Dn.rd, Dn.rdAll, Dn.ofOp, Dn.view, Dn.isOpen, Dn.asBool, Dn.tVal, Dn.tYesM, Dn.tAndM, Dn.tOrM, Dn.tNotM, Dn.eIf, Dn.eAnd, Dn.eOr, Dn.eNot, Dn.U1, Dn.U2, Dn.ob, Dn.oi, Dn.eDisp, Dn.tms, Dn.tupO, Dn.lstO, Dn.isStrD, Dn.isiO, Dn.isiB, Dn.inO, Dn.memD, Dn.eqvD, Dn.eqvL, Dn.cmpOk, Dn.plainD, Dn.plainL, Dn.depD, Dn.depL, Dn.eqO, Dn.neO, Dn.ixO, Dn.atD, Dn.ixNat, Dn.lenO, Dn.ltO, Dn.leO, Dn.gtO, Dn.geO, Dn.eChain, Dn.isO, Dn.notIsO, Dn.isNoneB, Dn.notO, Dn.ninO, Dn.eCall, Dn.callF, Dn.lend, Dn.giveBack, Dn.seqOf, Dn.wipeS, Dn.backS, Dn.gN, Dn.eMut, Dn.tupleO, Dn.listO, Dn.eCut, Dn.pNone, Dn.pSome, Dn.cutO, Function.comp_def, -List.map_map, drawS, h]
end Tk46
set_option autoImplicit false
set_option linter.all false
set_option maxRecDepth 100000
namespace Tk46
open PySem Dn
structure SrcOk (n : Nat) (s : List D) : Prop where
  ex : ∃ a b c : Int, s = [.int a, .int b, .int c] ∧ 0 ≤ a ∧ 0 ≤ b ∧ b < 10 ^ 50 ∧ 0 ≤ c ∧ c ≤ n
theorem SrcOk.mono {n m : Nat} {s : List D} (h : SrcOk n s) (k : n ≤ m) : SrcOk m s := by
  obtain ⟨a, b, c, h1, h2, h3, h4, h5, h6⟩ := h.ex
  exact ⟨a, b, c, h1, h2, h3, h4, h5, by omega⟩
def dR (s : List D) (l : Int) : Int := match s with
  | [.int a, .int b, .int c] => drawR a b c l
  | _ => 0
def dS (s : List D) (l : Int) : List D := match s with
  | [.int a, .int b, .int c] => drawS a b c l
  | _ => []
theorem draw_eq {n : Nat} {s : List D} {l : Int} (h : SrcOk n s) (hn : n ≤ 1000000000) (hl : 0 < l) (hl2 : l ≤ 1000000000) : f__law_draw [.lst s, .d (.int l)] = .ret (.d (.int (dR s l))) [some (.lst (dS s l)), none] := by
  obtain ⟨a, b, c, rfl, h2, h3, h4, h5, h6⟩ := h.ex
  exact draw_run h2 h3 h4 h5 (by omega) hl hl2
theorem dR_le {n : Nat} {s : List D} {l : Int} (h : SrcOk n s) (hl : 0 < l) : 0 ≤ dR s l ∧ dR s l < l := by
  obtain ⟨a, b, c, rfl, h2, h3, h4, h5, h6⟩ := h.ex
  show 0 ≤ drawR a b c l ∧ drawR a b c l < l
  unfold drawR
  split <;> exact ⟨Int.emod_nonneg _ (by omega), Int.emod_lt_of_pos _ hl⟩
theorem dS_ok {n : Nat} {s : List D} {l : Int} (h : SrcOk n s) (hl : 0 < l) : SrcOk (n + 1) (dS s l) := by
  obtain ⟨a, b, c, rfl, h2, h3, h4, h5, h6⟩ := h.ex
  show SrcOk (n + 1) (drawS a b c l)
  unfold drawS
  split
  · exact ⟨a / l, b, c, rfl, Int.ediv_nonneg h2 (by omega), h3, h4, h5, by omega⟩
  · exact ⟨a, b, c + 1, rfl, h2, h3, h4, by omega, by omega⟩
theorem source_ok (ns : List Int) (k : Int) (h0 : 0 ≤ k) (h1 : k ≤ 62) : ∃ s, f__law_source [.d (.scr ns), .d (.int k)] = .ret (.lst s) [none, none] ∧ SrcOk 0 s := by
  have t1 : (10 : Nat) < 2 ^ 8000 := Nat.lt_of_lt_of_le (by decide : 10 < 2 ^ 200) (Nat.pow_le_pow_right (by decide) (by decide))
  have key : ∀ c : Int, ∃ s, eDisp lstO (aCons (bVal (eN (U2 max2O) (aCons (bVal (eC (D.int 0))) (aCons (bVal (e2 subO (bVal (eN (U1 absO) (aCons (bVar 2) aNil))) (bVal (e2 powO (bVal (eC (D.int 10))) (bVal (eC (D.int 18))))))) aNil)))) (aCons (bVal (e2 addO (bVal (e2 modO (bVar 2) (bVal (e2 addO (bVal (e2 powO (bVal (eC (D.int 10))) (bVal (eC (D.int 38))))) (bVal (eC (D.int 133))))))) (bVal (e2 mulO (bVal (eC (D.int 31607))) (bVar 1))))) (aCons (bVal (eC (D.int 0))) (aNil)))) [some (.d (.scr ns)), some (.d (.int k)), some (.d (.int c))] = .ok (.lst s) [some (.d (.scr ns)), some (.d (.int k)), some (.d (.int c))] ∧ SrcOk 0 s := by
    intro c
    refine ⟨[.int (if (if c < 0 then -c else c) - 10 ^ 18 > 0 then (if c < 0 then -c else c) - 10 ^ 18 else 0), .int (c % (10 ^ 38 + 133) + 31607 * k), .int 0], ?_, _, _, _, rfl, ?_, ?_, ?_, by omega, by omega⟩
    · simp [Dn.run, Dn.lent, Dn.outsL, Dn.sCons, Dn.sIf, Dn.sRet, Dn.sRetV, Dn.sRetN, Dn.sSet, Dn.sExpr, Dn.sNil, Dn.sRaise, Dn.put, Dn.eC, Dn.eVar, Dn.eMove, Dn.bVar, Dn.bVal, Dn.e1, Dn.e2, Dn.e2T, Dn.eN, Dn.aNil, Dn.aCons, Dn.rd, Dn.rdAll, Dn.ofOp, Dn.view, Dn.isOpen, Dn.asBool, Dn.tVal, Dn.tYesM, Dn.tAndM, Dn.tOrM, Dn.tNotM, Dn.eIf, Dn.eAnd, Dn.eOr, Dn.eNot, Dn.U1, Dn.U2, Dn.ob, Dn.oi, Dn.eDisp, Dn.tms, Dn.tupO, Dn.lstO, Dn.isStrD, Dn.isiO, Dn.isiB, Dn.inO, Dn.memD, Dn.eqvD, Dn.eqvL, Dn.cmpOk, Dn.plainD, Dn.plainL, Dn.depD, Dn.depL, Dn.eqO, Dn.neO, Dn.ixO, Dn.atD, Dn.ixNat, Dn.lenO, Dn.ltO, Dn.leO, Dn.gtO, Dn.geO, Dn.eChain, Dn.isO, Dn.notIsO, Dn.isNoneB, Dn.notO, Dn.ninO, Dn.eCall, Dn.callF, Dn.lend, Dn.giveBack, Dn.seqOf, Dn.wipeS, Dn.backS, Dn.gN, Dn.eMut, Dn.tupleO, Dn.listO, Dn.eCut, Dn.pNone, Dn.pSome, Dn.cutO, Function.comp_def, -List.map_map, max2O, subO, absO, powO, addO, modO, mulO, t1]
    · split <;> omega
    · have := Int.emod_nonneg c (b := 10 ^ 38 + 133) (by decide)
      omega
    · have := Int.emod_lt_of_pos c (b := 10 ^ 38 + 133) (by decide)
      have e1 : (10 : Int) ^ 38 + 133 = 100000000000000000000000000000000000133 := by decide
      rw [e1] at this ⊢
      rw [big50]
      omega
  unfold f__law_source m__law_source
  by_cases h : k < ns.length
  · have hk : k.toNat < ns.length := by omega
    obtain ⟨s, e, hs⟩ := key ns[k.toNat]
    refine ⟨s, ?_, hs⟩
    have g1 : ns[k.toNat]? = some ns[k.toNat] := List.getElem?_eq_getElem hk
    have s1 : sSet 2 (eIf (tVal (e2 ltO (bVar 1) (bVal (eN (U1 lenO) (aCons (bVar 0) aNil))))) (e2 ixO (bVar 0) (bVar 1)) (eC (D.int 0))) (lent [.d (.scr ns), .d (.int k)]) [some (.d (.scr ns)), some (.d (.int k)), none] = .nx [some (.d (.scr ns)), some (.d (.int k)), some (.d (.int ns[k.toNat]))] := by
      simp [Dn.run, Dn.lent, Dn.outsL, Dn.sCons, Dn.sIf, Dn.sRet, Dn.sRetV, Dn.sRetN, Dn.sSet, Dn.sExpr, Dn.sNil, Dn.sRaise, Dn.put, Dn.eC, Dn.eVar, Dn.eMove, Dn.bVar, Dn.bVal, Dn.e1, Dn.e2, Dn.e2T, Dn.eN, Dn.aNil, Dn.aCons, Dn.rd, Dn.rdAll, Dn.ofOp, Dn.view, Dn.isOpen, Dn.asBool, Dn.tVal, Dn.tYesM, Dn.tAndM, Dn.tOrM, Dn.tNotM, Dn.eIf, Dn.eAnd, Dn.eOr, Dn.eNot, Dn.U1, Dn.U2, Dn.ob, Dn.oi, Dn.eDisp, Dn.tms, Dn.tupO, Dn.lstO, Dn.isStrD, Dn.isiO, Dn.isiB, Dn.inO, Dn.memD, Dn.eqvD, Dn.eqvL, Dn.cmpOk, Dn.plainD, Dn.plainL, Dn.depD, Dn.depL, Dn.eqO, Dn.neO, Dn.ixO, Dn.atD, Dn.ixNat, Dn.lenO, Dn.ltO, Dn.leO, Dn.gtO, Dn.geO, Dn.eChain, Dn.isO, Dn.notIsO, Dn.isNoneB, Dn.notO, Dn.ninO, Dn.eCall, Dn.callF, Dn.lend, Dn.giveBack, Dn.seqOf, Dn.wipeS, Dn.backS, Dn.gN, Dn.eMut, Dn.tupleO, Dn.listO, Dn.eCut, Dn.pNone, Dn.pSome, Dn.cutO, Function.comp_def, -List.map_map, h, h0, g1]
    refine (run_rt (o := .lst s) (δ := [some (.d (.scr ns)), some (.d (.int k)), some (.d (.int ns[k.toNat]))]) ?_ rfl).trans rfl
    show sCons _ _ _ [some (.d (.scr ns)), some (.d (.int k)), none] = _
    rw [seq_nx s1]
    unfold sRet
    rw [e]; rfl
  · obtain ⟨s, e, hs⟩ := key 0
    refine ⟨s, ?_, hs⟩
    have s1 : sSet 2 (eIf (tVal (e2 ltO (bVar 1) (bVal (eN (U1 lenO) (aCons (bVar 0) aNil))))) (e2 ixO (bVar 0) (bVar 1)) (eC (D.int 0))) (lent [.d (.scr ns), .d (.int k)]) [some (.d (.scr ns)), some (.d (.int k)), none] = .nx [some (.d (.scr ns)), some (.d (.int k)), some (.d (.int 0))] := by
      simp [Dn.run, Dn.lent, Dn.outsL, Dn.sCons, Dn.sIf, Dn.sRet, Dn.sRetV, Dn.sRetN, Dn.sSet, Dn.sExpr, Dn.sNil, Dn.sRaise, Dn.put, Dn.eC, Dn.eVar, Dn.eMove, Dn.bVar, Dn.bVal, Dn.e1, Dn.e2, Dn.e2T, Dn.eN, Dn.aNil, Dn.aCons, Dn.rd, Dn.rdAll, Dn.ofOp, Dn.view, Dn.isOpen, Dn.asBool, Dn.tVal, Dn.tYesM, Dn.tAndM, Dn.tOrM, Dn.tNotM, Dn.eIf, Dn.eAnd, Dn.eOr, Dn.eNot, Dn.U1, Dn.U2, Dn.ob, Dn.oi, Dn.eDisp, Dn.tms, Dn.tupO, Dn.lstO, Dn.isStrD, Dn.isiO, Dn.isiB, Dn.inO, Dn.memD, Dn.eqvD, Dn.eqvL, Dn.cmpOk, Dn.plainD, Dn.plainL, Dn.depD, Dn.depL, Dn.eqO, Dn.neO, Dn.ixO, Dn.atD, Dn.ixNat, Dn.lenO, Dn.ltO, Dn.leO, Dn.gtO, Dn.geO, Dn.eChain, Dn.isO, Dn.notIsO, Dn.isNoneB, Dn.notO, Dn.ninO, Dn.eCall, Dn.callF, Dn.lend, Dn.giveBack, Dn.seqOf, Dn.wipeS, Dn.backS, Dn.gN, Dn.eMut, Dn.tupleO, Dn.listO, Dn.eCut, Dn.pNone, Dn.pSome, Dn.cutO, Function.comp_def, -List.map_map, h]
    refine (run_rt (o := .lst s) (δ := [some (.d (.scr ns)), some (.d (.int k)), some (.d (.int 0))]) ?_ rfl).trans rfl
    show sCons _ _ _ [some (.d (.scr ns)), some (.d (.int k)), none] = _
    rw [seq_nx s1]
    unfold sRet
    rw [e]; rfl
end Tk46
set_option autoImplicit false
set_option linter.all false
set_option maxRecDepth 100000
namespace Tk46
open PySem Dn
/-- things drawn one by one -/
def mixY : Nat → List D → List D → List D
  | 0, _, _ => []
  | n + 1, s, sp => sp.getD (dR s sp.length).toNat .non :: mixY n (dS s sp.length) (sp.eraseIdx (dR s sp.length).toNat)
def mixS : Nat → List D → List D → List D
  | 0, s, _ => s
  | n + 1, s, sp => mixS n (dS s sp.length) (sp.eraseIdx (dR s sp.length).toNat)
theorem mix_lc (X : Slot) : ∀ (ds : List D) (m : Nat) (s sp acc : List D), SrcOk m s → ds.length = sp.length → m + sp.length ≤ 1000000000 → sp.length ≤ 1000000 →
    lcL [3] (gN 3) tYesM (eMut 2 mPopAt (aCons (bVal (eCall 2 f__law_draw (aCons (bVar 0) (aCons (bVal (eN (U1 lenO) (aCons (bVar 2) aNil))) (aNil))))) (aNil))) ds [some (.lst s), X, some (.lst sp), none] acc
      = .ok (acc ++ mixY ds.length s sp) [some (.lst (mixS ds.length s sp)), X, some (.lst []), none]
  | [], m, s, sp, acc, hs, hl, _, _ => by
    have : sp = [] := List.eq_nil_of_length_eq_zero hl.symm
    subst this
    simp [lcL, mixY, mixS]
  | d :: ds, m, s, sp, acc, hs, hl, hm, hz => by
    have hp : 0 < sp.length := by rw [← hl]; simp
    have hd := draw_eq hs (l := sp.length) (by omega) (by omega) (by omega)
    obtain ⟨r0, r1⟩ := dR_le hs (l := sp.length) (by omega)
    have hr : (dR s sp.length).toNat < sp.length := by omega
    have g1 : sp[(dR s sp.length).toNat]? = some sp[(dR s sp.length).toNat] := List.getElem?_eq_getElem hr
    have g2 : sp.getD (dR s sp.length).toNat .non = sp[(dR s sp.length).toNat] := by simp [List.getD, hr]
    have sm : smallI (dR s sp.length) = true := by unfold smallI; simp; omega
    have he : eMut 2 mPopAt (aCons (bVal (eCall 2 f__law_draw (aCons (bVar 0) (aCons (bVal (eN (U1 lenO) (aCons (bVar 2) aNil))) (aNil))))) (aNil)) [some (.lst s), X, some (.lst sp), some (.d d)]
        = .ok (.d sp[(dR s sp.length).toNat]) [some (.lst (dS s sp.length)), X, some (.lst (sp.eraseIdx (dR s sp.length).toNat)), some (.d d)] := by
      simp [Dn.run, Dn.lent, Dn.outsL, Dn.sCons, Dn.sIf, Dn.sRet, Dn.sRetV, Dn.sRetN, Dn.sSet, Dn.sExpr, Dn.sNil, Dn.sRaise, Dn.put, Dn.eC, Dn.eVar, Dn.eMove, Dn.bVar, Dn.bVal, Dn.e1, Dn.e2, Dn.e2T, Dn.eN, Dn.aNil, Dn.aCons, Dn.rd, Dn.rdAll, Dn.ofOp, Dn.view, Dn.isOpen, Dn.asBool, Dn.tVal, Dn.tYesM, Dn.tAndM, Dn.tOrM, Dn.tNotM, Dn.eIf, Dn.eAnd, Dn.eOr, Dn.eNot, Dn.U1, Dn.U2, Dn.ob, Dn.oi, Dn.eDisp, Dn.tms, Dn.tupO, Dn.lstO, Dn.isStrD, Dn.isiO, Dn.isiB, Dn.inO, Dn.memD, Dn.eqvD, Dn.eqvL, Dn.cmpOk, Dn.plainD, Dn.plainL, Dn.depD, Dn.depL, Dn.eqO, Dn.neO, Dn.ixO, Dn.atD, Dn.ixNat, Dn.lenO, Dn.ltO, Dn.leO, Dn.gtO, Dn.geO, Dn.eChain, Dn.isO, Dn.notIsO, Dn.isNoneB, Dn.notO, Dn.ninO, Dn.eCall, Dn.callF, Dn.lend, Dn.giveBack, Dn.seqOf, Dn.wipeS, Dn.backS, Dn.gN, Dn.eMut, Dn.tupleO, Dn.listO, Dn.eCut, Dn.pNone, Dn.pSome, Dn.cutO, Function.comp_def, -List.map_map, hd, mPopAt, r0, r1, sm, g1]
    unfold lcL
    have hg : gN 3 (fun i => !([3] : List Nat).contains i) d [some (.lst s), X, some (.lst sp), none] = some [some (.lst s), X, some (.lst sp), some (.d d)] := by simp [Dn.run, Dn.lent, Dn.outsL, Dn.sCons, Dn.sIf, Dn.sRet, Dn.sRetV, Dn.sRetN, Dn.sSet, Dn.sExpr, Dn.sNil, Dn.sRaise, Dn.put, Dn.eC, Dn.eVar, Dn.eMove, Dn.bVar, Dn.bVal, Dn.e1, Dn.e2, Dn.e2T, Dn.eN, Dn.aNil, Dn.aCons, Dn.rd, Dn.rdAll, Dn.ofOp, Dn.view, Dn.isOpen, Dn.asBool, Dn.tVal, Dn.tYesM, Dn.tAndM, Dn.tOrM, Dn.tNotM, Dn.eIf, Dn.eAnd, Dn.eOr, Dn.eNot, Dn.U1, Dn.U2, Dn.ob, Dn.oi, Dn.eDisp, Dn.tms, Dn.tupO, Dn.lstO, Dn.isStrD, Dn.isiO, Dn.isiB, Dn.inO, Dn.memD, Dn.eqvD, Dn.eqvL, Dn.cmpOk, Dn.plainD, Dn.plainL, Dn.depD, Dn.depL, Dn.eqO, Dn.neO, Dn.ixO, Dn.atD, Dn.ixNat, Dn.lenO, Dn.ltO, Dn.leO, Dn.gtO, Dn.geO, Dn.eChain, Dn.isO, Dn.notIsO, Dn.isNoneB, Dn.notO, Dn.ninO, Dn.eCall, Dn.callF, Dn.lend, Dn.giveBack, Dn.seqOf, Dn.wipeS, Dn.backS, Dn.gN, Dn.eMut, Dn.tupleO, Dn.listO, Dn.eCut, Dn.pNone, Dn.pSome, Dn.cutO, Function.comp_def, -List.map_map]
    rw [hg]
    simp only [tYesM, Res.noexc_ok, Res.bind_ok, if_true, he]
    have hw : wipeS [some (.lst (dS s sp.length)), X, some (.lst (sp.eraseIdx (dR s sp.length).toNat)), some (.d d)] [3] = [some (.lst (dS s sp.length)), X, some (.lst (sp.eraseIdx (dR s sp.length).toNat)), none] := by simp [Dn.run, Dn.lent, Dn.outsL, Dn.sCons, Dn.sIf, Dn.sRet, Dn.sRetV, Dn.sRetN, Dn.sSet, Dn.sExpr, Dn.sNil, Dn.sRaise, Dn.put, Dn.eC, Dn.eVar, Dn.eMove, Dn.bVar, Dn.bVal, Dn.e1, Dn.e2, Dn.e2T, Dn.eN, Dn.aNil, Dn.aCons, Dn.rd, Dn.rdAll, Dn.ofOp, Dn.view, Dn.isOpen, Dn.asBool, Dn.tVal, Dn.tYesM, Dn.tAndM, Dn.tOrM, Dn.tNotM, Dn.eIf, Dn.eAnd, Dn.eOr, Dn.eNot, Dn.U1, Dn.U2, Dn.ob, Dn.oi, Dn.eDisp, Dn.tms, Dn.tupO, Dn.lstO, Dn.isStrD, Dn.isiO, Dn.isiB, Dn.inO, Dn.memD, Dn.eqvD, Dn.eqvL, Dn.cmpOk, Dn.plainD, Dn.plainL, Dn.depD, Dn.depL, Dn.eqO, Dn.neO, Dn.ixO, Dn.atD, Dn.ixNat, Dn.lenO, Dn.ltO, Dn.leO, Dn.gtO, Dn.geO, Dn.eChain, Dn.isO, Dn.notIsO, Dn.isNoneB, Dn.notO, Dn.ninO, Dn.eCall, Dn.callF, Dn.lend, Dn.giveBack, Dn.seqOf, Dn.wipeS, Dn.backS, Dn.gN, Dn.eMut, Dn.tupleO, Dn.listO, Dn.eCut, Dn.pNone, Dn.pSome, Dn.cutO, Function.comp_def, -List.map_map]
    rw [hw]
    have hle : (sp.eraseIdx (dR s sp.length).toNat).length = sp.length - 1 := List.length_eraseIdx_of_lt hr
    rw [mix_lc X ds (m + 1) _ _ _ (dS_ok hs (by omega)) (by rw [hle]; simp at hl; omega) (by rw [hle]; omega) (by rw [hle]; omega)]
    simp [mixY, mixS, view, g1]
theorem mixY_perm : ∀ (n m : Nat) (s sp : List D), SrcOk m s → n = sp.length → (mixY n s sp).Perm sp
  | 0, m, s, sp, _, h => by
    have : sp = [] := List.eq_nil_of_length_eq_zero h.symm
    subst this
    exact List.Perm.refl _
  | n + 1, m, s, sp, hs, h => by
    obtain ⟨r0, r1⟩ := dR_le hs (l := sp.length) (by omega)
    have hr : (dR s sp.length).toNat < sp.length := by omega
    have g2 : sp.getD (dR s sp.length).toNat .non = sp[(dR s sp.length).toNat] := by simp [List.getD, hr]
    have hle : (sp.eraseIdx (dR s sp.length).toNat).length = sp.length - 1 := List.length_eraseIdx_of_lt hr
    have ih := mixY_perm n (m + 1) (dS s sp.length) (sp.eraseIdx (dR s sp.length).toNat) (dS_ok hs (by omega)) (by omega)
    show (sp.getD (dR s sp.length).toNat .non :: mixY n (dS s sp.length) (sp.eraseIdx (dR s sp.length).toNat)).Perm sp
    rw [g2]
    exact (ih.cons _).trans (L2.erase_perm sp _ _ (List.getElem?_eq_getElem hr))
theorem mixS_ok : ∀ (n m : Nat) (s sp : List D), SrcOk m s → n = sp.length → SrcOk (m + n) (mixS n s sp)
  | 0, m, s, sp, hs, _ => hs
  | n + 1, m, s, sp, hs, h => by
    obtain ⟨r0, r1⟩ := dR_le hs (l := sp.length) (by omega)
    have hr : (dR s sp.length).toNat < sp.length := by omega
    have hle : (sp.eraseIdx (dR s sp.length).toNat).length = sp.length - 1 := List.length_eraseIdx_of_lt hr
    have ih := mixS_ok n (m + 1) (dS s sp.length) (sp.eraseIdx (dR s sp.length).toNat) (dS_ok hs (by omega)) (by omega)
    rw [show m + (n + 1) = m + 1 + n by omega]
    exact ih
theorem mixed_ok (m : Nat) (s xs : List D) (hs : SrcOk m s) (hm : m + xs.length ≤ 1000000000) (hz : xs.length ≤ 1000000) :
    f__law_mixed [.lst s, .lst xs] = .ret (.lst (mixY xs.length s xs)) [some (.lst (mixS xs.length s xs)), some (.lst xs)] := by
  have s1 : sSet 2 (eN (U1 listO) (aCons (bVar 1) aNil)) (lent [.lst s, .lst xs]) [some (.lst s), some (.lst xs), none, none] = .nx [some (.lst s), some (.lst xs), some (.lst xs), none] := by simp [Dn.run, Dn.lent, Dn.outsL, Dn.sCons, Dn.sIf, Dn.sRet, Dn.sRetV, Dn.sRetN, Dn.sSet, Dn.sExpr, Dn.sNil, Dn.sRaise, Dn.put, Dn.eC, Dn.eVar, Dn.eMove, Dn.bVar, Dn.bVal, Dn.e1, Dn.e2, Dn.e2T, Dn.eN, Dn.aNil, Dn.aCons, Dn.rd, Dn.rdAll, Dn.ofOp, Dn.view, Dn.isOpen, Dn.asBool, Dn.tVal, Dn.tYesM, Dn.tAndM, Dn.tOrM, Dn.tNotM, Dn.eIf, Dn.eAnd, Dn.eOr, Dn.eNot, Dn.U1, Dn.U2, Dn.ob, Dn.oi, Dn.eDisp, Dn.tms, Dn.tupO, Dn.lstO, Dn.isStrD, Dn.isiO, Dn.isiB, Dn.inO, Dn.memD, Dn.eqvD, Dn.eqvL, Dn.cmpOk, Dn.plainD, Dn.plainL, Dn.depD, Dn.depL, Dn.eqO, Dn.neO, Dn.ixO, Dn.atD, Dn.ixNat, Dn.lenO, Dn.ltO, Dn.leO, Dn.gtO, Dn.geO, Dn.eChain, Dn.isO, Dn.notIsO, Dn.isNoneB, Dn.notO, Dn.ninO, Dn.eCall, Dn.callF, Dn.lend, Dn.giveBack, Dn.seqOf, Dn.wipeS, Dn.backS, Dn.gN, Dn.eMut, Dn.tupleO, Dn.listO, Dn.eCut, Dn.pNone, Dn.pSome, Dn.cutO, Function.comp_def, -List.map_map]
  have sm : smallI (xs.length : Int) = true := by unfold smallI; simp; omega
  have hi : iN rangeOp (aCons (bVal (eN (U1 lenO) (aCons (bVar 1) aNil))) (aNil)) [some (.lst s), some (.lst xs), some (.lst xs), none] = .ok (Dn.intsFrom 0 1 xs.length) [some (.lst s), some (.lst xs), some (.lst xs), none] := by
    simp [Dn.run, Dn.lent, Dn.outsL, Dn.sCons, Dn.sIf, Dn.sRet, Dn.sRetV, Dn.sRetN, Dn.sSet, Dn.sExpr, Dn.sNil, Dn.sRaise, Dn.put, Dn.eC, Dn.eVar, Dn.eMove, Dn.bVar, Dn.bVal, Dn.e1, Dn.e2, Dn.e2T, Dn.eN, Dn.aNil, Dn.aCons, Dn.rd, Dn.rdAll, Dn.ofOp, Dn.view, Dn.isOpen, Dn.asBool, Dn.tVal, Dn.tYesM, Dn.tAndM, Dn.tOrM, Dn.tNotM, Dn.eIf, Dn.eAnd, Dn.eOr, Dn.eNot, Dn.U1, Dn.U2, Dn.ob, Dn.oi, Dn.eDisp, Dn.tms, Dn.tupO, Dn.lstO, Dn.isStrD, Dn.isiO, Dn.isiB, Dn.inO, Dn.memD, Dn.eqvD, Dn.eqvL, Dn.cmpOk, Dn.plainD, Dn.plainL, Dn.depD, Dn.depL, Dn.eqO, Dn.neO, Dn.ixO, Dn.atD, Dn.ixNat, Dn.lenO, Dn.ltO, Dn.leO, Dn.gtO, Dn.geO, Dn.eChain, Dn.isO, Dn.notIsO, Dn.isNoneB, Dn.notO, Dn.ninO, Dn.eCall, Dn.callF, Dn.lend, Dn.giveBack, Dn.seqOf, Dn.wipeS, Dn.backS, Dn.gN, Dn.eMut, Dn.tupleO, Dn.listO, Dn.eCut, Dn.pNone, Dn.pSome, Dn.cutO, Function.comp_def, -List.map_map, iN, rangeOp, sm]
  have hlen : (Dn.intsFrom 0 1 xs.length).length = xs.length := by simp [Dn.intsFrom]
  have hlc := mix_lc (some (.lst xs)) (Dn.intsFrom 0 1 xs.length) m s xs [] hs hlen hm hz
  have hml : (mixY xs.length s xs).length ≤ 1000000 := by rw [(mixY_perm _ m s xs hs rfl).length_eq]; exact hz
  refine (run_rt (o := .lst (mixY xs.length s xs)) (δ := [some (.lst (mixS xs.length s xs)), some (.lst xs), some (.lst []), none]) ?_ rfl).trans (by simp [Dn.run, Dn.lent, Dn.outsL, Dn.sCons, Dn.sIf, Dn.sRet, Dn.sRetV, Dn.sRetN, Dn.sSet, Dn.sExpr, Dn.sNil, Dn.sRaise, Dn.put, Dn.eC, Dn.eVar, Dn.eMove, Dn.bVar, Dn.bVal, Dn.e1, Dn.e2, Dn.e2T, Dn.eN, Dn.aNil, Dn.aCons, Dn.rd, Dn.rdAll, Dn.ofOp, Dn.view, Dn.isOpen, Dn.asBool, Dn.tVal, Dn.tYesM, Dn.tAndM, Dn.tOrM, Dn.tNotM, Dn.eIf, Dn.eAnd, Dn.eOr, Dn.eNot, Dn.U1, Dn.U2, Dn.ob, Dn.oi, Dn.eDisp, Dn.tms, Dn.tupO, Dn.lstO, Dn.isStrD, Dn.isiO, Dn.isiB, Dn.inO, Dn.memD, Dn.eqvD, Dn.eqvL, Dn.cmpOk, Dn.plainD, Dn.plainL, Dn.depD, Dn.depL, Dn.eqO, Dn.neO, Dn.ixO, Dn.atD, Dn.ixNat, Dn.lenO, Dn.ltO, Dn.leO, Dn.gtO, Dn.geO, Dn.eChain, Dn.isO, Dn.notIsO, Dn.isNoneB, Dn.notO, Dn.ninO, Dn.eCall, Dn.callF, Dn.lend, Dn.giveBack, Dn.seqOf, Dn.wipeS, Dn.backS, Dn.gN, Dn.eMut, Dn.tupleO, Dn.listO, Dn.eCut, Dn.pNone, Dn.pSome, Dn.cutO, Function.comp_def, -List.map_map])
  show sCons _ _ _ [some (.lst s), some (.lst xs), none, none] = _
  rw [seq_nx s1]
  unfold sRet eLc
  rw [hi]
  simp only [Res.bind_ok]
  have hw : wipeS [some (.lst s), some (.lst xs), some (.lst xs), none] [3] = [some (.lst s), some (.lst xs), some (.lst xs), none] := by simp [Dn.run, Dn.lent, Dn.outsL, Dn.sCons, Dn.sIf, Dn.sRet, Dn.sRetV, Dn.sRetN, Dn.sSet, Dn.sExpr, Dn.sNil, Dn.sRaise, Dn.put, Dn.eC, Dn.eVar, Dn.eMove, Dn.bVar, Dn.bVal, Dn.e1, Dn.e2, Dn.e2T, Dn.eN, Dn.aNil, Dn.aCons, Dn.rd, Dn.rdAll, Dn.ofOp, Dn.view, Dn.isOpen, Dn.asBool, Dn.tVal, Dn.tYesM, Dn.tAndM, Dn.tOrM, Dn.tNotM, Dn.eIf, Dn.eAnd, Dn.eOr, Dn.eNot, Dn.U1, Dn.U2, Dn.ob, Dn.oi, Dn.eDisp, Dn.tms, Dn.tupO, Dn.lstO, Dn.isStrD, Dn.isiO, Dn.isiB, Dn.inO, Dn.memD, Dn.eqvD, Dn.eqvL, Dn.cmpOk, Dn.plainD, Dn.plainL, Dn.depD, Dn.depL, Dn.eqO, Dn.neO, Dn.ixO, Dn.atD, Dn.ixNat, Dn.lenO, Dn.ltO, Dn.leO, Dn.gtO, Dn.geO, Dn.eChain, Dn.isO, Dn.notIsO, Dn.isNoneB, Dn.notO, Dn.ninO, Dn.eCall, Dn.callF, Dn.lend, Dn.giveBack, Dn.seqOf, Dn.wipeS, Dn.backS, Dn.gN, Dn.eMut, Dn.tupleO, Dn.listO, Dn.eCut, Dn.pNone, Dn.pSome, Dn.cutO, Function.comp_def, -List.map_map]
  rw [hw, hlc, hlen]
  simp only [List.nil_append, Res.noexc_ok, Res.bind_ok]
  rw [if_pos hml]
  simp [Dn.run, Dn.lent, Dn.outsL, Dn.sCons, Dn.sIf, Dn.sRet, Dn.sRetV, Dn.sRetN, Dn.sSet, Dn.sExpr, Dn.sNil, Dn.sRaise, Dn.put, Dn.eC, Dn.eVar, Dn.eMove, Dn.bVar, Dn.bVal, Dn.e1, Dn.e2, Dn.e2T, Dn.eN, Dn.aNil, Dn.aCons, Dn.rd, Dn.rdAll, Dn.ofOp, Dn.view, Dn.isOpen, Dn.asBool, Dn.tVal, Dn.tYesM, Dn.tAndM, Dn.tOrM, Dn.tNotM, Dn.eIf, Dn.eAnd, Dn.eOr, Dn.eNot, Dn.U1, Dn.U2, Dn.ob, Dn.oi, Dn.eDisp, Dn.tms, Dn.tupO, Dn.lstO, Dn.isStrD, Dn.isiO, Dn.isiB, Dn.inO, Dn.memD, Dn.eqvD, Dn.eqvL, Dn.cmpOk, Dn.plainD, Dn.plainL, Dn.depD, Dn.depL, Dn.eqO, Dn.neO, Dn.ixO, Dn.atD, Dn.ixNat, Dn.lenO, Dn.ltO, Dn.leO, Dn.gtO, Dn.geO, Dn.eChain, Dn.isO, Dn.notIsO, Dn.isNoneB, Dn.notO, Dn.ninO, Dn.eCall, Dn.callF, Dn.lend, Dn.giveBack, Dn.seqOf, Dn.wipeS, Dn.backS, Dn.gN, Dn.eMut, Dn.tupleO, Dn.listO, Dn.eCut, Dn.pNone, Dn.pSome, Dn.cutO, Function.comp_def, -List.map_map]
end Tk46
set_option autoImplicit false
set_option linter.all false
set_option maxRecDepth 100000
namespace Tk46
open PySem Dn
def az : Str := "abcdefghijklmnopqrstuvwxyz"
theorem az_at : ∀ i, i < 26 → az.cps.toList[i]? = some (97 + i) := by decide +kernel
theorem low_at : ∀ i, i < 26 → lowC (97 + i) = true := by decide +kernel
theorem az_len : az.length ≤ 1000000 := by decide +kernel
theorem az_sz : az.cps.toList.length = 26 := by decide +kernel
def two (a b : Nat) : Str := ⟨#[97 + a, 97 + b]⟩
theorem str_inj {x y : Str} (h : x.cps.toList = y.cps.toList) : x = y := by
  obtain ⟨a⟩ := x
  obtain ⟨b⟩ := y
  congr 1
  exact Array.ext' h
theorem app_cps (x y : Str) : (x ++ y).cps.toList = x.cps.toList ++ y.cps.toList := by
  show (x.cps ++ y.cps).toList = _
  simp
theorem sign_two (a b : Nat) : sign (97 + a) ++ sign (97 + b) = two a b := str_inj (by rw [app_cps]; rfl)
theorem ix_az (i : Nat) (h : i < 26) : ixO (.str az) (.int i) = some (.d (.str (sign (97 + i)))) := by
  have h1 := az_at i h
  have h2 := az_sz
  have h3 := az_len
  simp only [ixO]
  rw [if_pos h3]
  unfold atD ixNat
  rw [h2, if_pos (by omega), if_pos (by omega)]
  simp only [Option.bind_some]
  rw [show (i : Int).toNat = i by omega, h1]
  rfl
theorem two_len (a b : Nat) : (two a b).length = 2 := rfl
theorem sign_len (c : Nat) : (sign c).length = 1 := rfl
theorem two_ok {a b : Nat} (ha : a < 26) (hb : b < 26) : carOk (two a b) = true := by
  have h1 := low_at a ha
  have h2 := low_at b hb
  simp [carOk, two, Str.length, h1, h2]
theorem two_inj {a b c d : Nat} (h : two a b = two c d) : a = c ∧ b = d := by
  have : [97 + a, 97 + b] = [97 + c, 97 + d] := congrArg (fun x : Str => x.cps.toList) h
  simp at this
  omega
/-- the names, by the style drawn -/
def nameK (st : Int) (k : Nat) : Str := if st = 0 then "zy" ++ two (k / 26) (k % 26) else if st = 1 then two (k % 26) (k / 26) else two (k / 26) (k % 26)
def nine : List Str := ["in", "out", "l", "r", "a", "zzzz", "aaaa", "none", "x"]
def names (st : Int) (n : Nat) : List Str := if st = 2 then (nine ++ (List.range n).map fun k => two (k / 26) (k % 26) ++ "q").take n else (List.range n).map (nameK st)
theorem names_len (st : Int) (n : Nat) : (names st n).length = n := by
  unfold names
  split
  · simp
    try omega
  · simp
theorem nodup_range_map {f : Nat → Str} {n : Nat} (h : ∀ i j, i < n → j < n → f i = f j → i = j) : ((List.range n).map f).Nodup := by
  unfold List.Nodup
  rw [List.pairwise_map]
  refine List.Pairwise.imp_of_mem (fun {a b} ha hb hab e => ?_) (List.nodup_range (n := n))
  exact hab (h a b (List.mem_range.mp ha) (List.mem_range.mp hb) e)
theorem dm_inj {i j : Nat} (h1 : i / 26 = j / 26) (h2 : i % 26 = j % 26) : i = j := by
  have := Nat.div_add_mod i 26
  have := Nat.div_add_mod j 26
  omega
theorem zy_inj {x y : Str} (h : ("zy" : Str) ++ x = "zy" ++ y) : x = y := by
  have : (("zy" : Str) ++ x).cps.toList = (("zy" : Str) ++ y).cps.toList := by rw [h]
  rw [app_cps, app_cps] at this
  exact str_inj (List.append_cancel_left this)
theorem q_inj {x y : Str} (h : x ++ ("q" : Str) = y ++ "q") : x = y := by
  have : (x ++ ("q" : Str)).cps.toList = (y ++ ("q" : Str)).cps.toList := by rw [h]
  rw [app_cps, app_cps] at this
  exact str_inj (List.append_cancel_right this)
theorem names_nodup (st : Int) (n : Nat) (hn : n ≤ 160) : (names st n).Nodup := by
  unfold names
  split
  · refine List.Sublist.nodup (List.take_sublist _ _) ?_
    refine List.nodup_append.mpr ⟨by decide +kernel, nodup_range_map fun i j hi hj e => ?_, fun a ha b hb e => ?_⟩
    · obtain ⟨h1, h2⟩ := two_inj (q_inj e)
      exact dm_inj h1 h2
    · subst e
      obtain ⟨k, hk, rfl⟩ := List.mem_map.mp hb
      have h3 : (two (k / 26) (k % 26) ++ ("q" : Str)).cps.toList = [97 + k / 26, 97 + k % 26, 113] := by rw [app_cps]; rfl
      have key : ∀ y ∈ nine, y.cps.toList.length = 3 → y.cps.toList[2]? ≠ some 113 := by decide +kernel
      exact key _ ha (by rw [h3]; rfl) (by rw [h3]; rfl)
  · refine nodup_range_map fun i j hi hj e => ?_
    unfold nameK at e
    split at e
    · obtain ⟨h1, h2⟩ := two_inj (zy_inj e)
      exact dm_inj h1 h2
    · split at e
      · obtain ⟨h1, h2⟩ := two_inj e
        exact dm_inj h2 h1
      · obtain ⟨h1, h2⟩ := two_inj e
        exact dm_inj h1 h2
theorem carOk_app {x y : Str} (hx : x.cps.toList.all lowC = true) (hy : y.cps.toList.all lowC = true) (h1 : 1 ≤ x.length + y.length) (h2 : x.length + y.length ≤ 4) : carOk (x ++ y) = true := by
  unfold carOk
  rw [app_len, app_cps, List.all_append, hx, hy]
  simp [h1, h2]
theorem carOk_all {x : Str} (h : carOk x = true) : x.cps.toList.all lowC = true := by
  simp only [carOk, Bool.and_eq_true] at h
  exact h.2
theorem names_ok (st : Int) (n : Nat) (hn : n ≤ 160) : ∀ y ∈ names st n, carOk y = true := by
  have lt : ∀ k, k < n → k / 26 < 26 ∧ k % 26 < 26 := fun k hk => ⟨by omega, Nat.mod_lt _ (by decide)⟩
  unfold names
  split
  · intro y hy
    rcases List.mem_append.mp (List.mem_of_mem_take hy) with h | h
    · have key : ∀ y ∈ nine, carOk y = true := by decide +kernel
      exact key y h
    · obtain ⟨k, hk, rfl⟩ := List.mem_map.mp h
      obtain ⟨h1, h2⟩ := lt k (List.mem_range.mp hk)
      exact carOk_app (carOk_all (two_ok h1 h2)) (by decide +kernel) (by rw [two_len]; omega) (by rw [two_len]; decide)
  · intro y hy
    obtain ⟨k, hk, rfl⟩ := List.mem_map.mp hy
    obtain ⟨h1, h2⟩ := lt k (List.mem_range.mp hk)
    unfold nameK
    split
    · exact carOk_app (by decide +kernel) (carOk_all (two_ok h1 h2)) (by rw [two_len]; omega) (by rw [two_len]; decide)
    · split
      · exact two_ok h2 h1
      · exact two_ok h1 h2
end Tk46
set_option autoImplicit false
set_option linter.all false
set_option maxRecDepth 100000
namespace Tk46
open PySem Dn
theorem addO_str {x y : Str} (h : x.length + y.length ≤ 1000000) : addO (.str x) (.str y) = some (.d (.str (x ++ y))) := by
  simp only [addO]; rw [if_pos h]
theorem fdiv26 (k : Nat) : fdivO (.int k) (.int 26) = some (.d (.int ((k : Int) / 26))) := by
  have t : (26 : Int).natAbs < 2 ^ 8000 := two_big (by decide)
  simp only [fdivO]
  rw [if_pos ⟨by decide, t⟩]
theorem mod26 (k : Nat) : modO (.int k) (.int 26) = some (.d (.int ((k : Int) % 26))) := by
  simp only [modO]
  rw [if_pos (by decide)]
abbrev V7 (s : List D) (c : Int) (l f st k n : Slot) : Sl := [some (.lst s), some (.d (.int c)), l, f, st, k, n]
theorem veh_names (s : List D) (n : Nat) (hn : n ≤ 160) : eLc (iN rangeOp (aCons (bVar 1) (aNil))) [5] (gN 5) (tYesM) (e2 addO (bVal (e2 ixO (bVar 2) (bVal (e2 fdivO (bVar 5) (bVal (eC (D.int 26))))))) (bVal (e2 ixO (bVar 2) (bVal (e2 modO (bVar 5) (bVal (eC (D.int 26)))))))) (V7 s n (some (.d (.str az))) none none none none)
    = .ok (.lst ((List.range n).map fun k => .str (two (k / 26) (k % 26)))) (V7 s n (some (.d (.str az))) none none none none) := by
  have sm : smallI (n : Int) = true := by unfold smallI; simp; omega
  have hq : iN rangeOp (aCons (bVar 1) (aNil)) (V7 s n (some (.d (.str az))) none none none none) = .ok ((List.range n).map fun k => D.int ((0 : Int) + (k : Nat) * 1)) (V7 s n (some (.d (.str az))) none none none none) := by
    simp [Dn.run, Dn.lent, Dn.outsL, Dn.sCons, Dn.sIf, Dn.sRet, Dn.sRetV, Dn.sRetN, Dn.sSet, Dn.sExpr, Dn.sNil, Dn.sRaise, Dn.put, Dn.eC, Dn.eVar, Dn.eMove, Dn.bVar, Dn.bVal, Dn.e1, Dn.e2, Dn.e2T, Dn.eN, Dn.aNil, Dn.aCons, Dn.rd, Dn.rdAll, Dn.ofOp, Dn.view, Dn.isOpen, Dn.asBool, Dn.tVal, Dn.tYesM, Dn.tAndM, Dn.tOrM, Dn.tNotM, Dn.eIf, Dn.eAnd, Dn.eOr, Dn.eNot, Dn.U1, Dn.U2, Dn.ob, Dn.oi, Dn.eDisp, Dn.tms, Dn.tupO, Dn.lstO, Dn.isStrD, Dn.isiO, Dn.isiB, Dn.inO, Dn.memD, Dn.eqvD, Dn.eqvL, Dn.cmpOk, Dn.plainD, Dn.plainL, Dn.depD, Dn.depL, Dn.eqO, Dn.neO, Dn.ixO, Dn.atD, Dn.ixNat, Dn.lenO, Dn.ltO, Dn.leO, Dn.gtO, Dn.geO, Dn.eChain, Dn.isO, Dn.notIsO, Dn.isNoneB, Dn.notO, Dn.ninO, Dn.eCall, Dn.callF, Dn.lend, Dn.giveBack, Dn.seqOf, Dn.wipeS, Dn.backS, Dn.gN, Dn.eMut, Dn.tupleO, Dn.listO, Dn.eCut, Dn.pNone, Dn.pSome, Dn.cutO, Function.comp_def, -List.map_map, iN, rangeOp, sm, Dn.intsFrom]
  refine eLc_mapA hq (by simp; omega) fun k hk => ?_
  have hk := List.mem_range.mp hk
  have h1 : ixO (.str az) (.int ((k : Int) / 26)) = some (.d (.str (sign (97 + k / 26)))) := by
    have z := ix_az (k / 26) (by omega)
    rwa [show ((k / 26 : Nat) : Int) = (k : Int) / 26 by omega] at z
  have h2 : ixO (.str az) (.int ((k : Int) % 26)) = some (.d (.str (sign (97 + k % 26)))) := by
    have z := ix_az (k % 26) (Nat.mod_lt _ (by decide))
    rwa [show ((k % 26 : Nat) : Int) = (k : Int) % 26 by omega] at z
  have h3 := fdiv26 k
  have h4 := mod26 k
  have h5 : addO (.str (sign (97 + k / 26))) (.str (sign (97 + k % 26))) = some (.d (.str (two (k / 26) (k % 26)))) := by
    rw [addO_str (by rw [sign_len, sign_len]; decide), sign_two]
  have e0 : (0 : Int) + (k : Nat) * 1 = k := by omega
  refine ⟨V7 s n (some (.d (.str az))) none none (some (.d (.int k))) none, V7 s n (some (.d (.str az))) none none (some (.d (.int k))) none, .d (.str (two (k / 26) (k % 26))), V7 s n (some (.d (.str az))) none none (some (.d (.int k))) none, ?_, rfl, ?_, rfl, by simp [Dn.run, Dn.lent, Dn.outsL, Dn.sCons, Dn.sIf, Dn.sRet, Dn.sRetV, Dn.sRetN, Dn.sSet, Dn.sExpr, Dn.sNil, Dn.sRaise, Dn.put, Dn.eC, Dn.eVar, Dn.eMove, Dn.bVar, Dn.bVal, Dn.e1, Dn.e2, Dn.e2T, Dn.eN, Dn.aNil, Dn.aCons, Dn.rd, Dn.rdAll, Dn.ofOp, Dn.view, Dn.isOpen, Dn.asBool, Dn.tVal, Dn.tYesM, Dn.tAndM, Dn.tOrM, Dn.tNotM, Dn.eIf, Dn.eAnd, Dn.eOr, Dn.eNot, Dn.U1, Dn.U2, Dn.ob, Dn.oi, Dn.eDisp, Dn.tms, Dn.tupO, Dn.lstO, Dn.isStrD, Dn.isiO, Dn.isiB, Dn.inO, Dn.memD, Dn.eqvD, Dn.eqvL, Dn.cmpOk, Dn.plainD, Dn.plainL, Dn.depD, Dn.depL, Dn.eqO, Dn.neO, Dn.ixO, Dn.atD, Dn.ixNat, Dn.lenO, Dn.ltO, Dn.leO, Dn.gtO, Dn.geO, Dn.eChain, Dn.isO, Dn.notIsO, Dn.isNoneB, Dn.notO, Dn.ninO, Dn.eCall, Dn.callF, Dn.lend, Dn.giveBack, Dn.seqOf, Dn.wipeS, Dn.backS, Dn.gN, Dn.eMut, Dn.tupleO, Dn.listO, Dn.eCut, Dn.pNone, Dn.pSome, Dn.cutO, Function.comp_def, -List.map_map]⟩
  · rw [e0]; simp [Dn.run, Dn.lent, Dn.outsL, Dn.sCons, Dn.sIf, Dn.sRet, Dn.sRetV, Dn.sRetN, Dn.sSet, Dn.sExpr, Dn.sNil, Dn.sRaise, Dn.put, Dn.eC, Dn.eVar, Dn.eMove, Dn.bVar, Dn.bVal, Dn.e1, Dn.e2, Dn.e2T, Dn.eN, Dn.aNil, Dn.aCons, Dn.rd, Dn.rdAll, Dn.ofOp, Dn.view, Dn.isOpen, Dn.asBool, Dn.tVal, Dn.tYesM, Dn.tAndM, Dn.tOrM, Dn.tNotM, Dn.eIf, Dn.eAnd, Dn.eOr, Dn.eNot, Dn.U1, Dn.U2, Dn.ob, Dn.oi, Dn.eDisp, Dn.tms, Dn.tupO, Dn.lstO, Dn.isStrD, Dn.isiO, Dn.isiB, Dn.inO, Dn.memD, Dn.eqvD, Dn.eqvL, Dn.cmpOk, Dn.plainD, Dn.plainL, Dn.depD, Dn.depL, Dn.eqO, Dn.neO, Dn.ixO, Dn.atD, Dn.ixNat, Dn.lenO, Dn.ltO, Dn.leO, Dn.gtO, Dn.geO, Dn.eChain, Dn.isO, Dn.notIsO, Dn.isNoneB, Dn.notO, Dn.ninO, Dn.eCall, Dn.callF, Dn.lend, Dn.giveBack, Dn.seqOf, Dn.wipeS, Dn.backS, Dn.gN, Dn.eMut, Dn.tupleO, Dn.listO, Dn.eCut, Dn.pNone, Dn.pSome, Dn.cutO, Function.comp_def, -List.map_map]
  · simp [e2, bVal, bVar, eC, rd, view, ofOp, h1, h2, h3, h4, h5]
theorem veh_map {s : List D} {c : Int} {l : Slot} {ys : List Str} {st : Slot} {e : EM} {R : Str → Str} (hl : ys.length ≤ 1000000)
    (he : ∀ y ∈ ys, e (V7 s c l none st none (some (.d (.str y)))) = .ok (.d (.str (R y))) (V7 s c l none st none (some (.d (.str y))))) :
    eLcH 3 [6] (gN 6) tYesM e (V7 s c l (some (.lst (ys.map .str))) st none none) = .ok (.lst (ys.map fun y => .str (R y))) (V7 s c l (some (.lst (ys.map .str))) st none none) := by
  refine eLcH_mapA (R := fun y => D.str (R y)) rfl rfl hl fun y hy => ?_
  exact ⟨V7 s c l none st none (some (.d (.str y))), V7 s c l none st none (some (.d (.str y))), .d (.str (R y)), V7 s c l none st none (some (.d (.str y))), by simp [Dn.run, Dn.lent, Dn.outsL, Dn.sCons, Dn.sIf, Dn.sRet, Dn.sRetV, Dn.sRetN, Dn.sSet, Dn.sExpr, Dn.sNil, Dn.sRaise, Dn.put, Dn.eC, Dn.eVar, Dn.eMove, Dn.bVar, Dn.bVal, Dn.e1, Dn.e2, Dn.e2T, Dn.eN, Dn.aNil, Dn.aCons, Dn.rd, Dn.rdAll, Dn.ofOp, Dn.view, Dn.isOpen, Dn.asBool, Dn.tVal, Dn.tYesM, Dn.tAndM, Dn.tOrM, Dn.tNotM, Dn.eIf, Dn.eAnd, Dn.eOr, Dn.eNot, Dn.U1, Dn.U2, Dn.ob, Dn.oi, Dn.eDisp, Dn.tms, Dn.tupO, Dn.lstO, Dn.isStrD, Dn.isiO, Dn.isiB, Dn.inO, Dn.memD, Dn.eqvD, Dn.eqvL, Dn.cmpOk, Dn.plainD, Dn.plainL, Dn.depD, Dn.depL, Dn.eqO, Dn.neO, Dn.ixO, Dn.atD, Dn.ixNat, Dn.lenO, Dn.ltO, Dn.leO, Dn.gtO, Dn.geO, Dn.eChain, Dn.isO, Dn.notIsO, Dn.isNoneB, Dn.notO, Dn.ninO, Dn.eCall, Dn.callF, Dn.lend, Dn.giveBack, Dn.seqOf, Dn.wipeS, Dn.backS, Dn.gN, Dn.eMut, Dn.tupleO, Dn.listO, Dn.eCut, Dn.pNone, Dn.pSome, Dn.cutO, Function.comp_def, -List.map_map], rfl, he y hy, rfl, rfl⟩
theorem vehicles_ok (m : Nat) (s : List D) (n : Nat) (hs : SrcOk m s) (hm : m ≤ 100000000) (h1 : 1 ≤ n) (hn : n ≤ 160) :
    ∃ (ys : List Str) (s' : List D), f__law_vehicles [.lst s, .d (.int n)] = .ret (.lst (ys.map .str)) [some (.lst s'), none] ∧ (∀ y ∈ ys, carOk y = true) ∧ ys.Nodup ∧ ys.length = n ∧ SrcOk (m + 1 + n) s' := by
  have hd := draw_eq hs (l := 4) (by omega) (by decide) (by decide)
  obtain ⟨r0, r1⟩ := dR_le hs (l := 4) (by decide)
  have hs1 := dS_ok hs (l := 4) (by decide)
  generalize hst : dR s 4 = st at hd r0 r1
  generalize dS s 4 = s1 at hd hs1
  let two' : List D := (List.range n).map fun k => .str (two (k / 26) (k % 26))
  have a1 : sSet 2 (eC (D.str "abcdefghijklmnopqrstuvwxyz")) (lent [.lst s, .d (.int n)]) (V7 s n none none none none none) = .nx (V7 s n (some (.d (.str az))) none none none none) := by simp [Dn.run, Dn.lent, Dn.outsL, Dn.sCons, Dn.sIf, Dn.sRet, Dn.sRetV, Dn.sRetN, Dn.sSet, Dn.sExpr, Dn.sNil, Dn.sRaise, Dn.put, Dn.eC, Dn.eVar, Dn.eMove, Dn.bVar, Dn.bVal, Dn.e1, Dn.e2, Dn.e2T, Dn.eN, Dn.aNil, Dn.aCons, Dn.rd, Dn.rdAll, Dn.ofOp, Dn.view, Dn.isOpen, Dn.asBool, Dn.tVal, Dn.tYesM, Dn.tAndM, Dn.tOrM, Dn.tNotM, Dn.eIf, Dn.eAnd, Dn.eOr, Dn.eNot, Dn.U1, Dn.U2, Dn.ob, Dn.oi, Dn.eDisp, Dn.tms, Dn.tupO, Dn.lstO, Dn.isStrD, Dn.isiO, Dn.isiB, Dn.inO, Dn.memD, Dn.eqvD, Dn.eqvL, Dn.cmpOk, Dn.plainD, Dn.plainL, Dn.depD, Dn.depL, Dn.eqO, Dn.neO, Dn.ixO, Dn.atD, Dn.ixNat, Dn.lenO, Dn.ltO, Dn.leO, Dn.gtO, Dn.geO, Dn.eChain, Dn.isO, Dn.notIsO, Dn.isNoneB, Dn.notO, Dn.ninO, Dn.eCall, Dn.callF, Dn.lend, Dn.giveBack, Dn.seqOf, Dn.wipeS, Dn.backS, Dn.gN, Dn.eMut, Dn.tupleO, Dn.listO, Dn.eCut, Dn.pNone, Dn.pSome, Dn.cutO, Function.comp_def, -List.map_map, az]
  have a2 : sSet 3 (eLc (iN rangeOp (aCons (bVar 1) (aNil))) [5] (gN 5) (tYesM) (e2 addO (bVal (e2 ixO (bVar 2) (bVal (e2 fdivO (bVar 5) (bVal (eC (D.int 26))))))) (bVal (e2 ixO (bVar 2) (bVal (e2 modO (bVar 5) (bVal (eC (D.int 26))))))))) (lent [.lst s, .d (.int n)]) (V7 s n (some (.d (.str az))) none none none none)
      = .nx (V7 s n (some (.d (.str az))) (some (.lst two')) none none none) := by
    unfold sSet
    rw [veh_names s n hn]
    simp [Dn.run, Dn.lent, Dn.outsL, Dn.sCons, Dn.sIf, Dn.sRet, Dn.sRetV, Dn.sRetN, Dn.sSet, Dn.sExpr, Dn.sNil, Dn.sRaise, Dn.put, Dn.eC, Dn.eVar, Dn.eMove, Dn.bVar, Dn.bVal, Dn.e1, Dn.e2, Dn.e2T, Dn.eN, Dn.aNil, Dn.aCons, Dn.rd, Dn.rdAll, Dn.ofOp, Dn.view, Dn.isOpen, Dn.asBool, Dn.tVal, Dn.tYesM, Dn.tAndM, Dn.tOrM, Dn.tNotM, Dn.eIf, Dn.eAnd, Dn.eOr, Dn.eNot, Dn.U1, Dn.U2, Dn.ob, Dn.oi, Dn.eDisp, Dn.tms, Dn.tupO, Dn.lstO, Dn.isStrD, Dn.isiO, Dn.isiB, Dn.inO, Dn.memD, Dn.eqvD, Dn.eqvL, Dn.cmpOk, Dn.plainD, Dn.plainL, Dn.depD, Dn.depL, Dn.eqO, Dn.neO, Dn.ixO, Dn.atD, Dn.ixNat, Dn.lenO, Dn.ltO, Dn.leO, Dn.gtO, Dn.geO, Dn.eChain, Dn.isO, Dn.notIsO, Dn.isNoneB, Dn.notO, Dn.ninO, Dn.eCall, Dn.callF, Dn.lend, Dn.giveBack, Dn.seqOf, Dn.wipeS, Dn.backS, Dn.gN, Dn.eMut, Dn.tupleO, Dn.listO, Dn.eCut, Dn.pNone, Dn.pSome, Dn.cutO, Function.comp_def, -List.map_map, two']
  have a3 : sSet 4 (eCall 2 f__law_draw (aCons (bVar 0) (aCons (bVal (eC (D.int 4))) (aNil)))) (lent [.lst s, .d (.int n)]) (V7 s n (some (.d (.str az))) (some (.lst two')) none none none) = .nx (V7 s1 n (some (.d (.str az))) (some (.lst two')) (some (.d (.int st))) none none) := by
    simp [Dn.run, Dn.lent, Dn.outsL, Dn.sCons, Dn.sIf, Dn.sRet, Dn.sRetV, Dn.sRetN, Dn.sSet, Dn.sExpr, Dn.sNil, Dn.sRaise, Dn.put, Dn.eC, Dn.eVar, Dn.eMove, Dn.bVar, Dn.bVal, Dn.e1, Dn.e2, Dn.e2T, Dn.eN, Dn.aNil, Dn.aCons, Dn.rd, Dn.rdAll, Dn.ofOp, Dn.view, Dn.isOpen, Dn.asBool, Dn.tVal, Dn.tYesM, Dn.tAndM, Dn.tOrM, Dn.tNotM, Dn.eIf, Dn.eAnd, Dn.eOr, Dn.eNot, Dn.U1, Dn.U2, Dn.ob, Dn.oi, Dn.eDisp, Dn.tms, Dn.tupO, Dn.lstO, Dn.isStrD, Dn.isiO, Dn.isiB, Dn.inO, Dn.memD, Dn.eqvD, Dn.eqvL, Dn.cmpOk, Dn.plainD, Dn.plainL, Dn.depD, Dn.depL, Dn.eqO, Dn.neO, Dn.ixO, Dn.atD, Dn.ixNat, Dn.lenO, Dn.ltO, Dn.leO, Dn.gtO, Dn.geO, Dn.eChain, Dn.isO, Dn.notIsO, Dn.isNoneB, Dn.notO, Dn.ninO, Dn.eCall, Dn.callF, Dn.lend, Dn.giveBack, Dn.seqOf, Dn.wipeS, Dn.backS, Dn.gN, Dn.eMut, Dn.tupleO, Dn.listO, Dn.eCut, Dn.pNone, Dn.pSome, Dn.cutO, Function.comp_def, -List.map_map, hd]
  -- the three styles
  let B2 : List Str := (List.range n).map fun k => two (k / 26) (k % 26)
  have hB : two' = B2.map .str := by simp [two', B2]
  have lB : B2.length ≤ 1000000 := by simp [B2]; omega
  have twoB : ∀ y ∈ B2, ∃ k, k < n ∧ y = two (k / 26) (k % 26) := fun y hy => by
    obtain ⟨k, hk, rfl⟩ := List.mem_map.mp hy
    exact ⟨k, List.mem_range.mp hk, rfl⟩
  have key : ∃ δ, sCons (sIf (tVal (e2 eqO (bVar 4) (bVal (eC (D.int 0))))) (sSet 3 (eLcH 3 [6] (gN 6) (tYesM) (e2 addO (bVal (eC (D.str "zy"))) (bVar 6)))) (sNil)) (sCons (sIf (tVal (e2 eqO (bVar 4) (bVal (eC (D.int 1))))) (sSet 3 (eLcH 3 [6] (gN 6) (tYesM) (e2 addO (bVal (e2 ixO (bVar 6) (bVal (eC (D.int 1))))) (bVal (e2 ixO (bVar 6) (bVal (eC (D.int 0)))))))) (sNil)) (sCons (sIf (tVal (e2 eqO (bVar 4) (bVal (eC (D.int 2))))) (sSet 3 (eCut cutO (bVal (e2 addO (bVal (eDisp lstO (aCons (bVal (eC (D.str "in"))) (aCons (bVal (eC (D.str "out"))) (aCons (bVal (eC (D.str "l"))) (aCons (bVal (eC (D.str "r"))) (aCons (bVal (eC (D.str "a"))) (aCons (bVal (eC (D.str "zzzz"))) (aCons (bVal (eC (D.str "aaaa"))) (aCons (bVal (eC (D.str "none"))) (aCons (bVal (eC (D.str "x"))) (aNil)))))))))))) (bVal (eLcH 3 [6] (gN 6) (tYesM) (e2 addO (bVar 6) (bVal (eC (D.str "q")))))))) (pNone) (pSome (eVar 1)))) (sNil)) (sRet (eCall 2 f__law_mixed (aCons (bVar 0) (aCons (bVar 3) (aNil)))))))
      (lent [.lst s, .d (.int n)]) (V7 s1 n (some (.d (.str az))) (some (.lst two')) (some (.d (.int st))) none none) = .rt (.lst (mixY ((names st n).map D.str).length s1 ((names st n).map .str))) δ ∧ outsL [.lst s, .d (.int n)] δ = [some (.lst (mixS ((names st n).map D.str).length s1 ((names st n).map .str))), none] := by
    have hlen := names_len st n
    have hmx := mixed_ok (m + 1) s1 ((names st n).map .str) hs1 (by rw [List.length_map, hlen]; omega) (by rw [List.length_map, hlen]; omega)
    have last : sRet (eCall 2 f__law_mixed (aCons (bVar 0) (aCons (bVar 3) (aNil)))) (lent [.lst s, .d (.int n)]) (V7 s1 n (some (.d (.str az))) (some (.lst ((names st n).map .str))) (some (.d (.int st))) none none) = .rt (.lst (mixY ((names st n).map D.str).length s1 ((names st n).map .str))) (V7 (mixS ((names st n).map D.str).length s1 ((names st n).map .str)) n (some (.d (.str az))) (some (.lst ((names st n).map .str))) (some (.d (.int st))) none none) := by
      generalize hN : (names st n).map D.str = N at hmx
      simp [Dn.run, Dn.lent, Dn.outsL, Dn.sCons, Dn.sIf, Dn.sRet, Dn.sRetV, Dn.sRetN, Dn.sSet, Dn.sExpr, Dn.sNil, Dn.sRaise, Dn.put, Dn.eC, Dn.eVar, Dn.eMove, Dn.bVar, Dn.bVal, Dn.e1, Dn.e2, Dn.e2T, Dn.eN, Dn.aNil, Dn.aCons, Dn.rd, Dn.rdAll, Dn.ofOp, Dn.view, Dn.isOpen, Dn.asBool, Dn.tVal, Dn.tYesM, Dn.tAndM, Dn.tOrM, Dn.tNotM, Dn.eIf, Dn.eAnd, Dn.eOr, Dn.eNot, Dn.U1, Dn.U2, Dn.ob, Dn.oi, Dn.eDisp, Dn.tms, Dn.tupO, Dn.lstO, Dn.isStrD, Dn.isiO, Dn.isiB, Dn.inO, Dn.memD, Dn.eqvD, Dn.eqvL, Dn.cmpOk, Dn.plainD, Dn.plainL, Dn.depD, Dn.depL, Dn.eqO, Dn.neO, Dn.ixO, Dn.atD, Dn.ixNat, Dn.lenO, Dn.ltO, Dn.leO, Dn.gtO, Dn.geO, Dn.eChain, Dn.isO, Dn.notIsO, Dn.isNoneB, Dn.notO, Dn.ninO, Dn.eCall, Dn.callF, Dn.lend, Dn.giveBack, Dn.seqOf, Dn.wipeS, Dn.backS, Dn.gN, Dn.eMut, Dn.tupleO, Dn.listO, Dn.eCut, Dn.pNone, Dn.pSome, Dn.cutO, Function.comp_def, -List.map_map, hmx]
    refine ⟨V7 (mixS ((names st n).map D.str).length s1 ((names st n).map .str)) n (some (.d (.str az))) (some (.lst ((names st n).map .str))) (some (.d (.int st))) none none, ?_, by simp [Dn.run, Dn.lent, Dn.outsL, Dn.sCons, Dn.sIf, Dn.sRet, Dn.sRetV, Dn.sRetN, Dn.sSet, Dn.sExpr, Dn.sNil, Dn.sRaise, Dn.put, Dn.eC, Dn.eVar, Dn.eMove, Dn.bVar, Dn.bVal, Dn.e1, Dn.e2, Dn.e2T, Dn.eN, Dn.aNil, Dn.aCons, Dn.rd, Dn.rdAll, Dn.ofOp, Dn.view, Dn.isOpen, Dn.asBool, Dn.tVal, Dn.tYesM, Dn.tAndM, Dn.tOrM, Dn.tNotM, Dn.eIf, Dn.eAnd, Dn.eOr, Dn.eNot, Dn.U1, Dn.U2, Dn.ob, Dn.oi, Dn.eDisp, Dn.tms, Dn.tupO, Dn.lstO, Dn.isStrD, Dn.isiO, Dn.isiB, Dn.inO, Dn.memD, Dn.eqvD, Dn.eqvL, Dn.cmpOk, Dn.plainD, Dn.plainL, Dn.depD, Dn.depL, Dn.eqO, Dn.neO, Dn.ixO, Dn.atD, Dn.ixNat, Dn.lenO, Dn.ltO, Dn.leO, Dn.gtO, Dn.geO, Dn.eChain, Dn.isO, Dn.notIsO, Dn.isNoneB, Dn.notO, Dn.ninO, Dn.eCall, Dn.callF, Dn.lend, Dn.giveBack, Dn.seqOf, Dn.wipeS, Dn.backS, Dn.gN, Dn.eMut, Dn.tupleO, Dn.listO, Dn.eCut, Dn.pNone, Dn.pSome, Dn.cutO, Function.comp_def, -List.map_map]⟩
    rw [hB]
    by_cases c0 : st = 0
    · subst c0
      have h3 := veh_map (s := s1) (c := n) (l := some (.d (.str az))) (ys := B2) (st := some (.d (.int 0))) (e := e2 addO (bVal (eC (D.str "zy"))) (bVar 6)) (R := fun y => "zy" ++ y) lB (fun y hy => by
        obtain ⟨k, hk, rfl⟩ := twoB y hy
        have h5 : addO (.str "zy") (.str (two (k / 26) (k % 26))) = some (.d (.str ("zy" ++ two (k / 26) (k % 26)))) := addO_str (by rw [two_len]; decide)
        simp [Dn.run, Dn.lent, Dn.outsL, Dn.sCons, Dn.sIf, Dn.sRet, Dn.sRetV, Dn.sRetN, Dn.sSet, Dn.sExpr, Dn.sNil, Dn.sRaise, Dn.put, Dn.eC, Dn.eVar, Dn.eMove, Dn.bVar, Dn.bVal, Dn.e1, Dn.e2, Dn.e2T, Dn.eN, Dn.aNil, Dn.aCons, Dn.rd, Dn.rdAll, Dn.ofOp, Dn.view, Dn.isOpen, Dn.asBool, Dn.tVal, Dn.tYesM, Dn.tAndM, Dn.tOrM, Dn.tNotM, Dn.eIf, Dn.eAnd, Dn.eOr, Dn.eNot, Dn.U1, Dn.U2, Dn.ob, Dn.oi, Dn.eDisp, Dn.tms, Dn.tupO, Dn.lstO, Dn.isStrD, Dn.isiO, Dn.isiB, Dn.inO, Dn.memD, Dn.eqvD, Dn.eqvL, Dn.cmpOk, Dn.plainD, Dn.plainL, Dn.depD, Dn.depL, Dn.eqO, Dn.neO, Dn.ixO, Dn.atD, Dn.ixNat, Dn.lenO, Dn.ltO, Dn.leO, Dn.gtO, Dn.geO, Dn.eChain, Dn.isO, Dn.notIsO, Dn.isNoneB, Dn.notO, Dn.ninO, Dn.eCall, Dn.callF, Dn.lend, Dn.giveBack, Dn.seqOf, Dn.wipeS, Dn.backS, Dn.gN, Dn.eMut, Dn.tupleO, Dn.listO, Dn.eCut, Dn.pNone, Dn.pSome, Dn.cutO, Function.comp_def, -List.map_map, h5])
      have hN : (names 0 n).map D.str = B2.map fun y => D.str ("zy" ++ y) := by
        simp [names, B2, nameK]
      rw [hN] at last ⊢
      refine (seq_nx (δ1 := V7 s1 n (some (.d (.str az))) (some (.lst (B2.map fun y => D.str ("zy" ++ y)))) (some (.d (.int 0))) none none) ?_).trans ?_
      · simp [Dn.run, Dn.lent, Dn.outsL, Dn.sCons, Dn.sIf, Dn.sRet, Dn.sRetV, Dn.sRetN, Dn.sSet, Dn.sExpr, Dn.sNil, Dn.sRaise, Dn.put, Dn.eC, Dn.eVar, Dn.eMove, Dn.bVar, Dn.bVal, Dn.e1, Dn.e2, Dn.e2T, Dn.eN, Dn.aNil, Dn.aCons, Dn.rd, Dn.rdAll, Dn.ofOp, Dn.view, Dn.isOpen, Dn.asBool, Dn.tVal, Dn.tYesM, Dn.tAndM, Dn.tOrM, Dn.tNotM, Dn.eIf, Dn.eAnd, Dn.eOr, Dn.eNot, Dn.U1, Dn.U2, Dn.ob, Dn.oi, Dn.eDisp, Dn.tms, Dn.tupO, Dn.lstO, Dn.isStrD, Dn.isiO, Dn.isiB, Dn.inO, Dn.memD, Dn.eqvD, Dn.eqvL, Dn.cmpOk, Dn.plainD, Dn.plainL, Dn.depD, Dn.depL, Dn.eqO, Dn.neO, Dn.ixO, Dn.atD, Dn.ixNat, Dn.lenO, Dn.ltO, Dn.leO, Dn.gtO, Dn.geO, Dn.eChain, Dn.isO, Dn.notIsO, Dn.isNoneB, Dn.notO, Dn.ninO, Dn.eCall, Dn.callF, Dn.lend, Dn.giveBack, Dn.seqOf, Dn.wipeS, Dn.backS, Dn.gN, Dn.eMut, Dn.tupleO, Dn.listO, Dn.eCut, Dn.pNone, Dn.pSome, Dn.cutO, Function.comp_def, -List.map_map, h3]
      · refine (seq_nx (δ1 := V7 s1 n (some (.d (.str az))) (some (.lst (B2.map fun y => D.str ("zy" ++ y)))) (some (.d (.int 0))) none none) (by simp [Dn.run, Dn.lent, Dn.outsL, Dn.sCons, Dn.sIf, Dn.sRet, Dn.sRetV, Dn.sRetN, Dn.sSet, Dn.sExpr, Dn.sNil, Dn.sRaise, Dn.put, Dn.eC, Dn.eVar, Dn.eMove, Dn.bVar, Dn.bVal, Dn.e1, Dn.e2, Dn.e2T, Dn.eN, Dn.aNil, Dn.aCons, Dn.rd, Dn.rdAll, Dn.ofOp, Dn.view, Dn.isOpen, Dn.asBool, Dn.tVal, Dn.tYesM, Dn.tAndM, Dn.tOrM, Dn.tNotM, Dn.eIf, Dn.eAnd, Dn.eOr, Dn.eNot, Dn.U1, Dn.U2, Dn.ob, Dn.oi, Dn.eDisp, Dn.tms, Dn.tupO, Dn.lstO, Dn.isStrD, Dn.isiO, Dn.isiB, Dn.inO, Dn.memD, Dn.eqvD, Dn.eqvL, Dn.cmpOk, Dn.plainD, Dn.plainL, Dn.depD, Dn.depL, Dn.eqO, Dn.neO, Dn.ixO, Dn.atD, Dn.ixNat, Dn.lenO, Dn.ltO, Dn.leO, Dn.gtO, Dn.geO, Dn.eChain, Dn.isO, Dn.notIsO, Dn.isNoneB, Dn.notO, Dn.ninO, Dn.eCall, Dn.callF, Dn.lend, Dn.giveBack, Dn.seqOf, Dn.wipeS, Dn.backS, Dn.gN, Dn.eMut, Dn.tupleO, Dn.listO, Dn.eCut, Dn.pNone, Dn.pSome, Dn.cutO, Function.comp_def, -List.map_map])).trans ?_
        refine (seq_nx (δ1 := V7 s1 n (some (.d (.str az))) (some (.lst (B2.map fun y => D.str ("zy" ++ y)))) (some (.d (.int 0))) none none) (by simp [Dn.run, Dn.lent, Dn.outsL, Dn.sCons, Dn.sIf, Dn.sRet, Dn.sRetV, Dn.sRetN, Dn.sSet, Dn.sExpr, Dn.sNil, Dn.sRaise, Dn.put, Dn.eC, Dn.eVar, Dn.eMove, Dn.bVar, Dn.bVal, Dn.e1, Dn.e2, Dn.e2T, Dn.eN, Dn.aNil, Dn.aCons, Dn.rd, Dn.rdAll, Dn.ofOp, Dn.view, Dn.isOpen, Dn.asBool, Dn.tVal, Dn.tYesM, Dn.tAndM, Dn.tOrM, Dn.tNotM, Dn.eIf, Dn.eAnd, Dn.eOr, Dn.eNot, Dn.U1, Dn.U2, Dn.ob, Dn.oi, Dn.eDisp, Dn.tms, Dn.tupO, Dn.lstO, Dn.isStrD, Dn.isiO, Dn.isiB, Dn.inO, Dn.memD, Dn.eqvD, Dn.eqvL, Dn.cmpOk, Dn.plainD, Dn.plainL, Dn.depD, Dn.depL, Dn.eqO, Dn.neO, Dn.ixO, Dn.atD, Dn.ixNat, Dn.lenO, Dn.ltO, Dn.leO, Dn.gtO, Dn.geO, Dn.eChain, Dn.isO, Dn.notIsO, Dn.isNoneB, Dn.notO, Dn.ninO, Dn.eCall, Dn.callF, Dn.lend, Dn.giveBack, Dn.seqOf, Dn.wipeS, Dn.backS, Dn.gN, Dn.eMut, Dn.tupleO, Dn.listO, Dn.eCut, Dn.pNone, Dn.pSome, Dn.cutO, Function.comp_def, -List.map_map])).trans ?_
        exact last
    · by_cases c1 : st = 1
      · subst c1
        have h3 := veh_map (s := s1) (c := n) (l := some (.d (.str az))) (ys := B2) (st := some (.d (.int 1))) (e := e2 addO (bVal (e2 ixO (bVar 6) (bVal (eC (D.int 1))))) (bVal (e2 ixO (bVar 6) (bVal (eC (D.int 0)))))) (R := fun y => ⟨#[y.cps.toList.getD 1 0, y.cps.toList.getD 0 0]⟩) lB (fun y hy => by
          obtain ⟨k, hk, rfl⟩ := twoB y hy
          have i1 : ixO (.str (two (k / 26) (k % 26))) (.int 1) = some (.d (.str (sign (97 + k % 26)))) := by
            simp [ixO, two, Str.length, atD, ixNat]
          have i0 : ixO (.str (two (k / 26) (k % 26))) (.int 0) = some (.d (.str (sign (97 + k / 26)))) := by
            simp [ixO, two, Str.length, atD, ixNat]
          have h5 : addO (.str (sign (97 + k % 26))) (.str (sign (97 + k / 26))) = some (.d (.str (two (k % 26) (k / 26)))) := by
            rw [addO_str (by rw [sign_len, sign_len]; decide), sign_two]
          simp only [e2, bVal, bVar, eC, rd, view, ofOp, List.getElem?_cons_succ, List.getElem?_cons_zero, Res.bind_ok, i1, i0, h5]
          rfl)
        have hN : (names 1 n).map D.str = B2.map fun y => D.str ⟨#[y.cps.toList.getD 1 0, y.cps.toList.getD 0 0]⟩ := by
          simp [names, B2, nameK, two]
        rw [hN] at last ⊢
        refine (seq_nx (δ1 := V7 s1 n (some (.d (.str az))) (some (.lst (B2.map .str))) (some (.d (.int 1))) none none) (by simp [Dn.run, Dn.lent, Dn.outsL, Dn.sCons, Dn.sIf, Dn.sRet, Dn.sRetV, Dn.sRetN, Dn.sSet, Dn.sExpr, Dn.sNil, Dn.sRaise, Dn.put, Dn.eC, Dn.eVar, Dn.eMove, Dn.bVar, Dn.bVal, Dn.e1, Dn.e2, Dn.e2T, Dn.eN, Dn.aNil, Dn.aCons, Dn.rd, Dn.rdAll, Dn.ofOp, Dn.view, Dn.isOpen, Dn.asBool, Dn.tVal, Dn.tYesM, Dn.tAndM, Dn.tOrM, Dn.tNotM, Dn.eIf, Dn.eAnd, Dn.eOr, Dn.eNot, Dn.U1, Dn.U2, Dn.ob, Dn.oi, Dn.eDisp, Dn.tms, Dn.tupO, Dn.lstO, Dn.isStrD, Dn.isiO, Dn.isiB, Dn.inO, Dn.memD, Dn.eqvD, Dn.eqvL, Dn.cmpOk, Dn.plainD, Dn.plainL, Dn.depD, Dn.depL, Dn.eqO, Dn.neO, Dn.ixO, Dn.atD, Dn.ixNat, Dn.lenO, Dn.ltO, Dn.leO, Dn.gtO, Dn.geO, Dn.eChain, Dn.isO, Dn.notIsO, Dn.isNoneB, Dn.notO, Dn.ninO, Dn.eCall, Dn.callF, Dn.lend, Dn.giveBack, Dn.seqOf, Dn.wipeS, Dn.backS, Dn.gN, Dn.eMut, Dn.tupleO, Dn.listO, Dn.eCut, Dn.pNone, Dn.pSome, Dn.cutO, Function.comp_def, -List.map_map])).trans ?_
        refine (seq_nx (δ1 := V7 s1 n (some (.d (.str az))) (some (.lst (B2.map fun y => D.str ⟨#[y.cps.toList.getD 1 0, y.cps.toList.getD 0 0]⟩))) (some (.d (.int 1))) none none) ?_).trans ?_
        · simp [Dn.run, Dn.lent, Dn.outsL, Dn.sCons, Dn.sIf, Dn.sRet, Dn.sRetV, Dn.sRetN, Dn.sSet, Dn.sExpr, Dn.sNil, Dn.sRaise, Dn.put, Dn.eC, Dn.eVar, Dn.eMove, Dn.bVar, Dn.bVal, Dn.e1, Dn.e2, Dn.e2T, Dn.eN, Dn.aNil, Dn.aCons, Dn.rd, Dn.rdAll, Dn.ofOp, Dn.view, Dn.isOpen, Dn.asBool, Dn.tVal, Dn.tYesM, Dn.tAndM, Dn.tOrM, Dn.tNotM, Dn.eIf, Dn.eAnd, Dn.eOr, Dn.eNot, Dn.U1, Dn.U2, Dn.ob, Dn.oi, Dn.eDisp, Dn.tms, Dn.tupO, Dn.lstO, Dn.isStrD, Dn.isiO, Dn.isiB, Dn.inO, Dn.memD, Dn.eqvD, Dn.eqvL, Dn.cmpOk, Dn.plainD, Dn.plainL, Dn.depD, Dn.depL, Dn.eqO, Dn.neO, Dn.ixO, Dn.atD, Dn.ixNat, Dn.lenO, Dn.ltO, Dn.leO, Dn.gtO, Dn.geO, Dn.eChain, Dn.isO, Dn.notIsO, Dn.isNoneB, Dn.notO, Dn.ninO, Dn.eCall, Dn.callF, Dn.lend, Dn.giveBack, Dn.seqOf, Dn.wipeS, Dn.backS, Dn.gN, Dn.eMut, Dn.tupleO, Dn.listO, Dn.eCut, Dn.pNone, Dn.pSome, Dn.cutO, Function.comp_def, -List.map_map, h3]
        · refine (seq_nx (δ1 := V7 s1 n (some (.d (.str az))) (some (.lst (B2.map fun y => D.str ⟨#[y.cps.toList.getD 1 0, y.cps.toList.getD 0 0]⟩))) (some (.d (.int 1))) none none) (by simp [Dn.run, Dn.lent, Dn.outsL, Dn.sCons, Dn.sIf, Dn.sRet, Dn.sRetV, Dn.sRetN, Dn.sSet, Dn.sExpr, Dn.sNil, Dn.sRaise, Dn.put, Dn.eC, Dn.eVar, Dn.eMove, Dn.bVar, Dn.bVal, Dn.e1, Dn.e2, Dn.e2T, Dn.eN, Dn.aNil, Dn.aCons, Dn.rd, Dn.rdAll, Dn.ofOp, Dn.view, Dn.isOpen, Dn.asBool, Dn.tVal, Dn.tYesM, Dn.tAndM, Dn.tOrM, Dn.tNotM, Dn.eIf, Dn.eAnd, Dn.eOr, Dn.eNot, Dn.U1, Dn.U2, Dn.ob, Dn.oi, Dn.eDisp, Dn.tms, Dn.tupO, Dn.lstO, Dn.isStrD, Dn.isiO, Dn.isiB, Dn.inO, Dn.memD, Dn.eqvD, Dn.eqvL, Dn.cmpOk, Dn.plainD, Dn.plainL, Dn.depD, Dn.depL, Dn.eqO, Dn.neO, Dn.ixO, Dn.atD, Dn.ixNat, Dn.lenO, Dn.ltO, Dn.leO, Dn.gtO, Dn.geO, Dn.eChain, Dn.isO, Dn.notIsO, Dn.isNoneB, Dn.notO, Dn.ninO, Dn.eCall, Dn.callF, Dn.lend, Dn.giveBack, Dn.seqOf, Dn.wipeS, Dn.backS, Dn.gN, Dn.eMut, Dn.tupleO, Dn.listO, Dn.eCut, Dn.pNone, Dn.pSome, Dn.cutO, Function.comp_def, -List.map_map])).trans ?_
          exact last
      · refine (seq_nx (δ1 := V7 s1 n (some (.d (.str az))) (some (.lst (B2.map .str))) (some (.d (.int st))) none none) (by simp [Dn.run, Dn.lent, Dn.outsL, Dn.sCons, Dn.sIf, Dn.sRet, Dn.sRetV, Dn.sRetN, Dn.sSet, Dn.sExpr, Dn.sNil, Dn.sRaise, Dn.put, Dn.eC, Dn.eVar, Dn.eMove, Dn.bVar, Dn.bVal, Dn.e1, Dn.e2, Dn.e2T, Dn.eN, Dn.aNil, Dn.aCons, Dn.rd, Dn.rdAll, Dn.ofOp, Dn.view, Dn.isOpen, Dn.asBool, Dn.tVal, Dn.tYesM, Dn.tAndM, Dn.tOrM, Dn.tNotM, Dn.eIf, Dn.eAnd, Dn.eOr, Dn.eNot, Dn.U1, Dn.U2, Dn.ob, Dn.oi, Dn.eDisp, Dn.tms, Dn.tupO, Dn.lstO, Dn.isStrD, Dn.isiO, Dn.isiB, Dn.inO, Dn.memD, Dn.eqvD, Dn.eqvL, Dn.cmpOk, Dn.plainD, Dn.plainL, Dn.depD, Dn.depL, Dn.eqO, Dn.neO, Dn.ixO, Dn.atD, Dn.ixNat, Dn.lenO, Dn.ltO, Dn.leO, Dn.gtO, Dn.geO, Dn.eChain, Dn.isO, Dn.notIsO, Dn.isNoneB, Dn.notO, Dn.ninO, Dn.eCall, Dn.callF, Dn.lend, Dn.giveBack, Dn.seqOf, Dn.wipeS, Dn.backS, Dn.gN, Dn.eMut, Dn.tupleO, Dn.listO, Dn.eCut, Dn.pNone, Dn.pSome, Dn.cutO, Function.comp_def, -List.map_map, c0])).trans ?_
        refine (seq_nx (δ1 := V7 s1 n (some (.d (.str az))) (some (.lst (B2.map .str))) (some (.d (.int st))) none none) (by simp [Dn.run, Dn.lent, Dn.outsL, Dn.sCons, Dn.sIf, Dn.sRet, Dn.sRetV, Dn.sRetN, Dn.sSet, Dn.sExpr, Dn.sNil, Dn.sRaise, Dn.put, Dn.eC, Dn.eVar, Dn.eMove, Dn.bVar, Dn.bVal, Dn.e1, Dn.e2, Dn.e2T, Dn.eN, Dn.aNil, Dn.aCons, Dn.rd, Dn.rdAll, Dn.ofOp, Dn.view, Dn.isOpen, Dn.asBool, Dn.tVal, Dn.tYesM, Dn.tAndM, Dn.tOrM, Dn.tNotM, Dn.eIf, Dn.eAnd, Dn.eOr, Dn.eNot, Dn.U1, Dn.U2, Dn.ob, Dn.oi, Dn.eDisp, Dn.tms, Dn.tupO, Dn.lstO, Dn.isStrD, Dn.isiO, Dn.isiB, Dn.inO, Dn.memD, Dn.eqvD, Dn.eqvL, Dn.cmpOk, Dn.plainD, Dn.plainL, Dn.depD, Dn.depL, Dn.eqO, Dn.neO, Dn.ixO, Dn.atD, Dn.ixNat, Dn.lenO, Dn.ltO, Dn.leO, Dn.gtO, Dn.geO, Dn.eChain, Dn.isO, Dn.notIsO, Dn.isNoneB, Dn.notO, Dn.ninO, Dn.eCall, Dn.callF, Dn.lend, Dn.giveBack, Dn.seqOf, Dn.wipeS, Dn.backS, Dn.gN, Dn.eMut, Dn.tupleO, Dn.listO, Dn.eCut, Dn.pNone, Dn.pSome, Dn.cutO, Function.comp_def, -List.map_map, c1])).trans ?_
        by_cases c2 : st = 2
        · subst c2
          have h3 := veh_map (s := s1) (c := n) (l := some (.d (.str az))) (ys := B2) (st := some (.d (.int 2))) (e := e2 addO (bVar 6) (bVal (eC (D.str "q")))) (R := fun y => y ++ "q") lB (fun y hy => by
            obtain ⟨k, hk, rfl⟩ := twoB y hy
            have h5 : addO (.str (two (k / 26) (k % 26))) (.str "q") = some (.d (.str (two (k / 26) (k % 26) ++ "q"))) := addO_str (by rw [two_len]; decide)
            simp [Dn.run, Dn.lent, Dn.outsL, Dn.sCons, Dn.sIf, Dn.sRet, Dn.sRetV, Dn.sRetN, Dn.sSet, Dn.sExpr, Dn.sNil, Dn.sRaise, Dn.put, Dn.eC, Dn.eVar, Dn.eMove, Dn.bVar, Dn.bVal, Dn.e1, Dn.e2, Dn.e2T, Dn.eN, Dn.aNil, Dn.aCons, Dn.rd, Dn.rdAll, Dn.ofOp, Dn.view, Dn.isOpen, Dn.asBool, Dn.tVal, Dn.tYesM, Dn.tAndM, Dn.tOrM, Dn.tNotM, Dn.eIf, Dn.eAnd, Dn.eOr, Dn.eNot, Dn.U1, Dn.U2, Dn.ob, Dn.oi, Dn.eDisp, Dn.tms, Dn.tupO, Dn.lstO, Dn.isStrD, Dn.isiO, Dn.isiB, Dn.inO, Dn.memD, Dn.eqvD, Dn.eqvL, Dn.cmpOk, Dn.plainD, Dn.plainL, Dn.depD, Dn.depL, Dn.eqO, Dn.neO, Dn.ixO, Dn.atD, Dn.ixNat, Dn.lenO, Dn.ltO, Dn.leO, Dn.gtO, Dn.geO, Dn.eChain, Dn.isO, Dn.notIsO, Dn.isNoneB, Dn.notO, Dn.ninO, Dn.eCall, Dn.callF, Dn.lend, Dn.giveBack, Dn.seqOf, Dn.wipeS, Dn.backS, Dn.gN, Dn.eMut, Dn.tupleO, Dn.listO, Dn.eCut, Dn.pNone, Dn.pSome, Dn.cutO, Function.comp_def, -List.map_map, h5])
          have hN : (names 2 n).map D.str = ((nine.map D.str) ++ B2.map fun y => D.str (y ++ "q")).take n := by
            simp [names, B2, List.map_take, Function.comp_def]
          have hc : cutL ((nine.map D.str) ++ B2.map fun y => D.str (y ++ "q")) none (some (n : Int)) = (names 2 n).map D.str := by
            rw [hN]
            have hlZ : ((nine.map D.str) ++ B2.map fun y => D.str (y ++ "q")).length = 9 + n := by simp [nine, B2]; omega
            unfold cutL bnd
            rw [hlZ]
            simp only [if_neg (show ¬ (n : Int) < 0 by omega), Int.toNat_natCast, Nat.min_eq_left (show n ≤ 9 + n by omega), Nat.sub_zero, List.drop_zero]
          have hq : (nine.map D.str).length + (B2.map fun y => D.str (y ++ "q")).length ≤ 1000000 := by simp [nine, B2]; omega
          have ha : addO (.lst (nine.map D.str)) (.lst (B2.map fun y => D.str (y ++ "q"))) = some (.lst ((nine.map D.str) ++ B2.map fun y => D.str (y ++ "q"))) := by
            simp only [addO]; rw [if_pos hq]
          refine (seq_nx (δ1 := V7 s1 n (some (.d (.str az))) (some (.lst ((names 2 n).map .str))) (some (.d (.int 2))) none none) ?_).trans last
          generalize hZ : (B2.map fun y => D.str (y ++ "q")) = Z at *
          have ha' : addO (.lst [.str "in", .str "out", .str "l", .str "r", .str "a", .str "zzzz", .str "aaaa", .str "none", .str "x"]) (.lst Z) = some (.lst ((nine.map D.str) ++ Z)) := ha
          simp [Dn.run, Dn.lent, Dn.outsL, Dn.sCons, Dn.sIf, Dn.sRet, Dn.sRetV, Dn.sRetN, Dn.sSet, Dn.sExpr, Dn.sNil, Dn.sRaise, Dn.put, Dn.eC, Dn.eVar, Dn.eMove, Dn.bVar, Dn.bVal, Dn.e1, Dn.e2, Dn.e2T, Dn.eN, Dn.aNil, Dn.aCons, Dn.rd, Dn.rdAll, Dn.ofOp, Dn.view, Dn.isOpen, Dn.asBool, Dn.tVal, Dn.tYesM, Dn.tAndM, Dn.tOrM, Dn.tNotM, Dn.eIf, Dn.eAnd, Dn.eOr, Dn.eNot, Dn.U1, Dn.U2, Dn.ob, Dn.oi, Dn.eDisp, Dn.tms, Dn.tupO, Dn.lstO, Dn.isStrD, Dn.isiO, Dn.isiB, Dn.inO, Dn.memD, Dn.eqvD, Dn.eqvL, Dn.cmpOk, Dn.plainD, Dn.plainL, Dn.depD, Dn.depL, Dn.eqO, Dn.neO, Dn.ixO, Dn.atD, Dn.ixNat, Dn.lenO, Dn.ltO, Dn.leO, Dn.gtO, Dn.geO, Dn.eChain, Dn.isO, Dn.notIsO, Dn.isNoneB, Dn.notO, Dn.ninO, Dn.eCall, Dn.callF, Dn.lend, Dn.giveBack, Dn.seqOf, Dn.wipeS, Dn.backS, Dn.gN, Dn.eMut, Dn.tupleO, Dn.listO, Dn.eCut, Dn.pNone, Dn.pSome, Dn.cutO, Function.comp_def, -List.map_map, h3, ha', hc]
        · have hN : (names st n).map D.str = B2.map D.str := by
            simp [names, B2, nameK, c0, c1, c2]
          rw [hN] at last ⊢
          exact (seq_nx (δ1 := V7 s1 n (some (.d (.str az))) (some (.lst (B2.map .str))) (some (.d (.int st))) none none) (by simp [Dn.run, Dn.lent, Dn.outsL, Dn.sCons, Dn.sIf, Dn.sRet, Dn.sRetV, Dn.sRetN, Dn.sSet, Dn.sExpr, Dn.sNil, Dn.sRaise, Dn.put, Dn.eC, Dn.eVar, Dn.eMove, Dn.bVar, Dn.bVal, Dn.e1, Dn.e2, Dn.e2T, Dn.eN, Dn.aNil, Dn.aCons, Dn.rd, Dn.rdAll, Dn.ofOp, Dn.view, Dn.isOpen, Dn.asBool, Dn.tVal, Dn.tYesM, Dn.tAndM, Dn.tOrM, Dn.tNotM, Dn.eIf, Dn.eAnd, Dn.eOr, Dn.eNot, Dn.U1, Dn.U2, Dn.ob, Dn.oi, Dn.eDisp, Dn.tms, Dn.tupO, Dn.lstO, Dn.isStrD, Dn.isiO, Dn.isiB, Dn.inO, Dn.memD, Dn.eqvD, Dn.eqvL, Dn.cmpOk, Dn.plainD, Dn.plainL, Dn.depD, Dn.depL, Dn.eqO, Dn.neO, Dn.ixO, Dn.atD, Dn.ixNat, Dn.lenO, Dn.ltO, Dn.leO, Dn.gtO, Dn.geO, Dn.eChain, Dn.isO, Dn.notIsO, Dn.isNoneB, Dn.notO, Dn.ninO, Dn.eCall, Dn.callF, Dn.lend, Dn.giveBack, Dn.seqOf, Dn.wipeS, Dn.backS, Dn.gN, Dn.eMut, Dn.tupleO, Dn.listO, Dn.eCut, Dn.pNone, Dn.pSome, Dn.cutO, Function.comp_def, -List.map_map, c2])).trans last
  obtain ⟨δ, k1, k2⟩ := key
  have hlen := names_len st n
  have hp := mixY_perm ((names st n).map D.str).length (m + 1) s1 _ hs1 rfl
  obtain ⟨ys, hys⟩ : ∃ ys : List Str, mixY ((names st n).map D.str).length s1 ((names st n).map .str) = ys.map .str := by
    have : ∀ d ∈ mixY ((names st n).map D.str).length s1 ((names st n).map .str), ∃ y, d = D.str y := fun d hd => by
      obtain ⟨y, _, rfl⟩ := List.mem_map.mp (hp.mem_iff.mp hd)
      exact ⟨y, rfl⟩
    generalize mixY ((names st n).map D.str).length s1 ((names st n).map .str) = M at this
    clear hp k1
    induction M with
    | nil => exact ⟨[], rfl⟩
    | cons d M ih =>
      obtain ⟨y, rfl⟩ := this d (by simp)
      obtain ⟨ys, rfl⟩ := ih fun d hd => this d (by simp [hd])
      exact ⟨y :: ys, rfl⟩
  have pr : ys.Perm (names st n) := by
    rw [hys] at hp
    have := hp.map (fun d => match d with | D.str y => y | _ => Str.empty)
    simpa [List.map_map, Function.comp_def] using this
  refine ⟨ys, mixS ((names st n).map D.str).length s1 ((names st n).map .str), ?_, fun y hy => names_ok st n hn y (pr.mem_iff.mp hy), pr.nodup_iff.mpr (names_nodup st n hn), by rw [pr.length_eq, hlen], ?_⟩
  · refine (run_rt (o := .lst (ys.map .str)) (δ := δ) ?_ rfl).trans (by rw [k2])
    show sCons _ _ _ (V7 s n none none none none none) = _
    rw [seq_nx a1, seq_nx a2, seq_nx a3, k1, hys]
  · have := mixS_ok ((names st n).map D.str).length (m + 1) s1 ((names st n).map .str) hs1 rfl
    rw [List.length_map, hlen] at this
    rw [List.length_map, hlen]
    exact this
end Tk46
set_option autoImplicit false
set_option linter.all false
set_option maxRecDepth 100000
namespace Tk46
open PySem Dn
theorem ded_fold : ∀ (ks acc : List L2.Key), (acc ++ ks).Nodup → ks.foldl addK acc = acc ++ ks
  | [], acc, _ => by simp
  | k :: ks, acc, h => by
    have hk : hasK acc k = false := by
      unfold hasK
      rw [List.any_eq_false]
      intro j hj
      simp only [decide_eq_true_eq]
      intro e
      subst e
      exact (List.nodup_append.mp h).2.2 j hj j (by simp) rfl
    rw [List.foldl_cons]
    unfold addK
    rw [hk, if_neg Bool.false_ne_true]
    have := ded_fold ks (acc ++ [k]) (by rwa [List.append_assoc, List.singleton_append])
    unfold addK at this
    rw [this, List.append_assoc, List.singleton_append]
theorem keysOf_strs : ∀ ys : List Str, keysOf (ys.map D.str) = some (ys.map Sum.inr)
  | [] => rfl
  | y :: ys => by simp only [List.map_cons, keysOf, keyD, keysOf_strs ys]
theorem inr_nodup {ys : List Str} (h : ys.Nodup) : (ys.map (Sum.inr : Str → L2.Key)).Nodup := by
  unfold List.Nodup
  rw [List.pairwise_map]
  exact h.imp fun hab e => hab (Sum.inr.inj e)
theorem distinct_nodup {ys : List Str} (h : ys.Nodup) : distinctL (ys.map D.str) = true := by
  unfold distinctL
  rw [keysOf_strs]
  simp only
  have := ded_fold (ys.map Sum.inr) [] (by simpa using inr_nodup h)
  unfold dedK
  rw [this]
  simp
def arrs (es : List Ev) : List Str := es.filterMap fun e => match e with
  | .arr x => some x
  | .dep => none
theorem carsIn_arrs : ∀ es : List Ev, carsIn (es.map evD) = (arrs es).map D.str
  | [] => rfl
  | .dep :: es => by
    have := carsIn_arrs es
    unfold carsIn at this ⊢
    rw [List.map_cons, List.filter_cons_of_neg (by decide +kernel)]
    exact this
  | .arr x :: es => by
    have := carsIn_arrs es
    unfold carsIn at this ⊢
    rw [List.map_cons, List.filter_cons_of_pos (by rfl), List.map_cons, this]
    rfl
theorem log_of {es : List Ev} (h1 : ∀ x ∈ arrs es, carOk x = true) (h2 : (arrs es).Nodup) : logB (es.map evD) = true := by
  unfold logB
  rw [carsIn_arrs, distinct_nodup h2, Bool.and_true, List.all_map, List.all_eq_true]
  intro e he
  cases e with
  | dep => decide +kernel
  | arr x =>
    have := h1 x (List.mem_filterMap.mpr ⟨.arr x, he, rfl⟩)
    simp [eventB, evD, arrD, carD, this]
theorem lane_of {ys : List Str} (h1 : ∀ x ∈ ys, carOk x = true) (h2 : ys.Nodup) : laneB (ys.map D.str) = true := by
  unfold laneB
  rw [distinct_nodup h2, Bool.and_true, List.all_map, List.all_eq_true]
  exact fun x hx => h1 x hx
theorem plain_strs : ∀ ys : List Str, plainL (ys.map D.str) = true
  | [] => rfl
  | y :: ys => by simp [plainL, plainD, plain_strs ys]
theorem arrs_append (a b : List Ev) : arrs (a ++ b) = arrs a ++ arrs b := by unfold arrs; rw [List.filterMap_append]
/-- the loop over the log's steps -/
abbrev V10 (s : List D) (f m sp h k mv w ho n : Slot) : Sl := [some (.lst s), f, m, sp, h, k, mv, w, ho, n]
def stepB : SM := sIf (tAndM (tVal (e2 neO (bVar 3) (bVal (eDisp lstO (aNil))))) (tVal (e2 gtO (bVal (eCall 2 f__law_draw (aCons (bVar 0) (aCons (bVal (eC (D.int 3))) (aNil))))) (bVal (eC (D.int 0)))))) (sExpr (eMut 4 mAppend (aCons (bVal (eDisp tupO (aCons (bVal (eC (D.str "in"))) (aCons (bVal (eMut 3 mPop aNil)) (aNil))))) (aNil)))) (sExpr (eMut 4 mAppend (aCons (bVal (eDisp tupO (aCons (bVal (eC (D.str "out"))) (aNil)))) (aNil))))
theorem step_run (lk : Nat → Bool) (m : Nat) (s : List D) (f mo k mv w ho n : Slot) (sp : List Str) (es : List Ev) (hs : SrcOk m s) (hm : m ≤ 500000000) (he : es.length ≤ 1000) :
    ∃ s' sp' e, stepB lk (V10 s f mo (some (.lst (sp.map .str))) (some (.lst (es.map evD))) k mv w ho n) = .nx (V10 s' f mo (some (.lst (sp'.map .str))) (some (.lst ((es ++ [e]).map evD))) k mv w ho n) ∧ SrcOk (m + 1) s' ∧ (arrs (es ++ [e]) ++ sp').Perm (arrs es ++ sp) := by
  have hp := plain_strs sp
  have hc : cmpOk (.lst (sp.map D.str)) (.lst []) = true := by simp [cmpOk, plainD, plainL, hp, depD, depL]
  have el : (es.map evD).length ≤ 1000000 := by simp; omega
  have hd := draw_eq hs (l := 3) (by omega) (by decide) (by decide)
  have hs1 := dS_ok hs (l := 3) (by decide)
  generalize dS s 3 = s1 at hd hs1
  generalize dR s 3 = r at hd
  by_cases hz : sp = []
  · subst hz
    refine ⟨s, [], .dep, ?_, hs.mono (by omega), ?_⟩
    · unfold stepB
      generalize hE : es.map evD = E at el
      have : (es ++ [Ev.dep]).map evD = E ++ [.tup [.str "out"]] := by rw [List.map_append, hE]; rfl
      rw [this]
      simp [Dn.run, Dn.lent, Dn.outsL, Dn.sCons, Dn.sIf, Dn.sRet, Dn.sRetV, Dn.sRetN, Dn.sSet, Dn.sExpr, Dn.sNil, Dn.sRaise, Dn.put, Dn.eC, Dn.eVar, Dn.eMove, Dn.bVar, Dn.bVal, Dn.e1, Dn.e2, Dn.e2T, Dn.eN, Dn.aNil, Dn.aCons, Dn.rd, Dn.rdAll, Dn.ofOp, Dn.view, Dn.isOpen, Dn.asBool, Dn.tVal, Dn.tYesM, Dn.tAndM, Dn.tOrM, Dn.tNotM, Dn.eIf, Dn.eAnd, Dn.eOr, Dn.eNot, Dn.U1, Dn.U2, Dn.ob, Dn.oi, Dn.eDisp, Dn.tms, Dn.tupO, Dn.lstO, Dn.isStrD, Dn.isiO, Dn.isiB, Dn.inO, Dn.memD, Dn.eqvD, Dn.eqvL, Dn.cmpOk, Dn.plainD, Dn.plainL, Dn.depD, Dn.depL, Dn.eqO, Dn.neO, Dn.ixO, Dn.atD, Dn.ixNat, Dn.lenO, Dn.ltO, Dn.leO, Dn.gtO, Dn.geO, Dn.eChain, Dn.isO, Dn.notIsO, Dn.isNoneB, Dn.notO, Dn.ninO, Dn.eCall, Dn.callF, Dn.lend, Dn.giveBack, Dn.seqOf, Dn.wipeS, Dn.backS, Dn.gN, Dn.eMut, Dn.tupleO, Dn.listO, Dn.eCut, Dn.pNone, Dn.pSome, Dn.cutO, Function.comp_def, -List.map_map, mAppend, el]
    · rw [arrs_append]
      simp [arrs]
  · have hne : eqvL (sp.map D.str) [] = false := by
      cases sp with
      | nil => exact absurd rfl hz
      | cons x sp => rfl
    by_cases hr : r > 0
    · obtain ⟨sp0, x, rfl⟩ : ∃ sp0 x, sp = sp0 ++ [x] := ⟨sp.dropLast, sp.getLast hz, (List.dropLast_concat_getLast hz).symm⟩
      refine ⟨s1, sp0, .arr x, ?_, hs1, ?_⟩
      · unfold stepB
        generalize hE : es.map evD = E at el
        have e1 : (es ++ [Ev.arr x]).map evD = E ++ [.tup [.str "in", .str x]] := by rw [List.map_append, hE]; rfl
        have ee : (sp0 ++ [x]).map D.str = sp0.map .str ++ [.str x] := by rw [List.map_append]; rfl
        rw [e1, ee]
        rw [ee] at hc hne
        have hp2 : plainL (sp0.map D.str ++ [.str x]) = true := by rw [← ee]; exact hp
        generalize hS : sp0.map D.str = S0 at hc hne hp2
        have hdep : (0 : Nat) ≤ 40 := by decide
        have ne : neO (.lst (S0 ++ [.str x])) (.lst []) = some (.d (.bl true)) := by
          unfold neO
          rw [if_pos hc]
          simp [eqvD, hne, ob]
        simp [sIf, tAndM, tVal, e2, bVar, bVal, eDisp, aNil, tms, lstO, rd, view, ofOp, asBool, ne, eCall, callF, lend, giveBack, isOpen, aCons, eC, hd, gtO, ob, hr, sExpr, eMut, mPop, mAppend, el, tupO]
      · rw [arrs_append]
        show (arrs es ++ [x] ++ sp0).Perm _
        rw [List.append_assoc]
        exact List.Perm.append_left _ (by simpa using List.perm_append_comm (l₁ := [x]) (l₂ := sp0))
    · refine ⟨s1, sp, .dep, ?_, hs1, ?_⟩
      · unfold stepB
        generalize hE : es.map evD = E at el
        have e1 : (es ++ [Ev.dep]).map evD = E ++ [.tup [.str "out"]] := by rw [List.map_append, hE]; rfl
        rw [e1]
        generalize hS : sp.map D.str = S0 at hc hne hp
        have ne : neO (.lst S0) (.lst []) = some (.d (.bl true)) := by
          unfold neO
          rw [if_pos hc]
          simp [eqvD, hne, ob]
        simp [sIf, tAndM, tVal, e2, bVar, bVal, eDisp, aNil, tms, lstO, rd, view, ofOp, asBool, ne, eCall, callF, lend, giveBack, isOpen, aCons, eC, hd, gtO, ob, hr, sExpr, eMut, mPop, mAppend, el, tupO]
      · rw [arrs_append]
        simp [arrs]
end Tk46
set_option autoImplicit false
set_option linter.all false
set_option maxRecDepth 100000
namespace Tk46
open PySem Dn
theorem steps_run (lk : Nat → Bool) (h5 : lk 5 = false) (f mo mv w ho n : Slot) : ∀ (ds : List D) (m : Nat) (s : List D) (k : Slot) (sp : List Str) (es : List Ev), SrcOk m s → m + ds.length ≤ 500000000 → es.length + ds.length ≤ 900 →
    ∃ s' sp' es' k', forL (fun d lk δ => ofG (gN 5 lk d δ) (stepB lk)) lk ds (V10 s f mo (some (.lst (sp.map .str))) (some (.lst (es.map evD))) k mv w ho n) = .nx (V10 s' f mo (some (.lst (sp'.map .str))) (some (.lst (es'.map evD))) k' mv w ho n) ∧
      SrcOk (m + ds.length) s' ∧ (arrs es' ++ sp').Perm (arrs es ++ sp) ∧ es'.length = es.length + ds.length
  | [], m, s, k, sp, es, hs, _, _ => ⟨s, sp, es, k, rfl, hs, List.Perm.refl _, rfl⟩
  | d :: ds, m, s, k, sp, es, hs, hm, he => by
    rw [List.length_cons] at hm he
    obtain ⟨s1, sp1, e, a1, a2, a3⟩ := step_run lk m s f mo (some (.d d)) mv w ho n sp es hs (by omega) (by omega)
    obtain ⟨s2, sp2, es2, k2, b1, b2, b3, b4⟩ := steps_run lk h5 f mo mv w ho n ds (m + 1) s1 (some (.d d)) sp1 (es ++ [e]) a2 (by omega) (by rw [List.length_append, List.length_singleton]; omega)
    refine ⟨s2, sp2, es2, k2, ?_, by rw [List.length_cons, show m + (ds.length + 1) = m + 1 + ds.length by omega]; exact b2, b3.trans a3, by rw [b4, List.length_append, List.length_singleton, List.length_cons]; omega⟩
    have hg : gN 5 lk d (V10 s f mo (some (.lst (sp.map .str))) (some (.lst (es.map evD))) k mv w ho n) = some (V10 s f mo (some (.lst (sp.map .str))) (some (.lst (es.map evD))) (some (.d d)) mv w ho n) := by
      unfold gN
      rw [if_neg (by simp [h5])]
      rfl
    unfold forL
    simp only [hg, ofG, a1, turnEnd]
    exact b1
/-- 'LR' drawn -/
theorem moves_lc (f mo sp hh mv w ho n : Slot) : ∀ (ds : List D) (m : Nat) (s acc : List D), SrcOk m s → m + ds.length ≤ 500000000 →
    ∃ (ys : List Str) (s' : List D), lcL [5] (gN 5) tYesM (Dn.e2 ixO (bVal (eC (D.str "LR"))) (bVal (eCall 2 f__law_draw (aCons (bVar 0) (aCons (bVal (eC (D.int 2))) (aNil)))))) ds (V10 s f mo sp hh none mv w ho n) acc = .ok (acc ++ ys.map .str) (V10 s' f mo sp hh none mv w ho n) ∧
      SrcOk (m + ds.length) s' ∧ sdB ys = true ∧ ys.length = ds.length
  | [], m, s, acc, hs, _ => ⟨[], s, by simp [lcL], hs, rfl, rfl⟩
  | d :: ds, m, s, acc, hs, hm => by
    rw [List.length_cons] at hm
    have hd := draw_eq hs (l := 2) (by omega) (by decide) (by decide)
    obtain ⟨r0, r1⟩ := dR_le hs (l := 2) (by decide)
    have hs1 := dS_ok hs (l := 2) (by decide)
    generalize dS s 2 = s1 at hd hs1
    generalize dR s 2 = r at hd r0 r1
    obtain ⟨y, hy1, hy2⟩ : ∃ y : Str, ixO (.str "LR") (.int r) = some (.d (.str y)) ∧ (y = "L" ∨ y = "R") := by
      have : r = 0 ∨ r = 1 := by omega
      rcases this with rfl | rfl
      · exact ⟨"L", by rfl, .inl rfl⟩
      · exact ⟨"R", by rfl, .inr rfl⟩
    have he : Dn.e2 ixO (bVal (eC (D.str "LR"))) (bVal (eCall 2 f__law_draw (aCons (bVar 0) (aCons (bVal (eC (D.int 2))) (aNil))))) (V10 s f mo sp hh (some (.d d)) mv w ho n) = .ok (.d (.str y)) (V10 s1 f mo sp hh (some (.d d)) mv w ho n) := by
      simp [Dn.e2, bVal, eC, eCall, callF, lend, giveBack, isOpen, aCons, aNil, bVar, hd, rd, view, ofOp, hy1]
    obtain ⟨ys, s2, b1, b2, b3, b4⟩ := moves_lc f mo sp hh mv w ho n ds (m + 1) s1 (acc ++ [.str y]) hs1 (by omega)
    refine ⟨y :: ys, s2, ?_, by rw [List.length_cons, show m + (ds.length + 1) = m + 1 + ds.length by omega]; exact b2, ?_, by simp [b4]⟩
    · unfold lcL
      have hg : gN 5 (fun i => !([5] : List Nat).contains i) d (V10 s f mo sp hh none mv w ho n) = some (V10 s f mo sp hh (some (.d d)) mv w ho n) := by simp [Dn.run, Dn.lent, Dn.outsL, Dn.sCons, Dn.sIf, Dn.sRet, Dn.sRetV, Dn.sRetN, Dn.sSet, Dn.sExpr, Dn.sNil, Dn.sRaise, Dn.put, Dn.eC, Dn.eVar, Dn.eMove, Dn.bVar, Dn.bVal, Dn.e1, Dn.e2, Dn.e2T, Dn.eN, Dn.aNil, Dn.aCons, Dn.rd, Dn.rdAll, Dn.ofOp, Dn.view, Dn.isOpen, Dn.asBool, Dn.tVal, Dn.tYesM, Dn.tAndM, Dn.tOrM, Dn.tNotM, Dn.eIf, Dn.eAnd, Dn.eOr, Dn.eNot, Dn.U1, Dn.U2, Dn.ob, Dn.oi, Dn.eDisp, Dn.tms, Dn.tupO, Dn.lstO, Dn.isStrD, Dn.isiO, Dn.isiB, Dn.inO, Dn.memD, Dn.eqvD, Dn.eqvL, Dn.cmpOk, Dn.plainD, Dn.plainL, Dn.depD, Dn.depL, Dn.eqO, Dn.neO, Dn.ixO, Dn.atD, Dn.ixNat, Dn.lenO, Dn.ltO, Dn.leO, Dn.gtO, Dn.geO, Dn.eChain, Dn.isO, Dn.notIsO, Dn.isNoneB, Dn.notO, Dn.ninO, Dn.eCall, Dn.callF, Dn.lend, Dn.giveBack, Dn.seqOf, Dn.wipeS, Dn.backS, Dn.gN, Dn.eMut, Dn.tupleO, Dn.listO, Dn.eCut, Dn.pNone, Dn.pSome, Dn.cutO, Function.comp_def, -List.map_map]
      rw [hg]
      have ht : ∀ δ, tYesM δ = Res.ok true δ := fun _ => rfl
      simp only [ht, Res.noexc_ok, Res.bind_ok, if_true, he]
      have hw : wipeS (V10 s1 f mo sp hh (some (.d d)) mv w ho n) [5] = V10 s1 f mo sp hh none mv w ho n := rfl
      rw [hw]
      show lcL _ _ _ _ ds _ (acc ++ [.str y]) = _
      rw [b1]
      simp
    · have : (y == ("L" : Str) || y == ("R" : Str)) = true := by rcases hy2 with rfl | rfl <;> rfl
      simp [sdB, this]
      simpa [sdB] using b3
/-- holes -/
theorem holes_lc (f mo sp hh k mv ho : Slot) (ws0 : Slot) : ∀ (ws : List Str) (m : Nat) (s acc : List D), SrcOk m s → m + ws.length ≤ 500000000 →
    ∃ (ps : List (Option Str)) (s' : List D), lcL [9] (gN 9) tYesM (eIf (tVal (Dn.e2 gtO (bVal (eCall 2 f__law_draw (aCons (bVar 0) (aCons (bVal (eC (D.int 3))) (aNil))))) (bVal (eC (D.int 0))))) (eVar 9) (eC D.non)) (ws.map .str) (V10 s f mo sp hh k mv ws0 ho none) acc = .ok (acc ++ ps.map pD) (V10 s' f mo sp hh k mv ws0 ho none) ∧
      SrcOk (m + ws.length) s' ∧ (∀ p ∈ ps, ∀ x, p = some x → x ∈ ws) ∧ (cars ps).Sublist ws ∧ ps.length = ws.length
  | [], m, s, acc, hs, _ => ⟨[], s, by simp [lcL], hs, by simp, by simp [cars], rfl⟩
  | x :: ws, m, s, acc, hs, hm => by
    rw [List.length_cons] at hm
    have hd := draw_eq hs (l := 3) (by omega) (by decide) (by decide)
    have hs1 := dS_ok hs (l := 3) (by decide)
    generalize dS s 3 = s1 at hd hs1
    generalize dR s 3 = r at hd
    obtain ⟨p, hp, he⟩ : ∃ p : Option Str, (p = none ∨ p = some x) ∧ eIf (tVal (Dn.e2 gtO (bVal (eCall 2 f__law_draw (aCons (bVar 0) (aCons (bVal (eC (D.int 3))) (aNil))))) (bVal (eC (D.int 0))))) (eVar 9) (eC D.non) (V10 s f mo sp hh k mv ws0 ho (some (.d (.str x)))) = .ok (.d (pD p)) (V10 s1 f mo sp hh k mv ws0 ho (some (.d (.str x)))) := by
      by_cases hr : r > 0
      · exact ⟨some x, .inr rfl, by simp [eIf, tVal, Dn.e2, bVal, eC, eCall, callF, lend, giveBack, isOpen, aCons, aNil, bVar, hd, rd, view, ofOp, gtO, ob, hr, asBool, eVar, pD]⟩
      · exact ⟨none, .inl rfl, by simp [eIf, tVal, Dn.e2, bVal, eC, eCall, callF, lend, giveBack, isOpen, aCons, aNil, bVar, hd, rd, view, ofOp, gtO, ob, hr, asBool, eVar, pD]⟩
    obtain ⟨ps, s2, b1, b2, b3, b4, b5⟩ := holes_lc f mo sp hh k mv ho ws0 ws (m + 1) s1 (acc ++ [pD p]) hs1 (by omega)
    refine ⟨p :: ps, s2, ?_, by rw [List.length_cons, show m + (ws.length + 1) = m + 1 + ws.length by omega]; exact b2, ?_, ?_, by simp [b5]⟩
    · rw [List.map_cons]
      unfold lcL
      have hg : gN 9 (fun i => !([9] : List Nat).contains i) (.str x) (V10 s f mo sp hh k mv ws0 ho none) = some (V10 s f mo sp hh k mv ws0 ho (some (.d (.str x)))) := by simp [Dn.run, Dn.lent, Dn.outsL, Dn.sCons, Dn.sIf, Dn.sRet, Dn.sRetV, Dn.sRetN, Dn.sSet, Dn.sExpr, Dn.sNil, Dn.sRaise, Dn.put, Dn.eC, Dn.eVar, Dn.eMove, Dn.bVar, Dn.bVal, Dn.e1, Dn.e2, Dn.e2T, Dn.eN, Dn.aNil, Dn.aCons, Dn.rd, Dn.rdAll, Dn.ofOp, Dn.view, Dn.isOpen, Dn.asBool, Dn.tVal, Dn.tYesM, Dn.tAndM, Dn.tOrM, Dn.tNotM, Dn.eIf, Dn.eAnd, Dn.eOr, Dn.eNot, Dn.U1, Dn.U2, Dn.ob, Dn.oi, Dn.eDisp, Dn.tms, Dn.tupO, Dn.lstO, Dn.isStrD, Dn.isiO, Dn.isiB, Dn.inO, Dn.memD, Dn.eqvD, Dn.eqvL, Dn.cmpOk, Dn.plainD, Dn.plainL, Dn.depD, Dn.depL, Dn.eqO, Dn.neO, Dn.ixO, Dn.atD, Dn.ixNat, Dn.lenO, Dn.ltO, Dn.leO, Dn.gtO, Dn.geO, Dn.eChain, Dn.isO, Dn.notIsO, Dn.isNoneB, Dn.notO, Dn.ninO, Dn.eCall, Dn.callF, Dn.lend, Dn.giveBack, Dn.seqOf, Dn.wipeS, Dn.backS, Dn.gN, Dn.eMut, Dn.tupleO, Dn.listO, Dn.eCut, Dn.pNone, Dn.pSome, Dn.cutO, Function.comp_def, -List.map_map]
      rw [hg]
      have ht : ∀ δ, tYesM δ = Res.ok true δ := fun _ => rfl
      simp only [ht, Res.noexc_ok, Res.bind_ok, if_true, he]
      have hw : wipeS (V10 s1 f mo sp hh k mv ws0 ho (some (.d (.str x)))) [9] = V10 s1 f mo sp hh k mv ws0 ho none := rfl
      rw [hw]
      show lcL _ _ _ _ (ws.map .str) _ (acc ++ [pD p]) = _
      rw [b1]
      simp
    · intro q hq y e
      rcases List.mem_cons.mp hq with rfl | hq
      · rcases hp with rfl | rfl
        · cases e
        · cases e; simp
      · exact List.mem_cons_of_mem _ (b3 q hq y e)
    · rcases hp with rfl | rfl
      · exact b4.cons x
      · exact b4.cons₂ x
theorem pat_of {ps : List (Option Str)} {ws : List Str} (h1 : ∀ p ∈ ps, ∀ x, p = some x → x ∈ ws) (h2 : (cars ps).Sublist ws) (h3 : ∀ x ∈ ws, carOk x = true) (h4 : ws.Nodup) : patB ps = true := by
  unfold patB
  rw [distinct_nodup (h2.nodup h4), Bool.and_true, List.all_eq_true]
  intro p hp
  cases p with
  | none => rfl
  | some x => exact h3 x (h1 _ hp x rfl)
end Tk46
set_option autoImplicit false
set_option linter.all false
set_option maxRecDepth 100000
namespace Tk46
open PySem Dn
theorem cars_len (ps : List (Option Str)) : (cars ps).length ≤ ps.length := List.length_filterMap_le _ _
theorem made_ok (m : Nat) (s : List D) (hs : SrcOk m s) (hm : m ≤ 50000000) : ∃ (ws : List Str) (es : List Ev) (mv : List Str) (ps : List (Option Str)) (s' : List D),
    f__law_made [.lst s] = .ret (.lst [.tup (ws.map .str), .lst (es.map evD), .lst (mv.map .str), .tup (ps.map pD)]) [some (.lst s')] ∧
      laneB (ws.map .str) = true ∧ ws.length ≤ 40 ∧ logB (es.map evD) = true ∧ es.length ≤ 120 ∧ sdB mv = true ∧ mv.length ≤ 120 ∧ patB ps = true ∧ ps.length ≤ 40 ∧ SrcOk (m + 1000) s' := by
  -- fleet
  have d1 := draw_eq hs (l := 160) (by omega) (by decide) (by decide)
  obtain ⟨r0, r1⟩ := dR_le hs (l := 160) (by decide)
  have hs1 := dS_ok hs (l := 160) (by decide)
  generalize dS s 160 = s1 at d1 hs1
  generalize dR s 160 = r at d1 r0 r1
  obtain ⟨ys, s2, v1, vok, vnd, vlen, hs2⟩ := vehicles_ok (m + 1) s1 (1 + r).toNat hs1 (by omega) (by omega) (by omega)
  have e0 : (((1 + r).toNat : Nat) : Int) = 1 + r := by omega
  rw [e0] at v1
  generalize hF : ys.map D.str = fl at v1
  have lF : fl.length = ys.length := by rw [← hF]; simp
  have a1 : sSet 1 (eCall 2 f__law_vehicles (aCons (bVar 0) (aCons (bVal (Dn.e2 addO (bVal (eC (D.int 1))) (bVal (eCall 2 f__law_draw (aCons (bVar 0) (aCons (bVal (eC (D.int 160))) (aNil))))))) (aNil)))) (lent [.lst s]) (V10 s none none none none none none none none none) = .nx (V10 s2 (some (.lst fl)) none none none none none none none none) := by
    simp [Dn.run, Dn.lent, Dn.outsL, Dn.sCons, Dn.sIf, Dn.sRet, Dn.sRetV, Dn.sRetN, Dn.sSet, Dn.sExpr, Dn.sNil, Dn.sRaise, Dn.put, Dn.eC, Dn.eVar, Dn.eMove, Dn.bVar, Dn.bVal, Dn.e1, Dn.e2, Dn.e2T, Dn.eN, Dn.aNil, Dn.aCons, Dn.rd, Dn.rdAll, Dn.ofOp, Dn.view, Dn.isOpen, Dn.asBool, Dn.tVal, Dn.tYesM, Dn.tAndM, Dn.tOrM, Dn.tNotM, Dn.eIf, Dn.eAnd, Dn.eOr, Dn.eNot, Dn.U1, Dn.U2, Dn.ob, Dn.oi, Dn.eDisp, Dn.tms, Dn.tupO, Dn.lstO, Dn.isStrD, Dn.isiO, Dn.isiB, Dn.inO, Dn.memD, Dn.eqvD, Dn.eqvL, Dn.cmpOk, Dn.plainD, Dn.plainL, Dn.depD, Dn.depL, Dn.eqO, Dn.neO, Dn.ixO, Dn.atD, Dn.ixNat, Dn.lenO, Dn.ltO, Dn.leO, Dn.gtO, Dn.geO, Dn.eChain, Dn.isO, Dn.notIsO, Dn.isNoneB, Dn.notO, Dn.ninO, Dn.eCall, Dn.callF, Dn.lend, Dn.giveBack, Dn.seqOf, Dn.wipeS, Dn.backS, Dn.gN, Dn.eMut, Dn.tupleO, Dn.listO, Dn.eCut, Dn.pNone, Dn.pSome, Dn.cutO, Function.comp_def, -List.map_map, d1, v1, addO]
  -- most
  have d2 := draw_eq hs2 (l := 2) (by omega) (by decide) (by decide)
  obtain ⟨q0, q1⟩ := dR_le hs2 (l := 2) (by decide)
  have hs3 := dS_ok hs2 (l := 2) (by decide)
  generalize dS s2 2 = s3 at d2 hs3
  generalize dR s2 2 = q at d2 q0 q1
  obtain ⟨mo, hmo, hix⟩ : ∃ mo : Int, (mo = 6 ∨ mo = 120) ∧ ixO (.lst [.int 6, .int 120]) (.int q) = some (.d (.int mo)) := by
    have : q = 0 ∨ q = 1 := by omega
    rcases this with rfl | rfl
    · exact ⟨6, .inl rfl, rfl⟩
    · exact ⟨120, .inr rfl, rfl⟩
  have a2 : sSet 2 (Dn.e2 ixO (bVal (eDisp lstO (aCons (bVal (eC (D.int 6))) (aCons (bVal (eC (D.int 120))) (aNil))))) (bVal (eCall 2 f__law_draw (aCons (bVar 0) (aCons (bVal (eC (D.int 2))) (aNil)))))) (lent [.lst s]) (V10 s2 (some (.lst fl)) none none none none none none none none) = .nx (V10 s3 (some (.lst fl)) (some (.d (.int mo))) none none none none none none none) := by
    simp [sSet, ofRes, put, lent, isOpen, Dn.e2, bVal, eC, eDisp, tms, lstO, view, eCall, callF, lend, giveBack, aCons, aNil, bVar, d2, rd, ofOp, hix]
  have a3 : sPar 3 4 (eN (U1 listO) (aCons (bVar 1) aNil)) (eDisp lstO (aNil)) (lent [.lst s]) (V10 s3 (some (.lst fl)) (some (.d (.int mo))) none none none none none none none) = .nx (V10 s3 (some (.lst fl)) (some (.d (.int mo))) (some (.lst fl)) (some (.lst [])) none none none none none) := by
    simp [Dn.run, Dn.lent, Dn.outsL, Dn.sCons, Dn.sIf, Dn.sRet, Dn.sRetV, Dn.sRetN, Dn.sSet, Dn.sExpr, Dn.sNil, Dn.sRaise, Dn.put, Dn.eC, Dn.eVar, Dn.eMove, Dn.bVar, Dn.bVal, Dn.e1, Dn.e2, Dn.e2T, Dn.eN, Dn.aNil, Dn.aCons, Dn.rd, Dn.rdAll, Dn.ofOp, Dn.view, Dn.isOpen, Dn.asBool, Dn.tVal, Dn.tYesM, Dn.tAndM, Dn.tOrM, Dn.tNotM, Dn.eIf, Dn.eAnd, Dn.eOr, Dn.eNot, Dn.U1, Dn.U2, Dn.ob, Dn.oi, Dn.eDisp, Dn.tms, Dn.tupO, Dn.lstO, Dn.isStrD, Dn.isiO, Dn.isiB, Dn.inO, Dn.memD, Dn.eqvD, Dn.eqvL, Dn.cmpOk, Dn.plainD, Dn.plainL, Dn.depD, Dn.depL, Dn.eqO, Dn.neO, Dn.ixO, Dn.atD, Dn.ixNat, Dn.lenO, Dn.ltO, Dn.leO, Dn.gtO, Dn.geO, Dn.eChain, Dn.isO, Dn.notIsO, Dn.isNoneB, Dn.notO, Dn.ninO, Dn.eCall, Dn.callF, Dn.lend, Dn.giveBack, Dn.seqOf, Dn.wipeS, Dn.backS, Dn.gN, Dn.eMut, Dn.tupleO, Dn.listO, Dn.eCut, Dn.pNone, Dn.pSome, Dn.cutO, Function.comp_def, -List.map_map, sPar]
  -- the steps
  have m1 : 0 < mo + 1 := by omega
  have d3 := draw_eq hs3 (l := mo + 1) (by omega) m1 (by omega)
  obtain ⟨p0, p1⟩ := dR_le hs3 (l := mo + 1) m1
  have hs4 := dS_ok hs3 (l := mo + 1) m1
  generalize dS s3 (mo + 1) = s4 at d3 hs4
  generalize dR s3 (mo + 1) = p at d3 p0 p1
  have sp1 : smallI p = true := by unfold smallI; simp; omega
  have hi : iN rangeOp (aCons (bVal (eCall 2 f__law_draw (aCons (bVar 0) (aCons (bVal (Dn.e2 addO (bVar 2) (bVal (eC (D.int 1))))) (aNil))))) (aNil)) (V10 s3 (some (.lst fl)) (some (.d (.int mo))) (some (.lst fl)) (some (.lst [])) none none none none none)
      = .ok (Dn.intsFrom 0 1 p.toNat) (V10 s4 (some (.lst fl)) (some (.d (.int mo))) (some (.lst fl)) (some (.lst [])) none none none none none) := by
    simp [Dn.run, Dn.lent, Dn.outsL, Dn.sCons, Dn.sIf, Dn.sRet, Dn.sRetV, Dn.sRetN, Dn.sSet, Dn.sExpr, Dn.sNil, Dn.sRaise, Dn.put, Dn.eC, Dn.eVar, Dn.eMove, Dn.bVar, Dn.bVal, Dn.e1, Dn.e2, Dn.e2T, Dn.eN, Dn.aNil, Dn.aCons, Dn.rd, Dn.rdAll, Dn.ofOp, Dn.view, Dn.isOpen, Dn.asBool, Dn.tVal, Dn.tYesM, Dn.tAndM, Dn.tOrM, Dn.tNotM, Dn.eIf, Dn.eAnd, Dn.eOr, Dn.eNot, Dn.U1, Dn.U2, Dn.ob, Dn.oi, Dn.eDisp, Dn.tms, Dn.tupO, Dn.lstO, Dn.isStrD, Dn.isiO, Dn.isiB, Dn.inO, Dn.memD, Dn.eqvD, Dn.eqvL, Dn.cmpOk, Dn.plainD, Dn.plainL, Dn.depD, Dn.depL, Dn.eqO, Dn.neO, Dn.ixO, Dn.atD, Dn.ixNat, Dn.lenO, Dn.ltO, Dn.leO, Dn.gtO, Dn.geO, Dn.eChain, Dn.isO, Dn.notIsO, Dn.isNoneB, Dn.notO, Dn.ninO, Dn.eCall, Dn.callF, Dn.lend, Dn.giveBack, Dn.seqOf, Dn.wipeS, Dn.backS, Dn.gN, Dn.eMut, Dn.tupleO, Dn.listO, Dn.eCut, Dn.pNone, Dn.pSome, Dn.cutO, Function.comp_def, -List.map_map, iN, rangeOp, d3, addO, sp1]
  have li : (Dn.intsFrom 0 1 p.toNat).length = p.toNat := by simp [Dn.intsFrom]
  obtain ⟨s5, sp', es, k', f1, hs5, f3, f4⟩ := steps_run (lent [.lst s]) rfl (some (.lst fl)) (some (.d (.int mo))) none none none none (Dn.intsFrom 0 1 p.toNat) _ s4 none ys [] hs4 (by rw [li]; omega) (by rw [li]; simp; omega)
  rw [li] at hs5 f4
  have a4 : sFor (iN rangeOp (aCons (bVal (eCall 2 f__law_draw (aCons (bVar 0) (aCons (bVal (Dn.e2 addO (bVar 2) (bVal (eC (D.int 1))))) (aNil))))) (aNil))) (gN 5) stepB (lent [.lst s]) (V10 s3 (some (.lst fl)) (some (.d (.int mo))) (some (.lst fl)) (some (.lst [])) none none none none none)
      = .nx (V10 s5 (some (.lst fl)) (some (.d (.int mo))) (some (.lst (sp'.map .str))) (some (.lst (es.map evD))) k' none none none none) := by
    unfold sFor
    rw [hi]
    simp only [ofRes_ok]
    rw [hF] at f1
    exact f1
  -- the moves
  have d4 := draw_eq hs5 (l := mo + 1) (by omega) m1 (by omega)
  obtain ⟨t0, t1⟩ := dR_le hs5 (l := mo + 1) m1
  have hs6 := dS_ok hs5 (l := mo + 1) m1
  generalize dS s5 (mo + 1) = s6 at d4 hs6
  generalize dR s5 (mo + 1) = t at d4 t0 t1
  have st1 : smallI t = true := by unfold smallI; simp; omega
  generalize hE : es.map evD = E at a4
  generalize hSP : sp'.map D.str = SP at a4
  have hi2 : iN rangeOp (aCons (bVal (eCall 2 f__law_draw (aCons (bVar 0) (aCons (bVal (Dn.e2 addO (bVar 2) (bVal (eC (D.int 1))))) (aNil))))) (aNil)) (V10 s5 (some (.lst fl)) (some (.d (.int mo))) (some (.lst SP)) (some (.lst E)) k' none none none none)
      = .ok (Dn.intsFrom 0 1 t.toNat) (V10 s6 (some (.lst fl)) (some (.d (.int mo))) (some (.lst SP)) (some (.lst E)) k' none none none none) := by
    simp [Dn.run, Dn.lent, Dn.outsL, Dn.sCons, Dn.sIf, Dn.sRet, Dn.sRetV, Dn.sRetN, Dn.sSet, Dn.sExpr, Dn.sNil, Dn.sRaise, Dn.put, Dn.eC, Dn.eVar, Dn.eMove, Dn.bVar, Dn.bVal, Dn.e1, Dn.e2, Dn.e2T, Dn.eN, Dn.aNil, Dn.aCons, Dn.rd, Dn.rdAll, Dn.ofOp, Dn.view, Dn.isOpen, Dn.asBool, Dn.tVal, Dn.tYesM, Dn.tAndM, Dn.tOrM, Dn.tNotM, Dn.eIf, Dn.eAnd, Dn.eOr, Dn.eNot, Dn.U1, Dn.U2, Dn.ob, Dn.oi, Dn.eDisp, Dn.tms, Dn.tupO, Dn.lstO, Dn.isStrD, Dn.isiO, Dn.isiB, Dn.inO, Dn.memD, Dn.eqvD, Dn.eqvL, Dn.cmpOk, Dn.plainD, Dn.plainL, Dn.depD, Dn.depL, Dn.eqO, Dn.neO, Dn.ixO, Dn.atD, Dn.ixNat, Dn.lenO, Dn.ltO, Dn.leO, Dn.gtO, Dn.geO, Dn.eChain, Dn.isO, Dn.notIsO, Dn.isNoneB, Dn.notO, Dn.ninO, Dn.eCall, Dn.callF, Dn.lend, Dn.giveBack, Dn.seqOf, Dn.wipeS, Dn.backS, Dn.gN, Dn.eMut, Dn.tupleO, Dn.listO, Dn.eCut, Dn.pNone, Dn.pSome, Dn.cutO, Function.comp_def, -List.map_map, iN, rangeOp, d4, addO, st1]
  have li2 : (Dn.intsFrom 0 1 t.toNat).length = t.toNat := by simp [Dn.intsFrom]
  obtain ⟨mv, s7, g1, hs7, g3, g4⟩ := moves_lc (some (.lst fl)) (some (.d (.int mo))) (some (.lst SP)) (some (.lst E)) none none none none (Dn.intsFrom 0 1 t.toNat) _ s6 [] hs6 (by rw [li2]; omega)
  rw [li2] at hs7 g4
  have a5 : sSet 6 (eLc (iN rangeOp (aCons (bVal (eCall 2 f__law_draw (aCons (bVar 0) (aCons (bVal (Dn.e2 addO (bVar 2) (bVal (eC (D.int 1))))) (aNil))))) (aNil))) [5] (gN 5) (tYesM) (Dn.e2 ixO (bVal (eC (D.str "LR"))) (bVal (eCall 2 f__law_draw (aCons (bVar 0) (aCons (bVal (eC (D.int 2))) (aNil))))))) (lent [.lst s]) (V10 s5 (some (.lst fl)) (some (.d (.int mo))) (some (.lst SP)) (some (.lst E)) k' none none none none)
      = .nx (V10 s7 (some (.lst fl)) (some (.d (.int mo))) (some (.lst SP)) (some (.lst E)) k' (some (.lst (mv.map .str))) none none none) := by
    unfold sSet eLc
    rw [hi2]
    simp only [Res.bind_ok]
    have hw : wipeS (V10 s6 (some (.lst fl)) (some (.d (.int mo))) (some (.lst SP)) (some (.lst E)) k' none none none none) [5] = V10 s6 (some (.lst fl)) (some (.d (.int mo))) (some (.lst SP)) (some (.lst E)) none none none none none := rfl
    rw [hw, g1]
    simp only [List.nil_append, Res.noexc_ok, Res.bind_ok]
    rw [if_pos (by rw [List.length_map, g4]; omega)]
    simp [Dn.run, Dn.lent, Dn.outsL, Dn.sCons, Dn.sIf, Dn.sRet, Dn.sRetV, Dn.sRetN, Dn.sSet, Dn.sExpr, Dn.sNil, Dn.sRaise, Dn.put, Dn.eC, Dn.eVar, Dn.eMove, Dn.bVar, Dn.bVal, Dn.e1, Dn.e2, Dn.e2T, Dn.eN, Dn.aNil, Dn.aCons, Dn.rd, Dn.rdAll, Dn.ofOp, Dn.view, Dn.isOpen, Dn.asBool, Dn.tVal, Dn.tYesM, Dn.tAndM, Dn.tOrM, Dn.tNotM, Dn.eIf, Dn.eAnd, Dn.eOr, Dn.eNot, Dn.U1, Dn.U2, Dn.ob, Dn.oi, Dn.eDisp, Dn.tms, Dn.tupO, Dn.lstO, Dn.isStrD, Dn.isiO, Dn.isiB, Dn.inO, Dn.memD, Dn.eqvD, Dn.eqvL, Dn.cmpOk, Dn.plainD, Dn.plainL, Dn.depD, Dn.depL, Dn.eqO, Dn.neO, Dn.ixO, Dn.atD, Dn.ixNat, Dn.lenO, Dn.ltO, Dn.leO, Dn.gtO, Dn.geO, Dn.eChain, Dn.isO, Dn.notIsO, Dn.isNoneB, Dn.notO, Dn.ninO, Dn.eCall, Dn.callF, Dn.lend, Dn.giveBack, Dn.seqOf, Dn.wipeS, Dn.backS, Dn.gN, Dn.eMut, Dn.tupleO, Dn.listO, Dn.eCut, Dn.pNone, Dn.pSome, Dn.cutO, Function.comp_def, -List.map_map]
  -- the whole
  have ly : 0 < (fl.length : Int) + 1 := by omega
  have d5 := draw_eq hs7 (l := (fl.length : Int) + 1) (by omega) ly (by omega)
  obtain ⟨u0, u1⟩ := dR_le hs7 (l := (fl.length : Int) + 1) ly
  have hs8 := dS_ok hs7 (l := (fl.length : Int) + 1) ly
  generalize dS s7 ((fl.length : Int) + 1) = s8 at d5 hs8
  generalize dR s7 ((fl.length : Int) + 1) = u at d5 u0 u1
  generalize hMV : mv.map D.str = MV at a5
  obtain ⟨c, hc0, hc1, hmin⟩ : ∃ c : Int, 0 ≤ c ∧ c ≤ 40 ∧ min2O (.int 40) (.int u) = some (.d (.int c)) := by
    refine ⟨if u < 40 then u else 40, by split <;> omega, by split <;> omega, ?_⟩
    simp [min2O, oi]
  have hcut : cutL fl none (some c) = (ys.take c.toNat).map D.str := by
    rw [← hF]
    unfold cutL
    simp only [bnd, List.length_map]
    rw [if_neg (by omega)]
    rw [Nat.sub_zero, List.drop_zero, ← List.map_take]
    by_cases h : c.toNat ≤ ys.length
    · rw [Nat.min_eq_left h]
    · rw [Nat.min_eq_right (by omega), List.take_of_length_le (Nat.le_refl _), List.take_of_length_le (by omega)]
  generalize hws : ys.take c.toNat = ws at hcut
  have a6 : sSet 7 (eN (U1 tupleO) (aCons (bVal (eCut cutO (bVar 1) (pNone) (pSome (eN (U2 min2O) (aCons (bVal (eC (D.int 40))) (aCons (bVal (eCall 2 f__law_draw (aCons (bVar 0) (aCons (bVal (Dn.e2 addO (bVal (eN (U1 lenO) (aCons (bVar 1) aNil))) (bVal (eC (D.int 1))))) (aNil))))) aNil)))))) aNil)) (lent [.lst s]) (V10 s7 (some (.lst fl)) (some (.d (.int mo))) (some (.lst SP)) (some (.lst E)) k' (some (.lst MV)) none none none)
      = .nx (V10 s8 (some (.lst fl)) (some (.d (.int mo))) (some (.lst SP)) (some (.lst E)) k' (some (.lst MV)) (some (.d (.tup (ws.map .str)))) none none) := by
    simp [Dn.run, Dn.lent, Dn.outsL, Dn.sCons, Dn.sIf, Dn.sRet, Dn.sRetV, Dn.sRetN, Dn.sSet, Dn.sExpr, Dn.sNil, Dn.sRaise, Dn.put, Dn.eC, Dn.eVar, Dn.eMove, Dn.bVar, Dn.bVal, Dn.e1, Dn.e2, Dn.e2T, Dn.eN, Dn.aNil, Dn.aCons, Dn.rd, Dn.rdAll, Dn.ofOp, Dn.view, Dn.isOpen, Dn.asBool, Dn.tVal, Dn.tYesM, Dn.tAndM, Dn.tOrM, Dn.tNotM, Dn.eIf, Dn.eAnd, Dn.eOr, Dn.eNot, Dn.U1, Dn.U2, Dn.ob, Dn.oi, Dn.eDisp, Dn.tms, Dn.tupO, Dn.lstO, Dn.isStrD, Dn.isiO, Dn.isiB, Dn.inO, Dn.memD, Dn.eqvD, Dn.eqvL, Dn.cmpOk, Dn.plainD, Dn.plainL, Dn.depD, Dn.depL, Dn.eqO, Dn.neO, Dn.ixO, Dn.atD, Dn.ixNat, Dn.lenO, Dn.ltO, Dn.leO, Dn.gtO, Dn.geO, Dn.eChain, Dn.isO, Dn.notIsO, Dn.isNoneB, Dn.notO, Dn.ninO, Dn.eCall, Dn.callF, Dn.lend, Dn.giveBack, Dn.seqOf, Dn.wipeS, Dn.backS, Dn.gN, Dn.eMut, Dn.tupleO, Dn.listO, Dn.eCut, Dn.pNone, Dn.pSome, Dn.cutO, Function.comp_def, -List.map_map, d5, addO, hmin, hcut]
  have lws : ws.length ≤ 40 := by rw [← hws, List.length_take]; omega
  obtain ⟨ps, s9, n1, hs9, n3, n4, n5⟩ := holes_lc (some (.lst fl)) (some (.d (.int mo))) (some (.lst SP)) (some (.lst E)) k' (some (.lst MV)) none (some (.d (.tup (ws.map .str)))) ws _ s8 [] hs8 (by omega)
  have hL : eLcH 7 [9] (gN 9) (tYesM) (eIf (tVal (Dn.e2 gtO (bVal (eCall 2 f__law_draw (aCons (bVar 0) (aCons (bVal (eC (D.int 3))) (aNil))))) (bVal (eC (D.int 0))))) (eVar 9) (eC D.non)) (V10 s8 (some (.lst fl)) (some (.d (.int mo))) (some (.lst SP)) (some (.lst E)) k' (some (.lst MV)) (some (.d (.tup (ws.map .str)))) none none) = .ok (.lst (ps.map pD)) (V10 s9 (some (.lst fl)) (some (.d (.int mo))) (some (.lst SP)) (some (.lst E)) k' (some (.lst MV)) (some (.d (.tup (ws.map .str)))) none none) := by
    unfold eLcH holdE
    have z1 : (V10 s8 (some (.lst fl)) (some (.d (.int mo))) (some (.lst SP)) (some (.lst E)) k' (some (.lst MV)) (some (.d (.tup (ws.map .str)))) none none)[7]? = some (some (.d (.tup (ws.map .str)))) := rfl
    rw [z1]
    have z2 : seqOf (view (.d (.tup (ws.map .str)))) = some (ws.map .str) := rfl
    simp only [z2]
    have z3 : isOpen (.d (.tup (ws.map .str))) = false := rfl
    simp only [z3]
    have hw : wipeS (V10 s8 (some (.lst fl)) (some (.d (.int mo))) (some (.lst SP)) (some (.lst E)) k' (some (.lst MV)) (some (.d (.tup (ws.map .str)))) none none) [9] = V10 s8 (some (.lst fl)) (some (.d (.int mo))) (some (.lst SP)) (some (.lst E)) k' (some (.lst MV)) (some (.d (.tup (ws.map .str)))) none none := rfl
    simp only [Bool.false_eq_true, if_false]
    rw [hw, n1]
    simp only [List.nil_append, Res.noexc_ok, Res.bind_ok]
    rw [if_pos (by rw [List.length_map, n5]; omega)]
    simp [Dn.run, Dn.lent, Dn.outsL, Dn.sCons, Dn.sIf, Dn.sRet, Dn.sRetV, Dn.sRetN, Dn.sSet, Dn.sExpr, Dn.sNil, Dn.sRaise, Dn.put, Dn.eC, Dn.eVar, Dn.eMove, Dn.bVar, Dn.bVal, Dn.e1, Dn.e2, Dn.e2T, Dn.eN, Dn.aNil, Dn.aCons, Dn.rd, Dn.rdAll, Dn.ofOp, Dn.view, Dn.isOpen, Dn.asBool, Dn.tVal, Dn.tYesM, Dn.tAndM, Dn.tOrM, Dn.tNotM, Dn.eIf, Dn.eAnd, Dn.eOr, Dn.eNot, Dn.U1, Dn.U2, Dn.ob, Dn.oi, Dn.eDisp, Dn.tms, Dn.tupO, Dn.lstO, Dn.isStrD, Dn.isiO, Dn.isiB, Dn.inO, Dn.memD, Dn.eqvD, Dn.eqvL, Dn.cmpOk, Dn.plainD, Dn.plainL, Dn.depD, Dn.depL, Dn.eqO, Dn.neO, Dn.ixO, Dn.atD, Dn.ixNat, Dn.lenO, Dn.ltO, Dn.leO, Dn.gtO, Dn.geO, Dn.eChain, Dn.isO, Dn.notIsO, Dn.isNoneB, Dn.notO, Dn.ninO, Dn.eCall, Dn.callF, Dn.lend, Dn.giveBack, Dn.seqOf, Dn.wipeS, Dn.backS, Dn.gN, Dn.eMut, Dn.tupleO, Dn.listO, Dn.eCut, Dn.pNone, Dn.pSome, Dn.cutO, Function.comp_def, -List.map_map]
  have a7 : sSet 8 (eN (U1 tupleO) (aCons (bVal (eLcH 7 [9] (gN 9) (tYesM) (eIf (tVal (Dn.e2 gtO (bVal (eCall 2 f__law_draw (aCons (bVar 0) (aCons (bVal (eC (D.int 3))) (aNil))))) (bVal (eC (D.int 0))))) (eVar 9) (eC D.non)))) aNil)) (lent [.lst s]) (V10 s8 (some (.lst fl)) (some (.d (.int mo))) (some (.lst SP)) (some (.lst E)) k' (some (.lst MV)) (some (.d (.tup (ws.map .str)))) none none)
      = .nx (V10 s9 (some (.lst fl)) (some (.d (.int mo))) (some (.lst SP)) (some (.lst E)) k' (some (.lst MV)) (some (.d (.tup (ws.map .str)))) (some (.d (.tup (ps.map pD)))) none) := by
    simp [Dn.run, Dn.lent, Dn.outsL, Dn.sCons, Dn.sIf, Dn.sRet, Dn.sRetV, Dn.sRetN, Dn.sSet, Dn.sExpr, Dn.sNil, Dn.sRaise, Dn.put, Dn.eC, Dn.eVar, Dn.eMove, Dn.bVar, Dn.bVal, Dn.e1, Dn.e2, Dn.e2T, Dn.eN, Dn.aNil, Dn.aCons, Dn.rd, Dn.rdAll, Dn.ofOp, Dn.view, Dn.isOpen, Dn.asBool, Dn.tVal, Dn.tYesM, Dn.tAndM, Dn.tOrM, Dn.tNotM, Dn.eIf, Dn.eAnd, Dn.eOr, Dn.eNot, Dn.U1, Dn.U2, Dn.ob, Dn.oi, Dn.eDisp, Dn.tms, Dn.tupO, Dn.lstO, Dn.isStrD, Dn.isiO, Dn.isiB, Dn.inO, Dn.memD, Dn.eqvD, Dn.eqvL, Dn.cmpOk, Dn.plainD, Dn.plainL, Dn.depD, Dn.depL, Dn.eqO, Dn.neO, Dn.ixO, Dn.atD, Dn.ixNat, Dn.lenO, Dn.ltO, Dn.leO, Dn.gtO, Dn.geO, Dn.eChain, Dn.isO, Dn.notIsO, Dn.isNoneB, Dn.notO, Dn.ninO, Dn.eCall, Dn.callF, Dn.lend, Dn.giveBack, Dn.seqOf, Dn.wipeS, Dn.backS, Dn.gN, Dn.eMut, Dn.tupleO, Dn.listO, Dn.eCut, Dn.pNone, Dn.pSome, Dn.cutO, Function.comp_def, -List.map_map, hL]
  have hsl : ws.Sublist ys := by rw [← hws]; exact List.take_sublist _ _
  have hsub : ∀ x ∈ ws, x ∈ ys := fun x hx => hsl.subset hx
  have hperm : (arrs es ++ sp').Perm ys := f3
  refine ⟨ws, es, mv, ps, s9, ?_, ?_, lws, ?_, ?_, g3, ?_, ?_, ?_, ?_⟩
  · unfold f__law_made m__law_made
    refine run_rt (δ := V10 s9 (some (.lst fl)) (some (.d (.int mo))) (some (.lst SP)) (some (.d (.lst E))) k' (some (.d (.lst MV))) (some (.d (.tup (ws.map .str)))) (some (.d (.tup (ps.map pD)))) none) ?_ rfl
    rw [show ([O.lst s].map some ++ List.replicate 9 none : Sl) = V10 s none none none none none none none none none from rfl]
    unfold stepB at a4
    rw [seq_nx a1, seq_nx a2, seq_nx a3, seq_nx a4, seq_nx a5, seq_nx a6, seq_nx a7]
    subst hE; subst hMV
    simp [Dn.run, Dn.lent, Dn.outsL, Dn.sCons, Dn.sIf, Dn.sRet, Dn.sRetV, Dn.sRetN, Dn.sSet, Dn.sExpr, Dn.sNil, Dn.sRaise, Dn.put, Dn.eC, Dn.eVar, Dn.eMove, Dn.bVar, Dn.bVal, Dn.e1, Dn.e2, Dn.e2T, Dn.eN, Dn.aNil, Dn.aCons, Dn.rd, Dn.rdAll, Dn.ofOp, Dn.view, Dn.isOpen, Dn.asBool, Dn.tVal, Dn.tYesM, Dn.tAndM, Dn.tOrM, Dn.tNotM, Dn.eIf, Dn.eAnd, Dn.eOr, Dn.eNot, Dn.U1, Dn.U2, Dn.ob, Dn.oi, Dn.eDisp, Dn.tms, Dn.tupO, Dn.lstO, Dn.isStrD, Dn.isiO, Dn.isiB, Dn.inO, Dn.memD, Dn.eqvD, Dn.eqvL, Dn.cmpOk, Dn.plainD, Dn.plainL, Dn.depD, Dn.depL, Dn.eqO, Dn.neO, Dn.ixO, Dn.atD, Dn.ixNat, Dn.lenO, Dn.ltO, Dn.leO, Dn.gtO, Dn.geO, Dn.eChain, Dn.isO, Dn.notIsO, Dn.isNoneB, Dn.notO, Dn.ninO, Dn.eCall, Dn.callF, Dn.lend, Dn.giveBack, Dn.seqOf, Dn.wipeS, Dn.backS, Dn.gN, Dn.eMut, Dn.tupleO, Dn.listO, Dn.eCut, Dn.pNone, Dn.pSome, Dn.cutO, Function.comp_def, -List.map_map]
  · exact lane_of (fun x hx => vok x (hsub x hx)) (hsl.nodup vnd)
  · exact log_of (fun x hx => vok x (hperm.mem_iff.mp (List.mem_append_left _ hx))) ((hperm.nodup_iff.mpr vnd).sublist (List.sublist_append_left _ _))
  · rw [f4]; simp only [List.length_nil]; omega
  · rw [g4]; omega
  · exact pat_of n3 n4 (fun x hx => vok x (hsub x hx)) (hsl.nodup vnd)
  · rw [n5]; exact lws
  · exact hs9.mono (by omega)
end Tk46
set_option autoImplicit false
set_option linter.all false
set_option maxRecDepth 100000
namespace Tk46
open PySem Dn
theorem joined_snoc (a y : Str) : ∀ ys : List Str, ys ≠ [] → joined a (ys ++ [y]) = joined a ys ++ a ++ y := by
  intro ys
  unfold joined
  simp only [TL.join_eq]
  induction ys with
  | nil => intro h; exact absurd rfl h
  | cons x r ih =>
    intro _
    cases r with
    | nil => rfl
    | cons z r =>
      show x ++ a ++ Str.join a (z :: r ++ [y]) = x ++ a ++ Str.join a (z :: r) ++ a ++ y
      rw [ih (by simp)]
      simp only [Str.append_assoc]
abbrev bodyJ : SM := sSet 2 (e2 addO (bVal (e2 addO (bVar 2) (bVal (eIf (tVal (e2 gtO (bVar 3) (bVal (eC (D.int 0))))) (eVar 1) (eC (D.str "")))))) (bVal (e2 ixO (bVar 0) (bVar 3))))
abbrev V4 (ys : List D) (a s : Str) (k : Slot) : Sl := [some (.lst ys), some (.d (.str a)), some (.d (.str s)), k]
theorem joined_loop (lk : Nat → Bool) (l2 : lk 2 = false) (l3 : lk 3 = false) (a : Str) (n : Nat) (ys : List Str) (hy : ∀ y ∈ ys, y.length ≤ n) (ha : a.length ≤ 1) (hl : (n + 1) * ys.length ≤ 1000000) : ∀ (suf pre : List Str) (k : Slot), ys = pre ++ suf →
    ∃ k', forL (fun d lk δ => ofG (gN 3 lk d δ) (bodyJ lk)) lk ((List.range' pre.length suf.length).map fun k => D.int ((0 : Int) + (k : Nat) * 1)) (V4 (ys.map .str) a (joined a pre) k) = .nx (V4 (ys.map .str) a (joined a ys) k')
  | [], pre, k, e => by
    rw [List.append_nil] at e; subst e
    exact ⟨k, rfl⟩
  | y :: suf, pre, k, e => by
    obtain ⟨k', h⟩ := joined_loop lk l2 l3 a n ys hy ha hl suf (pre ++ [y]) (some (.d (.int pre.length))) (by simp [e])
    refine ⟨k', ?_⟩
    rw [List.length_cons, List.range'_succ, List.map_cons]
    have hix : ixO (.lst (ys.map .str)) (.int pre.length) = some (.d (.str y)) := by
      simp only [ixO]
      unfold atD ixNat
      rw [e]
      simp
      rw [if_pos (by omega)]
      simp
    have hyl : y.length ≤ n := hy y (by rw [e]; simp)
    have t1 : totL pre ≤ n * pre.length := totL_le fun z hz => hy z (by rw [e]; simp [hz])
    have t2 := joined_len a pre
    have t3 : (pre.length - 1) * a.length ≤ pre.length * 1 := Nat.mul_le_mul (by omega) ha
    have t4 : (n + 1) * (pre.length + 1) ≤ (n + 1) * ys.length := Nat.mul_le_mul_left _ (by rw [e]; simp)
    rw [Nat.mul_add, Nat.add_mul] at t4
    by_cases hp : pre = []
    · subst hp
      have h1 : joined a [] ++ "" = ("" : Str) := rfl
      have h2 : ("" : Str) ++ y = joined a ([] ++ [y]) := by
        show ("" : Str) ++ y = Txt.join a [y]
        rw [TL.join_eq]
        exact Str.empty_append y
      have h3 : addO (.str (joined a [])) (.str "") = some (.d (.str "")) := by rw [joined_nil, addO_str (by decide)]; rfl
      have h4 : addO (.str "") (.str y) = some (.d (.str (joined a ([] ++ [y])))) := by rw [addO_str (by show 0 + _ ≤ _; omega), h2]
      have hb : ofG (gN 3 lk (D.int ((0 : Int) + (([] : List Str).length : Nat) * 1)) (V4 (ys.map .str) a (joined a []) k)) (bodyJ lk) = .nx (V4 (ys.map .str) a (joined a ([] ++ [y])) (some (.d (.int (([] : List Str).length : Nat))))) := by
        generalize hj : joined a ([] ++ [y]) = J at h4 ⊢
        generalize hL : ys.map D.str = L at hix ⊢
        generalize hj0 : joined a [] = J0 at h3 ⊢
        simp only [List.length_nil] at hix ⊢
        have hix : ixO (.lst L) (.int 0) = some (.d (.str y)) := hix
        simp [ofG, gN, l3, l2, sSet, ofRes, put, e2, bVal, bVar, eIf, tVal, eC, rd, view, ofOp, gtO, ob, asBool, h3, h4, hix, eVar]
      show turnEnd (ofG (gN 3 lk _ _) (bodyJ lk)) _ = _
      rw [hb]
      exact h
    · have h3 : addO (.str (joined a pre)) (.str a) = some (.d (.str (joined a pre ++ a))) := addO_str (by omega)
      have h4 : addO (.str (joined a pre ++ a)) (.str y) = some (.d (.str (joined a (pre ++ [y])))) := by
        rw [addO_str (by rw [Str.length_append]; omega), joined_snoc a y pre hp]
      have hpl : 0 < pre.length := List.length_pos_iff.mpr hp
      have hb : ofG (gN 3 lk (D.int ((0 : Int) + (pre.length : Nat) * 1)) (V4 (ys.map .str) a (joined a pre) k)) (bodyJ lk) = .nx (V4 (ys.map .str) a (joined a (pre ++ [y])) (some (.d (.int (pre.length : Nat))))) := by
        generalize hj : joined a (pre ++ [y]) = J at h4 ⊢
        generalize hL : ys.map D.str = L at hix ⊢
        generalize hj0 : joined a pre = J0 at h3 h4 ⊢
        simp [ofG, gN, l3, l2, sSet, ofRes, put, e2, bVal, bVar, eIf, tVal, eC, rd, view, ofOp, gtO, ob, asBool, h3, h4, hix, eVar, hpl]
      show turnEnd (ofG (gN 3 lk _ _) (bodyJ lk)) _ = _
      rw [hb]
      rw [List.length_append, List.length_singleton] at h
      exact h
theorem joined_ok (a : Str) (n : Nat) (ys : List Str) (hy : ∀ y ∈ ys, y.length ≤ n) (ha : a.length ≤ 1) (hl : (n + 1) * ys.length ≤ 1000000) :
    f__law_joined [.lst (ys.map .str), .d (.str a)] = .ret (.d (.str (joined a ys))) [some (.lst (ys.map .str)), none] := by
  have hl2 : ys.length ≤ 1000000 := by rw [Nat.add_mul] at hl; omega
  have sm : smallI (ys.length : Int) = true := by unfold smallI; simp; omega
  have hi : iN rangeOp (aCons (bVal (eN (U1 lenO) (aCons (bVar 0) aNil))) (aNil)) (V4 (ys.map .str) a "" none) = .ok ((List.range' 0 ys.length).map fun k => D.int ((0 : Int) + (k : Nat) * 1)) (V4 (ys.map .str) a "" none) := by
    simp [Dn.run, Dn.lent, Dn.outsL, Dn.sCons, Dn.sIf, Dn.sRet, Dn.sRetV, Dn.sRetN, Dn.sSet, Dn.sExpr, Dn.sNil, Dn.sRaise, Dn.put, Dn.eC, Dn.eVar, Dn.eMove, Dn.bVar, Dn.bVal, Dn.e1, Dn.e2, Dn.e2T, Dn.eN, Dn.aNil, Dn.aCons, Dn.rd, Dn.rdAll, Dn.ofOp, Dn.view, Dn.isOpen, Dn.asBool, Dn.tVal, Dn.tYesM, Dn.tAndM, Dn.tOrM, Dn.tNotM, Dn.eIf, Dn.eAnd, Dn.eOr, Dn.eNot, Dn.U1, Dn.U2, Dn.ob, Dn.oi, Dn.eDisp, Dn.tms, Dn.tupO, Dn.lstO, Dn.isStrD, Dn.isiO, Dn.isiB, Dn.inO, Dn.memD, Dn.eqvD, Dn.eqvL, Dn.cmpOk, Dn.plainD, Dn.plainL, Dn.depD, Dn.depL, Dn.eqO, Dn.neO, Dn.ixO, Dn.atD, Dn.ixNat, Dn.lenO, Dn.ltO, Dn.leO, Dn.gtO, Dn.geO, Dn.eChain, Dn.isO, Dn.notIsO, Dn.isNoneB, Dn.notO, Dn.ninO, Dn.eCall, Dn.callF, Dn.lend, Dn.giveBack, Dn.seqOf, Dn.wipeS, Dn.backS, Dn.gN, Dn.eMut, Dn.tupleO, Dn.listO, Dn.eCut, Dn.pNone, Dn.pSome, Dn.cutO, Function.comp_def, -List.map_map, iN, rangeOp, sm, Dn.intsFrom, List.range_eq_range']
  obtain ⟨k', h⟩ := joined_loop (lent [.lst (ys.map .str), .d (.str a)]) rfl rfl a n ys hy ha hl ys [] none rfl
  have h1 : sFor (iN rangeOp (aCons (bVal (eN (U1 lenO) (aCons (bVar 0) aNil))) (aNil))) (gN 3) bodyJ (lent [.lst (ys.map .str), .d (.str a)]) (V4 (ys.map .str) a "" none) = .nx (V4 (ys.map .str) a (joined a ys) k') := by
    unfold sFor
    rw [hi]
    simp only [ofRes_ok]
    exact h
  unfold f__law_joined m__law_joined
  refine run_rt (δ := [some (.lst (ys.map .str)), some (.d (.str a)), none, k']) ?_ rfl
  have h0 : sSet 2 (eC (D.str "")) (lent [.lst (ys.map .str), .d (.str a)]) [some (.lst (ys.map .str)), some (.d (.str a)), none, none] = .nx (V4 (ys.map .str) a "" none) := by simp [Dn.run, Dn.lent, Dn.outsL, Dn.sCons, Dn.sIf, Dn.sRet, Dn.sRetV, Dn.sRetN, Dn.sSet, Dn.sExpr, Dn.sNil, Dn.sRaise, Dn.put, Dn.eC, Dn.eVar, Dn.eMove, Dn.bVar, Dn.bVal, Dn.e1, Dn.e2, Dn.e2T, Dn.eN, Dn.aNil, Dn.aCons, Dn.rd, Dn.rdAll, Dn.ofOp, Dn.view, Dn.isOpen, Dn.asBool, Dn.tVal, Dn.tYesM, Dn.tAndM, Dn.tOrM, Dn.tNotM, Dn.eIf, Dn.eAnd, Dn.eOr, Dn.eNot, Dn.U1, Dn.U2, Dn.ob, Dn.oi, Dn.eDisp, Dn.tms, Dn.tupO, Dn.lstO, Dn.isStrD, Dn.isiO, Dn.isiB, Dn.inO, Dn.memD, Dn.eqvD, Dn.eqvL, Dn.cmpOk, Dn.plainD, Dn.plainL, Dn.depD, Dn.depL, Dn.eqO, Dn.neO, Dn.ixO, Dn.atD, Dn.ixNat, Dn.lenO, Dn.ltO, Dn.leO, Dn.gtO, Dn.geO, Dn.eChain, Dn.isO, Dn.notIsO, Dn.isNoneB, Dn.notO, Dn.ninO, Dn.eCall, Dn.callF, Dn.lend, Dn.giveBack, Dn.seqOf, Dn.wipeS, Dn.backS, Dn.gN, Dn.eMut, Dn.tupleO, Dn.listO, Dn.eCut, Dn.pNone, Dn.pSome, Dn.cutO, Function.comp_def, -List.map_map]
  show sCons _ _ _ [some (.lst (ys.map .str)), some (.d (.str a)), none, none] = _
  rw [seq_nx h0]
  unfold bodyJ at h1
  rw [seq_nx h1]
  generalize joined a ys = J
  simp [Dn.run, Dn.lent, Dn.outsL, Dn.sCons, Dn.sIf, Dn.sRet, Dn.sRetV, Dn.sRetN, Dn.sSet, Dn.sExpr, Dn.sNil, Dn.sRaise, Dn.put, Dn.eC, Dn.eVar, Dn.eMove, Dn.bVar, Dn.bVal, Dn.e1, Dn.e2, Dn.e2T, Dn.eN, Dn.aNil, Dn.aCons, Dn.rd, Dn.rdAll, Dn.ofOp, Dn.view, Dn.isOpen, Dn.asBool, Dn.tVal, Dn.tYesM, Dn.tAndM, Dn.tOrM, Dn.tNotM, Dn.eIf, Dn.eAnd, Dn.eOr, Dn.eNot, Dn.U1, Dn.U2, Dn.ob, Dn.oi, Dn.eDisp, Dn.tms, Dn.tupO, Dn.lstO, Dn.isStrD, Dn.isiO, Dn.isiB, Dn.inO, Dn.memD, Dn.eqvD, Dn.eqvL, Dn.cmpOk, Dn.plainD, Dn.plainL, Dn.depD, Dn.depL, Dn.eqO, Dn.neO, Dn.ixO, Dn.atD, Dn.ixNat, Dn.lenO, Dn.ltO, Dn.leO, Dn.gtO, Dn.geO, Dn.eChain, Dn.isO, Dn.notIsO, Dn.isNoneB, Dn.notO, Dn.ninO, Dn.eCall, Dn.callF, Dn.lend, Dn.giveBack, Dn.seqOf, Dn.wipeS, Dn.backS, Dn.gN, Dn.eMut, Dn.tupleO, Dn.listO, Dn.eCut, Dn.pNone, Dn.pSome, Dn.cutO, Function.comp_def, -List.map_map]
theorem word_str (y : Str) : f__law_word [.d (.str y)] = .ret (.d (.str y)) [none] := by
  unfold f__law_word m__law_word
  simp [Dn.run, Dn.lent, Dn.outsL, Dn.sCons, Dn.sIf, Dn.sRet, Dn.sRetV, Dn.sRetN, Dn.sSet, Dn.sExpr, Dn.sNil, Dn.sRaise, Dn.put, Dn.eC, Dn.eVar, Dn.eMove, Dn.bVar, Dn.bVal, Dn.e1, Dn.e2, Dn.e2T, Dn.eN, Dn.aNil, Dn.aCons, Dn.rd, Dn.rdAll, Dn.ofOp, Dn.view, Dn.isOpen, Dn.asBool, Dn.tVal, Dn.tYesM, Dn.tAndM, Dn.tOrM, Dn.tNotM, Dn.eIf, Dn.eAnd, Dn.eOr, Dn.eNot, Dn.U1, Dn.U2, Dn.ob, Dn.oi, Dn.eDisp, Dn.tms, Dn.tupO, Dn.lstO, Dn.isStrD, Dn.isiO, Dn.isiB, Dn.inO, Dn.memD, Dn.eqvD, Dn.eqvL, Dn.cmpOk, Dn.plainD, Dn.plainL, Dn.depD, Dn.depL, Dn.eqO, Dn.neO, Dn.ixO, Dn.atD, Dn.ixNat, Dn.lenO, Dn.ltO, Dn.leO, Dn.gtO, Dn.geO, Dn.eChain, Dn.isO, Dn.notIsO, Dn.isNoneB, Dn.notO, Dn.ninO, Dn.eCall, Dn.callF, Dn.lend, Dn.giveBack, Dn.seqOf, Dn.wipeS, Dn.backS, Dn.gN, Dn.eMut, Dn.tupleO, Dn.listO, Dn.eCut, Dn.pNone, Dn.pSome, Dn.cutO, Function.comp_def, -List.map_map]
theorem word_non : f__law_word [.d .non] = .ret (.d (.str "?")) [none] := by
  unfold f__law_word m__law_word
  simp [Dn.run, Dn.lent, Dn.outsL, Dn.sCons, Dn.sIf, Dn.sRet, Dn.sRetV, Dn.sRetN, Dn.sSet, Dn.sExpr, Dn.sNil, Dn.sRaise, Dn.put, Dn.eC, Dn.eVar, Dn.eMove, Dn.bVar, Dn.bVal, Dn.e1, Dn.e2, Dn.e2T, Dn.eN, Dn.aNil, Dn.aCons, Dn.rd, Dn.rdAll, Dn.ofOp, Dn.view, Dn.isOpen, Dn.asBool, Dn.tVal, Dn.tYesM, Dn.tAndM, Dn.tOrM, Dn.tNotM, Dn.eIf, Dn.eAnd, Dn.eOr, Dn.eNot, Dn.U1, Dn.U2, Dn.ob, Dn.oi, Dn.eDisp, Dn.tms, Dn.tupO, Dn.lstO, Dn.isStrD, Dn.isiO, Dn.isiB, Dn.inO, Dn.memD, Dn.eqvD, Dn.eqvL, Dn.cmpOk, Dn.plainD, Dn.plainL, Dn.depD, Dn.depL, Dn.eqO, Dn.neO, Dn.ixO, Dn.atD, Dn.ixNat, Dn.lenO, Dn.ltO, Dn.leO, Dn.gtO, Dn.geO, Dn.eChain, Dn.isO, Dn.notIsO, Dn.isNoneB, Dn.notO, Dn.ninO, Dn.eCall, Dn.callF, Dn.lend, Dn.giveBack, Dn.seqOf, Dn.wipeS, Dn.backS, Dn.gN, Dn.eMut, Dn.tupleO, Dn.listO, Dn.eCut, Dn.pNone, Dn.pSome, Dn.cutO, Function.comp_def, -List.map_map]
theorem word_ev (e : Ev) (h : (evW e).length ≤ 1000000) : f__law_word [.d (evD e)] = .ret (.d (.str (evW e))) [none] := by
  unfold f__law_word m__law_word
  cases e with
  | dep =>
    have hne : ("out" : Str) ≠ "in" := by decide +kernel
    simp [Dn.run, Dn.lent, Dn.outsL, Dn.sCons, Dn.sIf, Dn.sRet, Dn.sRetV, Dn.sRetN, Dn.sSet, Dn.sExpr, Dn.sNil, Dn.sRaise, Dn.put, Dn.eC, Dn.eVar, Dn.eMove, Dn.bVar, Dn.bVal, Dn.e1, Dn.e2, Dn.e2T, Dn.eN, Dn.aNil, Dn.aCons, Dn.rd, Dn.rdAll, Dn.ofOp, Dn.view, Dn.isOpen, Dn.asBool, Dn.tVal, Dn.tYesM, Dn.tAndM, Dn.tOrM, Dn.tNotM, Dn.eIf, Dn.eAnd, Dn.eOr, Dn.eNot, Dn.U1, Dn.U2, Dn.ob, Dn.oi, Dn.eDisp, Dn.tms, Dn.tupO, Dn.lstO, Dn.isStrD, Dn.isiO, Dn.isiB, Dn.inO, Dn.memD, Dn.eqvD, Dn.eqvL, Dn.cmpOk, Dn.plainD, Dn.plainL, Dn.depD, Dn.depL, Dn.eqO, Dn.neO, Dn.ixO, Dn.atD, Dn.ixNat, Dn.lenO, Dn.ltO, Dn.leO, Dn.gtO, Dn.geO, Dn.eChain, Dn.isO, Dn.notIsO, Dn.isNoneB, Dn.notO, Dn.ninO, Dn.eCall, Dn.callF, Dn.lend, Dn.giveBack, Dn.seqOf, Dn.wipeS, Dn.backS, Dn.gN, Dn.eMut, Dn.tupleO, Dn.listO, Dn.eCut, Dn.pNone, Dn.pSome, Dn.cutO, Function.comp_def, -List.map_map, evD, evW, hne]
  | arr x =>
    have h1 : addO (.str "+") (.str x) = some (.d (.str ("+" ++ x))) := addO_str (by rw [← Str.length_append]; exact h)
    simp [Dn.run, Dn.lent, Dn.outsL, Dn.sCons, Dn.sIf, Dn.sRet, Dn.sRetV, Dn.sRetN, Dn.sSet, Dn.sExpr, Dn.sNil, Dn.sRaise, Dn.put, Dn.eC, Dn.eVar, Dn.eMove, Dn.bVar, Dn.bVal, Dn.e1, Dn.e2, Dn.e2T, Dn.eN, Dn.aNil, Dn.aCons, Dn.rd, Dn.rdAll, Dn.ofOp, Dn.view, Dn.isOpen, Dn.asBool, Dn.tVal, Dn.tYesM, Dn.tAndM, Dn.tOrM, Dn.tNotM, Dn.eIf, Dn.eAnd, Dn.eOr, Dn.eNot, Dn.U1, Dn.U2, Dn.ob, Dn.oi, Dn.eDisp, Dn.tms, Dn.tupO, Dn.lstO, Dn.isStrD, Dn.isiO, Dn.isiB, Dn.inO, Dn.memD, Dn.eqvD, Dn.eqvL, Dn.cmpOk, Dn.plainD, Dn.plainL, Dn.depD, Dn.depL, Dn.eqO, Dn.neO, Dn.ixO, Dn.atD, Dn.ixNat, Dn.lenO, Dn.ltO, Dn.leO, Dn.gtO, Dn.geO, Dn.eChain, Dn.isO, Dn.notIsO, Dn.isNoneB, Dn.notO, Dn.ninO, Dn.eCall, Dn.callF, Dn.lend, Dn.giveBack, Dn.seqOf, Dn.wipeS, Dn.backS, Dn.gN, Dn.eMut, Dn.tupleO, Dn.listO, Dn.eCut, Dn.pNone, Dn.pSome, Dn.cutO, Function.comp_def, -List.map_map, evD, evW, h1]
/-- an item of the law -/
inductive It where
  | lane (ys : List Str) | log (es : List Ev) | sides (ys : List Str) | pat (ps : List (Option Str))
namespace It
def k : It → Int
  | lane _ => 0 | log _ => 1 | sides _ => 2 | pat _ => 3
def d : It → D
  | lane ys => .tup (ys.map .str) | log es => .lst (es.map evD) | sides ys => .lst (ys.map .str) | pat ps => .tup (ps.map pD)
def xs : It → List D
  | lane ys => ys.map .str | log es => es.map evD | sides ys => ys.map .str | pat ps => ps.map pD
def ws : It → List Str
  | lane ys => ys | log es => es.map evW | sides ys => ys | pat ps => ps.map pW
def isL : It → Bool
  | log _ => true | sides _ => true | _ => false
def mark : It → Str
  | sides _ => "" | _ => " "
def txt (i : It) : Str := joined i.mark i.ws
/-- as it is handed in: open (b) or closed -/
def o (b : Bool) : It → O
  | log es => ol b (es.map evD) | sides ys => ol b (ys.map .str) | i => .d i.d
def bk (b : Bool) : It → Slot
  | log es => back b (es.map evD) | sides ys => back b (ys.map .str) | i => none
def ok : It → Prop
  | lane ys => laneB (ys.map .str) = true ∧ ys.length ≤ 4000 | log es => logB (es.map evD) = true ∧ es.length ≤ 4000
  | sides ys => sdB ys = true ∧ ys.length ≤ 200000 | pat ps => patB ps = true ∧ ps.length ≤ 4000
end It
theorem tab0_0 : tab0 "format_lane" = some (1, f_format_lane) := by
  unfold tab0
  rw [if_pos rfl]
theorem tab0_1 : tab0 "format_log" = some (1, f_format_log) := by
  unfold tab0
  rw [if_neg (by decide +kernel), if_pos rfl]
theorem tab0_2 : tab0 "format_sides" = some (1, f_format_sides) := by
  unfold tab0
  rw [if_neg (by decide +kernel), if_neg (by decide +kernel), if_pos rfl]
theorem tab0_3 : tab0 "format_pattern" = some (1, f_format_pattern) := by
  unfold tab0
  rw [if_neg (by decide +kernel), if_neg (by decide +kernel), if_neg (by decide +kernel), if_pos rfl]
theorem tab1_0 : tab1 "parse_lane" = some (1, f_parse_lane) := by
  unfold tab1
  rw [if_pos rfl]
theorem tab1_1 : tab1 "parse_log" = some (1, f_parse_log) := by
  unfold tab1
  rw [if_neg (by decide +kernel), if_pos rfl]
theorem tab1_2 : tab1 "parse_sides" = some (1, f_parse_sides) := by
  unfold tab1
  rw [if_neg (by decide +kernel), if_neg (by decide +kernel), if_pos rfl]
theorem tab1_3 : tab1 "parse_pattern" = some (1, f_parse_pattern) := by
  unfold tab1
  rw [if_neg (by decide +kernel), if_neg (by decide +kernel), if_neg (by decide +kernel), if_pos rfl]
theorem formatted_ok (b nm : Bool) (i : It) (h : i.ok) : f__law_formatted [.d (.int i.k), i.o b, .d (.bl nm)] = .ret (.d (.str i.txt)) [none, i.bk b, none] := by
  cases i with
  | lane ys =>
    have h1 := format_lane_ok ys h.1 h.2
    unfold f__law_formatted m__law_formatted
    cases nm <;> simp [Dn.run, Dn.lent, Dn.outsL, Dn.sCons, Dn.sIf, Dn.sRet, Dn.sRetV, Dn.sRetN, Dn.sSet, Dn.sExpr, Dn.sNil, Dn.sRaise, Dn.put, Dn.eC, Dn.eVar, Dn.eMove, Dn.bVar, Dn.bVal, Dn.e1, Dn.e2, Dn.e2T, Dn.eN, Dn.aNil, Dn.aCons, Dn.rd, Dn.rdAll, Dn.ofOp, Dn.view, Dn.isOpen, Dn.asBool, Dn.tVal, Dn.tYesM, Dn.tAndM, Dn.tOrM, Dn.tNotM, Dn.eIf, Dn.eAnd, Dn.eOr, Dn.eNot, Dn.U1, Dn.U2, Dn.ob, Dn.oi, Dn.eDisp, Dn.tms, Dn.tupO, Dn.lstO, Dn.isStrD, Dn.isiO, Dn.isiB, Dn.inO, Dn.memD, Dn.eqvD, Dn.eqvL, Dn.cmpOk, Dn.plainD, Dn.plainL, Dn.depD, Dn.depL, Dn.eqO, Dn.neO, Dn.ixO, Dn.atD, Dn.ixNat, Dn.lenO, Dn.ltO, Dn.leO, Dn.gtO, Dn.geO, Dn.eChain, Dn.isO, Dn.notIsO, Dn.isNoneB, Dn.notO, Dn.ninO, Dn.eCall, Dn.callF, Dn.lend, Dn.giveBack, Dn.seqOf, Dn.wipeS, Dn.backS, Dn.gN, Dn.eMut, Dn.tupleO, Dn.listO, Dn.eCut, Dn.pNone, Dn.pSome, Dn.cutO, Function.comp_def, -List.map_map, It.k, It.o, It.d, It.txt, It.bk, It.mark, It.ws, eCallV, eCallK, tab0_0, h1, ol, back]
  | log es =>
    have h1 := format_log_ok b es h.1 h.2
    unfold f__law_formatted m__law_formatted
    cases b <;> simp only [ol, back, if_true, Bool.false_eq_true, if_false] at h1 <;> cases nm <;> simp [Dn.run, Dn.lent, Dn.outsL, Dn.sCons, Dn.sIf, Dn.sRet, Dn.sRetV, Dn.sRetN, Dn.sSet, Dn.sExpr, Dn.sNil, Dn.sRaise, Dn.put, Dn.eC, Dn.eVar, Dn.eMove, Dn.bVar, Dn.bVal, Dn.e1, Dn.e2, Dn.e2T, Dn.eN, Dn.aNil, Dn.aCons, Dn.rd, Dn.rdAll, Dn.ofOp, Dn.view, Dn.isOpen, Dn.asBool, Dn.tVal, Dn.tYesM, Dn.tAndM, Dn.tOrM, Dn.tNotM, Dn.eIf, Dn.eAnd, Dn.eOr, Dn.eNot, Dn.U1, Dn.U2, Dn.ob, Dn.oi, Dn.eDisp, Dn.tms, Dn.tupO, Dn.lstO, Dn.isStrD, Dn.isiO, Dn.isiB, Dn.inO, Dn.memD, Dn.eqvD, Dn.eqvL, Dn.cmpOk, Dn.plainD, Dn.plainL, Dn.depD, Dn.depL, Dn.eqO, Dn.neO, Dn.ixO, Dn.atD, Dn.ixNat, Dn.lenO, Dn.ltO, Dn.leO, Dn.gtO, Dn.geO, Dn.eChain, Dn.isO, Dn.notIsO, Dn.isNoneB, Dn.notO, Dn.ninO, Dn.eCall, Dn.callF, Dn.lend, Dn.giveBack, Dn.seqOf, Dn.wipeS, Dn.backS, Dn.gN, Dn.eMut, Dn.tupleO, Dn.listO, Dn.eCut, Dn.pNone, Dn.pSome, Dn.cutO, Function.comp_def, -List.map_map, It.k, It.o, It.d, It.txt, It.bk, It.mark, It.ws, eCallV, eCallK, tab0_1, h1, ol, back]
  | sides ys =>
    have h1 := format_sides_ok b ys h.1 (Nat.le_trans h.2 (by decide))
    unfold f__law_formatted m__law_formatted
    cases b <;> simp only [ol, back, if_true, Bool.false_eq_true, if_false] at h1 <;> cases nm <;> simp [Dn.run, Dn.lent, Dn.outsL, Dn.sCons, Dn.sIf, Dn.sRet, Dn.sRetV, Dn.sRetN, Dn.sSet, Dn.sExpr, Dn.sNil, Dn.sRaise, Dn.put, Dn.eC, Dn.eVar, Dn.eMove, Dn.bVar, Dn.bVal, Dn.e1, Dn.e2, Dn.e2T, Dn.eN, Dn.aNil, Dn.aCons, Dn.rd, Dn.rdAll, Dn.ofOp, Dn.view, Dn.isOpen, Dn.asBool, Dn.tVal, Dn.tYesM, Dn.tAndM, Dn.tOrM, Dn.tNotM, Dn.eIf, Dn.eAnd, Dn.eOr, Dn.eNot, Dn.U1, Dn.U2, Dn.ob, Dn.oi, Dn.eDisp, Dn.tms, Dn.tupO, Dn.lstO, Dn.isStrD, Dn.isiO, Dn.isiB, Dn.inO, Dn.memD, Dn.eqvD, Dn.eqvL, Dn.cmpOk, Dn.plainD, Dn.plainL, Dn.depD, Dn.depL, Dn.eqO, Dn.neO, Dn.ixO, Dn.atD, Dn.ixNat, Dn.lenO, Dn.ltO, Dn.leO, Dn.gtO, Dn.geO, Dn.eChain, Dn.isO, Dn.notIsO, Dn.isNoneB, Dn.notO, Dn.ninO, Dn.eCall, Dn.callF, Dn.lend, Dn.giveBack, Dn.seqOf, Dn.wipeS, Dn.backS, Dn.gN, Dn.eMut, Dn.tupleO, Dn.listO, Dn.eCut, Dn.pNone, Dn.pSome, Dn.cutO, Function.comp_def, -List.map_map, It.k, It.o, It.d, It.txt, It.bk, It.mark, It.ws, eCallV, eCallK, tab0_2, h1, ol, back]
  | pat ps =>
    have h1 := format_pattern_ok ps h.1 h.2
    unfold f__law_formatted m__law_formatted
    cases nm <;> simp [Dn.run, Dn.lent, Dn.outsL, Dn.sCons, Dn.sIf, Dn.sRet, Dn.sRetV, Dn.sRetN, Dn.sSet, Dn.sExpr, Dn.sNil, Dn.sRaise, Dn.put, Dn.eC, Dn.eVar, Dn.eMove, Dn.bVar, Dn.bVal, Dn.e1, Dn.e2, Dn.e2T, Dn.eN, Dn.aNil, Dn.aCons, Dn.rd, Dn.rdAll, Dn.ofOp, Dn.view, Dn.isOpen, Dn.asBool, Dn.tVal, Dn.tYesM, Dn.tAndM, Dn.tOrM, Dn.tNotM, Dn.eIf, Dn.eAnd, Dn.eOr, Dn.eNot, Dn.U1, Dn.U2, Dn.ob, Dn.oi, Dn.eDisp, Dn.tms, Dn.tupO, Dn.lstO, Dn.isStrD, Dn.isiO, Dn.isiB, Dn.inO, Dn.memD, Dn.eqvD, Dn.eqvL, Dn.cmpOk, Dn.plainD, Dn.plainL, Dn.depD, Dn.depL, Dn.eqO, Dn.neO, Dn.ixO, Dn.atD, Dn.ixNat, Dn.lenO, Dn.ltO, Dn.leO, Dn.gtO, Dn.geO, Dn.eChain, Dn.isO, Dn.notIsO, Dn.isNoneB, Dn.notO, Dn.ninO, Dn.eCall, Dn.callF, Dn.lend, Dn.giveBack, Dn.seqOf, Dn.wipeS, Dn.backS, Dn.gN, Dn.eMut, Dn.tupleO, Dn.listO, Dn.eCut, Dn.pNone, Dn.pSome, Dn.cutO, Function.comp_def, -List.map_map, It.k, It.o, It.d, It.txt, It.bk, It.mark, It.ws, eCallV, eCallK, tab0_3, h1, ol, back]
theorem parsed_ok (nm : Bool) (i : It) (h : i.ok) : f__law_parsed [.d (.int i.k), .d (.str i.txt), .d (.bl nm)] = .ret (i.o true) [none, none, none] := by
  cases i with
  | lane ys =>
    have h1 := parse_lane_ok ys h.1 h.2
    unfold f__law_parsed m__law_parsed
    cases nm <;> simp [Dn.run, Dn.lent, Dn.outsL, Dn.sCons, Dn.sIf, Dn.sRet, Dn.sRetV, Dn.sRetN, Dn.sSet, Dn.sExpr, Dn.sNil, Dn.sRaise, Dn.put, Dn.eC, Dn.eVar, Dn.eMove, Dn.bVar, Dn.bVal, Dn.e1, Dn.e2, Dn.e2T, Dn.eN, Dn.aNil, Dn.aCons, Dn.rd, Dn.rdAll, Dn.ofOp, Dn.view, Dn.isOpen, Dn.asBool, Dn.tVal, Dn.tYesM, Dn.tAndM, Dn.tOrM, Dn.tNotM, Dn.eIf, Dn.eAnd, Dn.eOr, Dn.eNot, Dn.U1, Dn.U2, Dn.ob, Dn.oi, Dn.eDisp, Dn.tms, Dn.tupO, Dn.lstO, Dn.isStrD, Dn.isiO, Dn.isiB, Dn.inO, Dn.memD, Dn.eqvD, Dn.eqvL, Dn.cmpOk, Dn.plainD, Dn.plainL, Dn.depD, Dn.depL, Dn.eqO, Dn.neO, Dn.ixO, Dn.atD, Dn.ixNat, Dn.lenO, Dn.ltO, Dn.leO, Dn.gtO, Dn.geO, Dn.eChain, Dn.isO, Dn.notIsO, Dn.isNoneB, Dn.notO, Dn.ninO, Dn.eCall, Dn.callF, Dn.lend, Dn.giveBack, Dn.seqOf, Dn.wipeS, Dn.backS, Dn.gN, Dn.eMut, Dn.tupleO, Dn.listO, Dn.eCut, Dn.pNone, Dn.pSome, Dn.cutO, Function.comp_def, -List.map_map, It.k, It.o, It.d, It.txt, It.bk, It.mark, It.ws, eCallV, eCallVK, eCallK, tab1_0, h1, ol, back]
  | log es =>
    have h1 := parse_log_ok es h.1 h.2
    unfold f__law_parsed m__law_parsed
    cases nm <;> simp [Dn.run, Dn.lent, Dn.outsL, Dn.sCons, Dn.sIf, Dn.sRet, Dn.sRetV, Dn.sRetN, Dn.sSet, Dn.sExpr, Dn.sNil, Dn.sRaise, Dn.put, Dn.eC, Dn.eVar, Dn.eMove, Dn.bVar, Dn.bVal, Dn.e1, Dn.e2, Dn.e2T, Dn.eN, Dn.aNil, Dn.aCons, Dn.rd, Dn.rdAll, Dn.ofOp, Dn.view, Dn.isOpen, Dn.asBool, Dn.tVal, Dn.tYesM, Dn.tAndM, Dn.tOrM, Dn.tNotM, Dn.eIf, Dn.eAnd, Dn.eOr, Dn.eNot, Dn.U1, Dn.U2, Dn.ob, Dn.oi, Dn.eDisp, Dn.tms, Dn.tupO, Dn.lstO, Dn.isStrD, Dn.isiO, Dn.isiB, Dn.inO, Dn.memD, Dn.eqvD, Dn.eqvL, Dn.cmpOk, Dn.plainD, Dn.plainL, Dn.depD, Dn.depL, Dn.eqO, Dn.neO, Dn.ixO, Dn.atD, Dn.ixNat, Dn.lenO, Dn.ltO, Dn.leO, Dn.gtO, Dn.geO, Dn.eChain, Dn.isO, Dn.notIsO, Dn.isNoneB, Dn.notO, Dn.ninO, Dn.eCall, Dn.callF, Dn.lend, Dn.giveBack, Dn.seqOf, Dn.wipeS, Dn.backS, Dn.gN, Dn.eMut, Dn.tupleO, Dn.listO, Dn.eCut, Dn.pNone, Dn.pSome, Dn.cutO, Function.comp_def, -List.map_map, It.k, It.o, It.d, It.txt, It.bk, It.mark, It.ws, eCallV, eCallVK, eCallK, tab1_1, h1, ol, back]
  | sides ys =>
    have h1 := parse_sides_ok ys h.1 (Nat.le_trans h.2 (by decide))
    unfold f__law_parsed m__law_parsed
    cases nm <;> simp [Dn.run, Dn.lent, Dn.outsL, Dn.sCons, Dn.sIf, Dn.sRet, Dn.sRetV, Dn.sRetN, Dn.sSet, Dn.sExpr, Dn.sNil, Dn.sRaise, Dn.put, Dn.eC, Dn.eVar, Dn.eMove, Dn.bVar, Dn.bVal, Dn.e1, Dn.e2, Dn.e2T, Dn.eN, Dn.aNil, Dn.aCons, Dn.rd, Dn.rdAll, Dn.ofOp, Dn.view, Dn.isOpen, Dn.asBool, Dn.tVal, Dn.tYesM, Dn.tAndM, Dn.tOrM, Dn.tNotM, Dn.eIf, Dn.eAnd, Dn.eOr, Dn.eNot, Dn.U1, Dn.U2, Dn.ob, Dn.oi, Dn.eDisp, Dn.tms, Dn.tupO, Dn.lstO, Dn.isStrD, Dn.isiO, Dn.isiB, Dn.inO, Dn.memD, Dn.eqvD, Dn.eqvL, Dn.cmpOk, Dn.plainD, Dn.plainL, Dn.depD, Dn.depL, Dn.eqO, Dn.neO, Dn.ixO, Dn.atD, Dn.ixNat, Dn.lenO, Dn.ltO, Dn.leO, Dn.gtO, Dn.geO, Dn.eChain, Dn.isO, Dn.notIsO, Dn.isNoneB, Dn.notO, Dn.ninO, Dn.eCall, Dn.callF, Dn.lend, Dn.giveBack, Dn.seqOf, Dn.wipeS, Dn.backS, Dn.gN, Dn.eMut, Dn.tupleO, Dn.listO, Dn.eCut, Dn.pNone, Dn.pSome, Dn.cutO, Function.comp_def, -List.map_map, It.k, It.o, It.d, It.txt, It.bk, It.mark, It.ws, eCallV, eCallVK, eCallK, tab1_2, h1, ol, back]
  | pat ps =>
    have h1 := parse_pattern_ok ps h.1 h.2
    unfold f__law_parsed m__law_parsed
    cases nm <;> simp [Dn.run, Dn.lent, Dn.outsL, Dn.sCons, Dn.sIf, Dn.sRet, Dn.sRetV, Dn.sRetN, Dn.sSet, Dn.sExpr, Dn.sNil, Dn.sRaise, Dn.put, Dn.eC, Dn.eVar, Dn.eMove, Dn.bVar, Dn.bVal, Dn.e1, Dn.e2, Dn.e2T, Dn.eN, Dn.aNil, Dn.aCons, Dn.rd, Dn.rdAll, Dn.ofOp, Dn.view, Dn.isOpen, Dn.asBool, Dn.tVal, Dn.tYesM, Dn.tAndM, Dn.tOrM, Dn.tNotM, Dn.eIf, Dn.eAnd, Dn.eOr, Dn.eNot, Dn.U1, Dn.U2, Dn.ob, Dn.oi, Dn.eDisp, Dn.tms, Dn.tupO, Dn.lstO, Dn.isStrD, Dn.isiO, Dn.isiB, Dn.inO, Dn.memD, Dn.eqvD, Dn.eqvL, Dn.cmpOk, Dn.plainD, Dn.plainL, Dn.depD, Dn.depL, Dn.eqO, Dn.neO, Dn.ixO, Dn.atD, Dn.ixNat, Dn.lenO, Dn.ltO, Dn.leO, Dn.gtO, Dn.geO, Dn.eChain, Dn.isO, Dn.notIsO, Dn.isNoneB, Dn.notO, Dn.ninO, Dn.eCall, Dn.callF, Dn.lend, Dn.giveBack, Dn.seqOf, Dn.wipeS, Dn.backS, Dn.gN, Dn.eMut, Dn.tupleO, Dn.listO, Dn.eCut, Dn.pNone, Dn.pSome, Dn.cutO, Function.comp_def, -List.map_map, It.k, It.o, It.d, It.txt, It.bk, It.mark, It.ws, eCallV, eCallVK, eCallK, tab1_3, h1, ol, back]
end Tk46
set_option autoImplicit false
set_option linter.all false
set_option maxRecDepth 100000
namespace Tk46
open PySem Dn
theorem note_lc {α : Type} (k : Int) (o : O) (xs : List α) (G : α → D) (W : α → Str) (hq : seqOf (view o) = some (xs.map G)) (hl : xs.length ≤ 1000000) (hw : ∀ x ∈ xs, f__law_word [.d (G x)] = .ret (.d (.str (W x))) [none]) :
    eLcH 1 [2] (gN 2) tYesM (eCall 1 f__law_word (aCons (bVar 2) aNil)) [some (.d (.int k)), some o, none] = .ok (.lst (xs.map fun x => .str (W x))) [some (.d (.int k)), some o, none] := by
  refine eLcH_mapA (o := o) rfl hq hl fun x hx => ?_
  have h1 := hw x hx
  refine ⟨[some (.d (.int k)), if isOpen o = true then none else some o, some (.d (G x))], [some (.d (.int k)), if isOpen o = true then none else some o, some (.d (G x))], .d (.str (W x)), [some (.d (.int k)), if isOpen o = true then none else some o, some (.d (G x))], ?_, rfl, ?_, rfl, ?_⟩
  · by_cases ho : isOpen o = true <;> simp only [ho] <;> simp [Dn.run, Dn.lent, Dn.outsL, Dn.sCons, Dn.sIf, Dn.sRet, Dn.sRetV, Dn.sRetN, Dn.sSet, Dn.sExpr, Dn.sNil, Dn.sRaise, Dn.put, Dn.eC, Dn.eVar, Dn.eMove, Dn.bVar, Dn.bVal, Dn.e1, Dn.e2, Dn.e2T, Dn.eN, Dn.aNil, Dn.aCons, Dn.rd, Dn.rdAll, Dn.ofOp, Dn.view, Dn.isOpen, Dn.asBool, Dn.tVal, Dn.tYesM, Dn.tAndM, Dn.tOrM, Dn.tNotM, Dn.eIf, Dn.eAnd, Dn.eOr, Dn.eNot, Dn.U1, Dn.U2, Dn.ob, Dn.oi, Dn.eDisp, Dn.tms, Dn.tupO, Dn.lstO, Dn.isStrD, Dn.isiO, Dn.isiB, Dn.inO, Dn.memD, Dn.eqvD, Dn.eqvL, Dn.cmpOk, Dn.plainD, Dn.plainL, Dn.depD, Dn.depL, Dn.eqO, Dn.neO, Dn.ixO, Dn.atD, Dn.ixNat, Dn.lenO, Dn.ltO, Dn.leO, Dn.gtO, Dn.geO, Dn.eChain, Dn.isO, Dn.notIsO, Dn.isNoneB, Dn.notO, Dn.ninO, Dn.eCall, Dn.callF, Dn.lend, Dn.giveBack, Dn.seqOf, Dn.wipeS, Dn.backS, Dn.gN, Dn.eMut, Dn.tupleO, Dn.listO, Dn.eCut, Dn.pNone, Dn.pSome, Dn.cutO, Function.comp_def, -List.map_map]
  · simp [Dn.run, Dn.lent, Dn.outsL, Dn.sCons, Dn.sIf, Dn.sRet, Dn.sRetV, Dn.sRetN, Dn.sSet, Dn.sExpr, Dn.sNil, Dn.sRaise, Dn.put, Dn.eC, Dn.eVar, Dn.eMove, Dn.bVar, Dn.bVal, Dn.e1, Dn.e2, Dn.e2T, Dn.eN, Dn.aNil, Dn.aCons, Dn.rd, Dn.rdAll, Dn.ofOp, Dn.view, Dn.isOpen, Dn.asBool, Dn.tVal, Dn.tYesM, Dn.tAndM, Dn.tOrM, Dn.tNotM, Dn.eIf, Dn.eAnd, Dn.eOr, Dn.eNot, Dn.U1, Dn.U2, Dn.ob, Dn.oi, Dn.eDisp, Dn.tms, Dn.tupO, Dn.lstO, Dn.isStrD, Dn.isiO, Dn.isiB, Dn.inO, Dn.memD, Dn.eqvD, Dn.eqvL, Dn.cmpOk, Dn.plainD, Dn.plainL, Dn.depD, Dn.depL, Dn.eqO, Dn.neO, Dn.ixO, Dn.atD, Dn.ixNat, Dn.lenO, Dn.ltO, Dn.leO, Dn.gtO, Dn.geO, Dn.eChain, Dn.isO, Dn.notIsO, Dn.isNoneB, Dn.notO, Dn.ninO, Dn.eCall, Dn.callF, Dn.lend, Dn.giveBack, Dn.seqOf, Dn.wipeS, Dn.backS, Dn.gN, Dn.eMut, Dn.tupleO, Dn.listO, Dn.eCut, Dn.pNone, Dn.pSome, Dn.cutO, Function.comp_def, -List.map_map, h1]
  · by_cases ho : isOpen o = true <;> simp only [ho] <;> simp [Dn.run, Dn.lent, Dn.outsL, Dn.sCons, Dn.sIf, Dn.sRet, Dn.sRetV, Dn.sRetN, Dn.sSet, Dn.sExpr, Dn.sNil, Dn.sRaise, Dn.put, Dn.eC, Dn.eVar, Dn.eMove, Dn.bVar, Dn.bVal, Dn.e1, Dn.e2, Dn.e2T, Dn.eN, Dn.aNil, Dn.aCons, Dn.rd, Dn.rdAll, Dn.ofOp, Dn.view, Dn.isOpen, Dn.asBool, Dn.tVal, Dn.tYesM, Dn.tAndM, Dn.tOrM, Dn.tNotM, Dn.eIf, Dn.eAnd, Dn.eOr, Dn.eNot, Dn.U1, Dn.U2, Dn.ob, Dn.oi, Dn.eDisp, Dn.tms, Dn.tupO, Dn.lstO, Dn.isStrD, Dn.isiO, Dn.isiB, Dn.inO, Dn.memD, Dn.eqvD, Dn.eqvL, Dn.cmpOk, Dn.plainD, Dn.plainL, Dn.depD, Dn.depL, Dn.eqO, Dn.neO, Dn.ixO, Dn.atD, Dn.ixNat, Dn.lenO, Dn.ltO, Dn.leO, Dn.gtO, Dn.geO, Dn.eChain, Dn.isO, Dn.notIsO, Dn.isNoneB, Dn.notO, Dn.ninO, Dn.eCall, Dn.callF, Dn.lend, Dn.giveBack, Dn.seqOf, Dn.wipeS, Dn.backS, Dn.gN, Dn.eMut, Dn.tupleO, Dn.listO, Dn.eCut, Dn.pNone, Dn.pSome, Dn.cutO, Function.comp_def, -List.map_map]
theorem note_of (b : Bool) (i : It) (h : i.ok)
    (hlc : eLcH 1 [2] (gN 2) tYesM (eCall 1 f__law_word (aCons (bVar 2) aNil)) [some (.d (.int i.k)), some (i.o b), none] = .ok (.lst (i.ws.map .str)) [some (.d (.int i.k)), some (i.o b), none]) (hj : f__law_joined [.lst (i.ws.map .str), .d (.str i.mark)] = .ret (.d (.str i.txt)) [some (.lst (i.ws.map .str)), none]) :
    f__law_note [.d (.int i.k), i.o b] = .ret (.d (.str i.txt)) [none, i.bk b] := by
  unfold f__law_note m__law_note
  generalize hT : i.txt = T at hj ⊢
  generalize hW : i.ws.map D.str = W at hlc hj
  cases i with
  | lane ys =>
    simp only [It.k, It.o, It.mark, It.d] at hlc hj
    simp [Dn.run, Dn.lent, Dn.outsL, Dn.sCons, Dn.sIf, Dn.sRet, Dn.sRetV, Dn.sRetN, Dn.sSet, Dn.sExpr, Dn.sNil, Dn.sRaise, Dn.put, Dn.eC, Dn.eVar, Dn.eMove, Dn.bVar, Dn.bVal, Dn.e1, Dn.e2, Dn.e2T, Dn.eN, Dn.aNil, Dn.aCons, Dn.rd, Dn.rdAll, Dn.ofOp, Dn.view, Dn.isOpen, Dn.asBool, Dn.tVal, Dn.tYesM, Dn.tAndM, Dn.tOrM, Dn.tNotM, Dn.eIf, Dn.eAnd, Dn.eOr, Dn.eNot, Dn.U1, Dn.U2, Dn.ob, Dn.oi, Dn.eDisp, Dn.tms, Dn.tupO, Dn.lstO, Dn.isStrD, Dn.isiO, Dn.isiB, Dn.inO, Dn.memD, Dn.eqvD, Dn.eqvL, Dn.cmpOk, Dn.plainD, Dn.plainL, Dn.depD, Dn.depL, Dn.eqO, Dn.neO, Dn.ixO, Dn.atD, Dn.ixNat, Dn.lenO, Dn.ltO, Dn.leO, Dn.gtO, Dn.geO, Dn.eChain, Dn.isO, Dn.notIsO, Dn.isNoneB, Dn.notO, Dn.ninO, Dn.eCall, Dn.callF, Dn.lend, Dn.giveBack, Dn.seqOf, Dn.wipeS, Dn.backS, Dn.gN, Dn.eMut, Dn.tupleO, Dn.listO, Dn.eCut, Dn.pNone, Dn.pSome, Dn.cutO, Function.comp_def, -List.map_map, hlc, hj, It.k, It.o, It.bk, It.d]
  | log es =>
    cases b <;> simp only [It.k, It.o, It.mark, ol, if_true, Bool.false_eq_true, if_false] at hlc hj <;> simp [Dn.run, Dn.lent, Dn.outsL, Dn.sCons, Dn.sIf, Dn.sRet, Dn.sRetV, Dn.sRetN, Dn.sSet, Dn.sExpr, Dn.sNil, Dn.sRaise, Dn.put, Dn.eC, Dn.eVar, Dn.eMove, Dn.bVar, Dn.bVal, Dn.e1, Dn.e2, Dn.e2T, Dn.eN, Dn.aNil, Dn.aCons, Dn.rd, Dn.rdAll, Dn.ofOp, Dn.view, Dn.isOpen, Dn.asBool, Dn.tVal, Dn.tYesM, Dn.tAndM, Dn.tOrM, Dn.tNotM, Dn.eIf, Dn.eAnd, Dn.eOr, Dn.eNot, Dn.U1, Dn.U2, Dn.ob, Dn.oi, Dn.eDisp, Dn.tms, Dn.tupO, Dn.lstO, Dn.isStrD, Dn.isiO, Dn.isiB, Dn.inO, Dn.memD, Dn.eqvD, Dn.eqvL, Dn.cmpOk, Dn.plainD, Dn.plainL, Dn.depD, Dn.depL, Dn.eqO, Dn.neO, Dn.ixO, Dn.atD, Dn.ixNat, Dn.lenO, Dn.ltO, Dn.leO, Dn.gtO, Dn.geO, Dn.eChain, Dn.isO, Dn.notIsO, Dn.isNoneB, Dn.notO, Dn.ninO, Dn.eCall, Dn.callF, Dn.lend, Dn.giveBack, Dn.seqOf, Dn.wipeS, Dn.backS, Dn.gN, Dn.eMut, Dn.tupleO, Dn.listO, Dn.eCut, Dn.pNone, Dn.pSome, Dn.cutO, Function.comp_def, -List.map_map, hlc, hj, It.k, It.o, It.bk, ol, back]
  | sides ys =>
    cases b <;> simp only [It.k, It.o, It.mark, ol, if_true, Bool.false_eq_true, if_false] at hlc hj <;> simp [Dn.run, Dn.lent, Dn.outsL, Dn.sCons, Dn.sIf, Dn.sRet, Dn.sRetV, Dn.sRetN, Dn.sSet, Dn.sExpr, Dn.sNil, Dn.sRaise, Dn.put, Dn.eC, Dn.eVar, Dn.eMove, Dn.bVar, Dn.bVal, Dn.e1, Dn.e2, Dn.e2T, Dn.eN, Dn.aNil, Dn.aCons, Dn.rd, Dn.rdAll, Dn.ofOp, Dn.view, Dn.isOpen, Dn.asBool, Dn.tVal, Dn.tYesM, Dn.tAndM, Dn.tOrM, Dn.tNotM, Dn.eIf, Dn.eAnd, Dn.eOr, Dn.eNot, Dn.U1, Dn.U2, Dn.ob, Dn.oi, Dn.eDisp, Dn.tms, Dn.tupO, Dn.lstO, Dn.isStrD, Dn.isiO, Dn.isiB, Dn.inO, Dn.memD, Dn.eqvD, Dn.eqvL, Dn.cmpOk, Dn.plainD, Dn.plainL, Dn.depD, Dn.depL, Dn.eqO, Dn.neO, Dn.ixO, Dn.atD, Dn.ixNat, Dn.lenO, Dn.ltO, Dn.leO, Dn.gtO, Dn.geO, Dn.eChain, Dn.isO, Dn.notIsO, Dn.isNoneB, Dn.notO, Dn.ninO, Dn.eCall, Dn.callF, Dn.lend, Dn.giveBack, Dn.seqOf, Dn.wipeS, Dn.backS, Dn.gN, Dn.eMut, Dn.tupleO, Dn.listO, Dn.eCut, Dn.pNone, Dn.pSome, Dn.cutO, Function.comp_def, -List.map_map, hlc, hj, It.k, It.o, It.bk, ol, back]
  | pat ps =>
    simp only [It.k, It.o, It.mark, It.d] at hlc hj
    simp [Dn.run, Dn.lent, Dn.outsL, Dn.sCons, Dn.sIf, Dn.sRet, Dn.sRetV, Dn.sRetN, Dn.sSet, Dn.sExpr, Dn.sNil, Dn.sRaise, Dn.put, Dn.eC, Dn.eVar, Dn.eMove, Dn.bVar, Dn.bVal, Dn.e1, Dn.e2, Dn.e2T, Dn.eN, Dn.aNil, Dn.aCons, Dn.rd, Dn.rdAll, Dn.ofOp, Dn.view, Dn.isOpen, Dn.asBool, Dn.tVal, Dn.tYesM, Dn.tAndM, Dn.tOrM, Dn.tNotM, Dn.eIf, Dn.eAnd, Dn.eOr, Dn.eNot, Dn.U1, Dn.U2, Dn.ob, Dn.oi, Dn.eDisp, Dn.tms, Dn.tupO, Dn.lstO, Dn.isStrD, Dn.isiO, Dn.isiB, Dn.inO, Dn.memD, Dn.eqvD, Dn.eqvL, Dn.cmpOk, Dn.plainD, Dn.plainL, Dn.depD, Dn.depL, Dn.eqO, Dn.neO, Dn.ixO, Dn.atD, Dn.ixNat, Dn.lenO, Dn.ltO, Dn.leO, Dn.gtO, Dn.geO, Dn.eChain, Dn.isO, Dn.notIsO, Dn.isNoneB, Dn.notO, Dn.ninO, Dn.eCall, Dn.callF, Dn.lend, Dn.giveBack, Dn.seqOf, Dn.wipeS, Dn.backS, Dn.gN, Dn.eMut, Dn.tupleO, Dn.listO, Dn.eCut, Dn.pNone, Dn.pSome, Dn.cutO, Function.comp_def, -List.map_map, hlc, hj, It.k, It.o, It.bk, It.d]
theorem lane_words {ys : List Str} (h : laneB (ys.map D.str) = true) : ∀ y ∈ ys, y.length ≤ 4 := fun y hy => by
  have hc : (ys.map D.str).all carD = true := by
    unfold laneB at h
    exact (Bool.and_eq_true _ _ ▸ h).1
  exact car_len (List.all_eq_true.mp hc (.str y) (List.mem_map_of_mem hy))
theorem side_words {ys : List Str} (h : sdB ys = true) : ∀ y ∈ ys, y.length ≤ 1 := fun y hy => by
  have := List.all_eq_true.mp h y hy
  simp only [Bool.or_eq_true, beq_iff_eq] at this
  rcases this with rfl | rfl <;> decide
theorem ev_word {e : Ev} (h : eventB (evD e) = true) : (evW e).length ≤ 5 := by
  cases e with
  | dep => decide
  | arr x =>
    have hx : carOk x = true := by
      have h2 : depaD (.tup [.str "in", .str x]) = false := rfl
      simpa [eventB, evD, arrD, carD, h2] using h
    have := car_len hx
    show (("+" : Str) ++ x).length ≤ 5
    rw [Str.length_append]
    have : ("+" : Str).length = 1 := by decide
    omega
theorem note_ok (b : Bool) (i : It) (h : i.ok) : f__law_note [.d (.int i.k), i.o b] = .ret (.d (.str i.txt)) [none, i.bk b] := by
  cases i with
  | lane ys =>
    have hn := lane_words h.1
    exact note_of b (.lane ys) h (note_lc 0 _ ys D.str (fun y => y) rfl (Nat.le_trans h.2 (by decide)) fun y _ => word_str y) (joined_ok " " 4 ys hn (by decide) (by have := h.2; omega))
  | log es =>
    have ha : (es.map evD).all eventB = true := by
      have := h.1
      unfold logB at this
      exact (Bool.and_eq_true _ _ ▸ this).1
    have hev : ∀ e ∈ es, eventB (evD e) = true := fun e he => List.all_eq_true.mp ha _ (List.mem_map_of_mem he)
    refine note_of b (.log es) h ?_ (joined_ok " " 5 (es.map evW) (fun y hy => ?_) (by decide) (by have := h.2; rw [List.length_map]; omega))
    · have := note_lc 1 (ol b (es.map evD)) es evD evW (by cases b <;> rfl) (Nat.le_trans h.2 (by decide)) fun e he => word_ev e (Nat.le_trans (ev_word (hev e he)) (by decide))
      show _ = Res.ok (O.lst ((es.map evW).map D.str)) _
      rw [List.map_map]
      exact this
    · obtain ⟨e, he, rfl⟩ := List.mem_map.mp hy
      exact ev_word (hev e he)
  | sides ys =>
    have hn := side_words h.1
    exact note_of b (.sides ys) h (note_lc 2 _ ys D.str (fun y => y) (by cases b <;> rfl) (Nat.le_trans h.2 (by decide)) fun y _ => word_str y) (joined_ok "" 1 ys hn (by decide) (by have := h.2; omega))
  | pat ps =>
    refine note_of b (.pat ps) h ?_ (joined_ok " " 4 (ps.map pW) (fun y hy => ?_) (by decide) (by have := h.2; rw [List.length_map]; omega))
    · have := note_lc 3 (.d (.tup (ps.map pD))) ps pD pW rfl (Nat.le_trans h.2 (by decide)) fun p _ => by
        cases p with
        | none => exact word_non
        | some x => exact word_str x
      show _ = Res.ok (O.lst ((ps.map pW).map D.str)) _
      rw [List.map_map]
      exact this
    · obtain ⟨p, hp, rfl⟩ := List.mem_map.mp hy
      exact (pW_ok h.1 p hp).2.1
end Tk46
set_option autoImplicit false
set_option linter.all false
set_option maxRecDepth 100000
namespace Tk46
open PySem Dn
theorem log_dep {es : List Ev} (h : logB (es.map evD) = true) : logB ((es ++ [Ev.dep]).map evD) = true := by
  unfold logB at h ⊢
  rw [carsIn_arrs] at h ⊢
  rw [show arrs (es ++ [Ev.dep]) = arrs es by simp [arrs_append, arrs]]
  rw [List.map_append, List.all_append]
  rw [Bool.and_eq_true] at h ⊢
  refine ⟨?_, h.2⟩
  rw [h.1]
  decide +kernel
theorem changed_log (es : List Ev) (h : logB (es.map evD) = true) (hl : es.length ≤ 3000) : f__law_changed_right [.d (.int 1), .d (.lst (es.map evD))] = .ret (.d (.bl true)) [none, none] := by
  have f1 := formatted_ok true false (.log es) ⟨h, by omega⟩
  have ok2 : (It.log (es ++ [Ev.dep])).ok := ⟨log_dep h, by rw [List.length_append, List.length_singleton]; omega⟩
  have f2 := formatted_ok true false (.log (es ++ [Ev.dep])) ok2
  have f3 := note_ok true (.log (es ++ [Ev.dep])) ok2
  have f4 := formatted_ok true false (.log []) ⟨by decide +kernel, by decide⟩
  have ht : (It.log []).txt = "" := rfl
  rw [ht] at f4
  generalize (It.log (es ++ [Ev.dep])).txt = T at f2 f3
  generalize (It.log es).txt = T0 at f1
  have hE : (es ++ [Ev.dep]).map evD = es.map evD ++ [.tup [.str "out"]] := by rw [List.map_append]; rfl
  have el : (es.map evD).length ≤ 3000 := by rw [List.length_map]; exact hl
  simp only [It.k, It.o, It.bk, ol, back, if_true, hE, List.map_nil] at f1 f2 f3 f4
  generalize es.map evD = E at f1 f2 f3 el
  have e1 : E.length ≤ 1000000 := by omega
  unfold f__law_changed_right m__law_changed_right
  simp [Dn.run, Dn.lent, Dn.outsL, Dn.sCons, Dn.sIf, Dn.sRet, Dn.sRetV, Dn.sRetN, Dn.sSet, Dn.sExpr, Dn.sNil, Dn.sRaise, Dn.put, Dn.eC, Dn.eVar, Dn.eMove, Dn.bVar, Dn.bVal, Dn.e1, Dn.e2, Dn.e2T, Dn.eN, Dn.aNil, Dn.aCons, Dn.rd, Dn.rdAll, Dn.ofOp, Dn.view, Dn.isOpen, Dn.asBool, Dn.tVal, Dn.tYesM, Dn.tAndM, Dn.tOrM, Dn.tNotM, Dn.eIf, Dn.eAnd, Dn.eOr, Dn.eNot, Dn.U1, Dn.U2, Dn.ob, Dn.oi, Dn.eDisp, Dn.tms, Dn.tupO, Dn.lstO, Dn.isStrD, Dn.isiO, Dn.isiB, Dn.inO, Dn.memD, Dn.eqvD, Dn.eqvL, Dn.cmpOk, Dn.plainD, Dn.plainL, Dn.depD, Dn.depL, Dn.eqO, Dn.neO, Dn.ixO, Dn.atD, Dn.ixNat, Dn.lenO, Dn.ltO, Dn.leO, Dn.gtO, Dn.geO, Dn.eChain, Dn.isO, Dn.notIsO, Dn.isNoneB, Dn.notO, Dn.ninO, Dn.eCall, Dn.callF, Dn.lend, Dn.giveBack, Dn.seqOf, Dn.wipeS, Dn.backS, Dn.gN, Dn.eMut, Dn.tupleO, Dn.listO, Dn.eCut, Dn.pNone, Dn.pSome, Dn.cutO, Function.comp_def, -List.map_map, f1, f2, f3, f4, mAppend, mClear, e1]
theorem changed_sides (ys : List Str) (h : sdB ys = true) (hl : ys.length ≤ 3000) : f__law_changed_right [.d (.int 2), .d (.lst (ys.map .str))] = .ret (.d (.bl true)) [none, none] := by
  have f1 := formatted_ok true false (.sides ys) ⟨h, by omega⟩
  have ok2 : (It.sides (ys ++ [("R" : Str)])).ok := ⟨by unfold sdB at h ⊢; rw [List.all_append, h]; decide +kernel, by rw [List.length_append, List.length_singleton]; omega⟩
  have f2 := formatted_ok true false (.sides (ys ++ [("R" : Str)])) ok2
  have f3 := note_ok true (.sides (ys ++ [("R" : Str)])) ok2
  have f4 := formatted_ok true false (.sides []) ⟨by decide +kernel, by decide⟩
  have ht : (It.sides []).txt = "" := rfl
  rw [ht] at f4
  generalize (It.sides (ys ++ [("R" : Str)])).txt = T at f2 f3
  generalize (It.sides ys).txt = T0 at f1
  have hE : (ys ++ [("R" : Str)]).map D.str = ys.map D.str ++ [.str "R"] := by rw [List.map_append]; rfl
  have el : (ys.map D.str).length ≤ 3000 := by rw [List.length_map]; exact hl
  simp only [It.k, It.o, It.bk, ol, back, if_true, hE, List.map_nil] at f1 f2 f3 f4
  generalize ys.map D.str = E at f1 f2 f3 el
  have e1 : E.length ≤ 1000000 := by omega
  unfold f__law_changed_right m__law_changed_right
  simp [Dn.run, Dn.lent, Dn.outsL, Dn.sCons, Dn.sIf, Dn.sRet, Dn.sRetV, Dn.sRetN, Dn.sSet, Dn.sExpr, Dn.sNil, Dn.sRaise, Dn.put, Dn.eC, Dn.eVar, Dn.eMove, Dn.bVar, Dn.bVal, Dn.e1, Dn.e2, Dn.e2T, Dn.eN, Dn.aNil, Dn.aCons, Dn.rd, Dn.rdAll, Dn.ofOp, Dn.view, Dn.isOpen, Dn.asBool, Dn.tVal, Dn.tYesM, Dn.tAndM, Dn.tOrM, Dn.tNotM, Dn.eIf, Dn.eAnd, Dn.eOr, Dn.eNot, Dn.U1, Dn.U2, Dn.ob, Dn.oi, Dn.eDisp, Dn.tms, Dn.tupO, Dn.lstO, Dn.isStrD, Dn.isiO, Dn.isiB, Dn.inO, Dn.memD, Dn.eqvD, Dn.eqvL, Dn.cmpOk, Dn.plainD, Dn.plainL, Dn.depD, Dn.depL, Dn.eqO, Dn.neO, Dn.ixO, Dn.atD, Dn.ixNat, Dn.lenO, Dn.ltO, Dn.leO, Dn.gtO, Dn.geO, Dn.eChain, Dn.isO, Dn.notIsO, Dn.isNoneB, Dn.notO, Dn.ninO, Dn.eCall, Dn.callF, Dn.lend, Dn.giveBack, Dn.seqOf, Dn.wipeS, Dn.backS, Dn.gN, Dn.eMut, Dn.tupleO, Dn.listO, Dn.eCut, Dn.pNone, Dn.pSome, Dn.cutO, Function.comp_def, -List.map_map, f1, f2, f3, f4, mAppend, mClear, e1]
end Tk46
set_option autoImplicit false
set_option linter.all false
set_option maxRecDepth 100000
namespace Tk46
open PySem Dn
theorem car_small {x : Str} (h : carOk x = true) : smallC x := fun c hc => by
  simp only [carOk, Bool.and_eq_true] at h
  have := List.all_eq_true.mp h.2 c hc
  have h2 : (("abcdefghijklmnopqrstuvwxyz" : Str).cps.toList.all fun c => decide (c < 16 ^ 8)) = true := by decide +kernel
  exact of_decide_eq_true (List.all_eq_true.mp h2 c (of_decide_eq_true this))
theorem small_append {x y : Str} (hx : smallC x) (hy : smallC y) : smallC (x ++ y) := fun c hc => by
  have : (x ++ y).cps.toList = x.cps.toList ++ y.cps.toList := by
    rw [Str.cps_append, Array.toList_append]
  rw [this, List.mem_append] at hc
  exact hc.elim (hx c) (hy c)
theorem small_joined {a : Str} (ha : smallC a) : ∀ {ys : List Str}, (∀ y ∈ ys, smallC y) → smallC (joined a ys) := by
  intro ys
  unfold joined
  rw [TL.join_eq]
  induction ys with
  | nil => intro _ c hc; exact absurd hc (by simp [Str.join, Str.empty])
  | cons x r ih =>
    intro h
    cases r with
    | nil => exact h x (by simp)
    | cons z r =>
      show smallC (x ++ a ++ Str.join a (z :: r))
      exact small_append (small_append (h x (by simp)) ha) (ih fun y hy => h y (List.mem_cons_of_mem _ hy))
/-- the items' sizes -/
def It.sm : It → Prop
  | .lane ys => ys.length ≤ 4000 | .log es => es.length ≤ 4000 | .sides ys => ys.length ≤ 4000 | .pat ps => ps.length ≤ 4000
theorem sm1 (s : Str) (h : (s.cps.toList.all fun c => decide (c < 16 ^ 8)) = true) : smallC s := fun c hc => by
  have := List.all_eq_true.mp h c hc
  simpa using this
theorem It.rp {i : It} (h : i.ok) (hs : i.sm) : Rp i.d 400000 3 := by
  cases i with
  | lane ys =>
    have hc : (ys.map D.str).all carD = true := by
      have := h.1
      unfold laneB at this
      exact (Bool.and_eq_true _ _ ▸ this).1
    have hcar : ∀ y ∈ ys, carOk y = true := fun y hy => List.all_eq_true.mp hc (.str y) (List.mem_map_of_mem hy)
    refine (rp_tup (n := 42) (k := 0) fun x hx => ?_).mono (by have := h.2; rw [List.length_map]; omega) (by decide)
    obtain ⟨y, hy, rfl⟩ := List.mem_map.mp hx
    exact rp_str (n := 4) (car_small (hcar y hy)) (car_len (hcar y hy))
  | log es =>
    have ha : (es.map evD).all eventB = true := by
      have := h.1
      unfold logB at this
      exact (Bool.and_eq_true _ _ ▸ this).1
    refine (rp_lst (n := 94) (k := 1) fun x hx => ?_).mono (by have := h.2; rw [List.length_map]; omega) (by decide)
    obtain ⟨e, he, rfl⟩ := List.mem_map.mp hx
    have hev := List.all_eq_true.mp ha _ (List.mem_map_of_mem he)
    cases e with
    | dep =>
      refine (rp_tup (n := 42) (k := 0) fun x hx => ?_).mono (by simp) (by decide)
      simp only [List.mem_singleton] at hx
      subst hx
      exact rp_str (n := 4) (sm1 _ (by decide +kernel)) (by decide)
    | arr x =>
      have h2 : depaD (.tup [.str "in", .str x]) = false := rfl
      have hx : carOk x = true := by simpa [eventB, evD, arrD, carD, h2] using hev
      refine (rp_tup (n := 42) (k := 0) fun z hz => ?_).mono (by simp) (by decide)
      simp only [List.mem_cons, List.not_mem_nil, or_false] at hz
      rcases hz with rfl | rfl
      · exact rp_str (n := 4) (sm1 _ (by decide +kernel)) (by decide)
      · exact rp_str (n := 4) (car_small hx) (car_len hx)
  | sides ys =>
    have hw := h.1
    refine (rp_lst (n := 12) (k := 0) fun x hx => ?_).mono (by have : ys.length ≤ 4000 := hs; rw [List.length_map]; omega) (by decide)
    obtain ⟨y, hy, rfl⟩ := List.mem_map.mp hx
    have := List.all_eq_true.mp hw y hy
    simp only [Bool.or_eq_true, beq_iff_eq] at this
    rcases this with rfl | rfl <;> exact rp_str (n := 1) (sm1 _ (by decide +kernel)) (by decide)
  | pat ps =>
    refine (rp_tup (n := 42) (k := 0) fun x hx => ?_).mono (by have := h.2; rw [List.length_map]; omega) (by decide)
    obtain ⟨p, hp, rfl⟩ := List.mem_map.mp hx
    cases p with
    | none => exact rp_non.mono (by decide) (by decide)
    | some x =>
      have hc : carOk x = true := by
        have := h.1
        unfold patB at this
        have h3 := (Bool.and_eq_true _ _ ▸ this).1
        exact List.all_eq_true.mp h3 _ hp
      exact rp_str (n := 4) (car_small hc) (car_len hc)
theorem It.txt_small {i : It} (h : i.ok) : smallC i.txt := by
  cases i with
  | lane ys =>
    have hc : (ys.map D.str).all carD = true := by
      have := h.1
      unfold laneB at this
      exact (Bool.and_eq_true _ _ ▸ this).1
    exact small_joined (sm1 (" " : Str) (by decide +kernel)) fun y hy => car_small (List.all_eq_true.mp hc (.str y) (List.mem_map_of_mem hy))
  | log es =>
    have ha : (es.map evD).all eventB = true := by
      have := h.1
      unfold logB at this
      exact (Bool.and_eq_true _ _ ▸ this).1
    refine small_joined (sm1 (" " : Str) (by decide +kernel)) fun y hy => ?_
    obtain ⟨e, he, rfl⟩ := List.mem_map.mp hy
    have hev := List.all_eq_true.mp ha _ (List.mem_map_of_mem he)
    cases e with
    | dep => exact sm1 _ (by decide +kernel)
    | arr x =>
      have h2 : depaD (.tup [.str "in", .str x]) = false := rfl
      have hx : carOk x = true := by simpa [eventB, evD, arrD, carD, h2] using hev
      exact small_append (sm1 _ (by decide +kernel)) (car_small hx)
  | sides ys =>
    refine small_joined (sm1 ("" : Str) (by decide +kernel)) fun y hy => ?_
    have := List.all_eq_true.mp h.1 y hy
    simp only [Bool.or_eq_true, beq_iff_eq] at this
    rcases this with rfl | rfl <;> exact sm1 _ (by decide +kernel)
  | pat ps =>
    refine small_joined (sm1 (" " : Str) (by decide +kernel)) fun y hy => ?_
    obtain ⟨p, hp, rfl⟩ := List.mem_map.mp hy
    cases p with
    | none => exact sm1 _ (by decide +kernel)
    | some x =>
      have hc : carOk x = true := by
        have := h.1
        unfold patB at this
        have h3 := (Bool.and_eq_true _ _ ▸ this).1
        exact List.all_eq_true.mp h3 _ hp
      exact car_small hc
theorem joined_le {a : Str} {n : Nat} {ys : List Str} (h : ∀ y ∈ ys, y.length ≤ n) (ha : a.length ≤ 1) : (joined a ys).length ≤ (n + 1) * ys.length := by
  have t1 := totL_le h
  have t2 := joined_len a ys
  have t3 : (ys.length - 1) * a.length ≤ ys.length * 1 := Nat.mul_le_mul (by omega) ha
  rw [Nat.add_mul]
  omega
theorem It.txt_len {i : It} (h : i.ok) (hs : i.sm) : i.txt.length ≤ 24000 := by
  cases i with
  | lane ys =>
    have := joined_le (a := " ") (lane_words h.1) (by decide)
    have h2 := h.2
    show (joined " " ys).length ≤ _
    omega
  | log es =>
    have ha : (es.map evD).all eventB = true := by
      have := h.1
      unfold logB at this
      exact (Bool.and_eq_true _ _ ▸ this).1
    have := joined_le (a := " ") (ys := es.map evW) (n := 5) (fun y hy => by
      obtain ⟨e, he, rfl⟩ := List.mem_map.mp hy
      exact ev_word (List.all_eq_true.mp ha _ (List.mem_map_of_mem he))) (by decide)
    have h2 := h.2
    rw [List.length_map] at this
    show (joined " " (es.map evW)).length ≤ _
    omega
  | sides ys =>
    have := joined_le (a := "") (side_words h.1) (by decide)
    have h2 : ys.length ≤ 4000 := hs
    show (joined "" ys).length ≤ _
    omega
  | pat ps =>
    have := joined_le (a := " ") (ys := ps.map pW) (n := 4) (fun y hy => by
      obtain ⟨p, hp, rfl⟩ := List.mem_map.mp hy
      exact (pW_ok h.1 p hp).2.1) (by decide)
    have h2 := h.2
    rw [List.length_map] at this
    show (joined " " (ps.map pW)).length ≤ _
    omega
/-- repr of an item, of its text twice -/
def It.rt (i : It) : Str := (toP i.d).shown
theorem It.repr {i : It} (h : i.ok) (hs : i.sm) : reprO i.d = some (.d (.str i.rt)) := by
  have := It.rp h hs
  cases i with
  | lane ys => exact repr_tup this (by decide) (by decide)
  | log es => exact repr_lst this (by decide) (by decide)
  | sides ys => exact repr_lst this (by decide) (by decide)
  | pat ps => exact repr_tup this (by decide) (by decide)
theorem It.repr2 {i : It} (h : i.ok) (hs : i.sm) : ∃ T, reprO (.lst [.str i.txt, .str i.txt]) = some (.d (.str T)) :=
  ⟨_, repr_lst (rp_lst (n := 240002) (k := 0) (xs := [.str i.txt, .str i.txt]) fun x hx => by
    simp only [List.mem_cons, List.not_mem_nil, or_false, or_self] at hx
    subst hx
    exact rp_str (It.txt_small h) (It.txt_len h hs)) (by simp) (by decide)⟩
end Tk46
set_option autoImplicit false
set_option linter.all false
set_option maxRecDepth 100000
set_option maxHeartbeats 1000000
namespace Tk46
open PySem Dn
def kindB : SM := (sCons (sPar 6 7 (e2 ixO (bVar 4) (bVar 5)) (eN (U1 reprO) (aCons (bVal (e2 ixO (bVar 4) (bVar 5))) aNil))) (sCons (sSet 8 (eCall 2 f__law_note (aCons (bVar 5) (aCons (bVar 6) (aNil))))) (sCons (sIf (tVal (e2 neO (bVal (eN (U1 reprO) (aCons (bVal (eDisp lstO (aCons (bVal (eCall 3 f__law_formatted (aCons (bVar 5) (aCons (bVar 6) (aCons (bVal (eC (D.bl false))) (aNil)))))) (aCons (bVal (eCall 3 f__law_formatted (aCons (bVar 5) (aCons (bVar 6) (aCons (bVal (eC (D.bl true))) (aNil)))))) (aNil))))) aNil))) (bVal (eN (U1 reprO) (aCons (bVal (eDisp lstO (aCons (bVal (eVar 8)) (aCons (bVal (eVar 8)) (aNil))))) aNil))))) (sRet (eC (D.bl false))) (sNil)) (sCons (sSet 9 (eCall 3 f__law_parsed (aCons (bVar 5) (aCons (bVar 8) (aCons (bVal (eC (D.bl false))) (aNil)))))) (sCons (sIf (tOrM (tVal (e2 neO (bVal (eN (U1 reprO) (aCons (bVar 9) aNil))) (bVar 7))) (tVal (e2 neO (bVal (eN (U1 reprO) (aCons (bVar 6) aNil))) (bVar 7)))) (sRet (eC (D.bl false))) (sNil)) (sCons (sIf (tVal (e2 inO (bVar 5) (bVal (eDisp tupO (aCons (bVal (eC (D.int 1))) (aCons (bVal (eC (D.int 2))) (aNil))))))) (sCons (sExpr (eMut 9 mAppend (aCons (bVal (eC (D.str "more"))) (aNil)))) (sIf (tNotM (tVal (eCall 2 f__law_changed_right (aCons (bVar 5) (aCons (bVar 6) (aNil)))))) (sRet (eC (D.bl false))) (sNil))) (sNil)) (sIf (tVal (e2 neO (bVal (eN (U1 reprO) (aCons (bVal (eCall 3 f__law_parsed (aCons (bVar 5) (aCons (bVar 8) (aCons (bVal (eC (D.bl true))) (aNil)))))) aNil))) (bVar 7))) (sRet (eC (D.bl false))) (sNil))))))))
abbrev V11 (sc : Slot) (k src rep : Slot) (M : List D) (a5 a6 a7 a8 a9 : Slot) : Sl := [sc, k, src, rep, some (.lst M), a5, a6, a7, a8, a9, none]
theorem kind_lane (lk : Nat → Bool) (hlk : ∀ j, 4 ≤ j → lk j = false) (ys : List Str) (h : (It.lane ys).ok) (hl : ys.length ≤ 3000) (sc k src rep : Slot) (m1 m2 m3 : D) (a6 a7 a8 a9 : Slot) :
    ∃ b6 b7 b8 b9, kindB lk (V11 sc k src rep [.tup (ys.map .str), m1, m2, m3] (some (.d (.int 0))) a6 a7 a8 a9) = .nx (V11 sc k src rep [.tup (ys.map .str), m1, m2, m3] (some (.d (.int 0))) b6 b7 b8 b9) := by
  have hs : (It.lane ys).sm := by show ys.length ≤ 4000; omega
  have h1 := note_ok false (.lane ys) h
  have h2 := formatted_ok false false (.lane ys) h
  have h3 := formatted_ok false true (.lane ys) h
  have h4 := parsed_ok false (.lane ys) h
  have h5 := parsed_ok true (.lane ys) h
  have r1 := It.repr h hs
  obtain ⟨T2, r2⟩ := It.repr2 h hs
  generalize (It.lane ys).txt = T at h1 h2 h3 h4 h5 r2
  generalize (It.lane ys).rt = R at r1
  simp only [It.k, It.o, It.d, It.bk, ol, back, if_true, Bool.false_eq_true, if_false] at h1 h2 h3 h4 h5 r1
  generalize ys.map D.str = X at h1 h2 h3 h4 h5 r1 ⊢
  have l6 := hlk 6 (by decide)
  have l7 := hlk 7 (by decide)
  have l8 := hlk 8 (by decide)
  have l9 := hlk 9 (by decide)
  refine ⟨some (.d (.tup X)), some (.d (.str R)), some (.d (.str T)), some (.d (.tup X)), ?_⟩
  unfold kindB
  simp [Dn.run, Dn.lent, Dn.outsL, Dn.sCons, Dn.sIf, Dn.sRet, Dn.sRetV, Dn.sRetN, Dn.sSet, Dn.sExpr, Dn.sNil, Dn.sRaise, Dn.put, Dn.eC, Dn.eVar, Dn.eMove, Dn.bVar, Dn.bVal, Dn.e1, Dn.e2, Dn.e2T, Dn.eN, Dn.aNil, Dn.aCons, Dn.rd, Dn.rdAll, Dn.ofOp, Dn.view, Dn.isOpen, Dn.asBool, Dn.tVal, Dn.tYesM, Dn.tAndM, Dn.tOrM, Dn.tNotM, Dn.eIf, Dn.eAnd, Dn.eOr, Dn.eNot, Dn.U1, Dn.U2, Dn.ob, Dn.oi, Dn.eDisp, Dn.tms, Dn.tupO, Dn.lstO, Dn.isStrD, Dn.isiO, Dn.isiB, Dn.inO, Dn.memD, Dn.eqvD, Dn.eqvL, Dn.cmpOk, Dn.plainD, Dn.plainL, Dn.depD, Dn.depL, Dn.eqO, Dn.neO, Dn.ixO, Dn.atD, Dn.ixNat, Dn.lenO, Dn.ltO, Dn.leO, Dn.gtO, Dn.geO, Dn.eChain, Dn.isO, Dn.notIsO, Dn.isNoneB, Dn.notO, Dn.ninO, Dn.eCall, Dn.callF, Dn.lend, Dn.giveBack, Dn.seqOf, Dn.wipeS, Dn.backS, Dn.gN, Dn.eMut, Dn.tupleO, Dn.listO, Dn.eCut, Dn.pNone, Dn.pSome, Dn.cutO, Function.comp_def, -List.map_map, sPar, l6, l7, l8, l9, h1, h2, h3, h4, h5, r1, r2]
theorem kind_log (lk : Nat → Bool) (hlk : ∀ j, 4 ≤ j → lk j = false) (es : List Ev) (h : (It.log es).ok) (hl : es.length ≤ 3000) (sc k src rep : Slot) (m0 m2 m3 : D) (a6 a7 a8 a9 : Slot) :
    ∃ b6 b7 b8 b9, kindB lk (V11 sc k src rep [m0, .lst (es.map evD), m2, m3] (some (.d (.int 1))) a6 a7 a8 a9) = .nx (V11 sc k src rep [m0, .lst (es.map evD), m2, m3] (some (.d (.int 1))) b6 b7 b8 b9) := by
  have hs : (It.log es).sm := by show es.length ≤ 4000; omega
  have h1 := note_ok false (.log es) h
  have h2 := formatted_ok false false (.log es) h
  have h3 := formatted_ok false true (.log es) h
  have h4 := parsed_ok false (.log es) h
  have h5 := parsed_ok true (.log es) h
  have r1 := It.repr h hs
  obtain ⟨T2, r2⟩ := It.repr2 h hs
  generalize (It.log es).txt = T at h1 h2 h3 h4 h5 r2
  generalize (It.log es).rt = R at r1
  have h6 := changed_log es h.1 hl
  have el : (es.map evD).length ≤ 1000000 := by rw [List.length_map]; omega
  simp only [It.k, It.o, It.d, It.bk, ol, back, if_true, Bool.false_eq_true, if_false] at h1 h2 h3 h4 h5 r1
  generalize es.map evD = X at h1 h2 h3 h4 h5 r1 h6 el ⊢
  have l6 := hlk 6 (by decide)
  have l7 := hlk 7 (by decide)
  have l8 := hlk 8 (by decide)
  have l9 := hlk 9 (by decide)
  refine ⟨some (.d (.lst X)), some (.d (.str R)), some (.d (.str T)), some (.lst (X ++ [.str "more"])), ?_⟩
  unfold kindB
  simp [Dn.run, Dn.lent, Dn.outsL, Dn.sCons, Dn.sIf, Dn.sRet, Dn.sRetV, Dn.sRetN, Dn.sSet, Dn.sExpr, Dn.sNil, Dn.sRaise, Dn.put, Dn.eC, Dn.eVar, Dn.eMove, Dn.bVar, Dn.bVal, Dn.e1, Dn.e2, Dn.e2T, Dn.eN, Dn.aNil, Dn.aCons, Dn.rd, Dn.rdAll, Dn.ofOp, Dn.view, Dn.isOpen, Dn.asBool, Dn.tVal, Dn.tYesM, Dn.tAndM, Dn.tOrM, Dn.tNotM, Dn.eIf, Dn.eAnd, Dn.eOr, Dn.eNot, Dn.U1, Dn.U2, Dn.ob, Dn.oi, Dn.eDisp, Dn.tms, Dn.tupO, Dn.lstO, Dn.isStrD, Dn.isiO, Dn.isiB, Dn.inO, Dn.memD, Dn.eqvD, Dn.eqvL, Dn.cmpOk, Dn.plainD, Dn.plainL, Dn.depD, Dn.depL, Dn.eqO, Dn.neO, Dn.ixO, Dn.atD, Dn.ixNat, Dn.lenO, Dn.ltO, Dn.leO, Dn.gtO, Dn.geO, Dn.eChain, Dn.isO, Dn.notIsO, Dn.isNoneB, Dn.notO, Dn.ninO, Dn.eCall, Dn.callF, Dn.lend, Dn.giveBack, Dn.seqOf, Dn.wipeS, Dn.backS, Dn.gN, Dn.eMut, Dn.tupleO, Dn.listO, Dn.eCut, Dn.pNone, Dn.pSome, Dn.cutO, Function.comp_def, -List.map_map, sPar, l6, l7, l8, l9, h1, h2, h3, h4, h5, r1, r2, h6, mAppend, el]
theorem kind_sides (lk : Nat → Bool) (hlk : ∀ j, 4 ≤ j → lk j = false) (ys : List Str) (h : (It.sides ys).ok) (hl : ys.length ≤ 3000) (sc k src rep : Slot) (m0 m1 m3 : D) (a6 a7 a8 a9 : Slot) :
    ∃ b6 b7 b8 b9, kindB lk (V11 sc k src rep [m0, m1, .lst (ys.map .str), m3] (some (.d (.int 2))) a6 a7 a8 a9) = .nx (V11 sc k src rep [m0, m1, .lst (ys.map .str), m3] (some (.d (.int 2))) b6 b7 b8 b9) := by
  have hs : (It.sides ys).sm := by show ys.length ≤ 4000; omega
  have h1 := note_ok false (.sides ys) h
  have h2 := formatted_ok false false (.sides ys) h
  have h3 := formatted_ok false true (.sides ys) h
  have h4 := parsed_ok false (.sides ys) h
  have h5 := parsed_ok true (.sides ys) h
  have r1 := It.repr h hs
  obtain ⟨T2, r2⟩ := It.repr2 h hs
  generalize (It.sides ys).txt = T at h1 h2 h3 h4 h5 r2
  generalize (It.sides ys).rt = R at r1
  have h6 := changed_sides ys h.1 hl
  have el : (ys.map D.str).length ≤ 1000000 := by rw [List.length_map]; omega
  simp only [It.k, It.o, It.d, It.bk, ol, back, if_true, Bool.false_eq_true, if_false] at h1 h2 h3 h4 h5 r1
  generalize ys.map D.str = X at h1 h2 h3 h4 h5 r1 h6 el ⊢
  have l6 := hlk 6 (by decide)
  have l7 := hlk 7 (by decide)
  have l8 := hlk 8 (by decide)
  have l9 := hlk 9 (by decide)
  refine ⟨some (.d (.lst X)), some (.d (.str R)), some (.d (.str T)), some (.lst (X ++ [.str "more"])), ?_⟩
  unfold kindB
  simp [Dn.run, Dn.lent, Dn.outsL, Dn.sCons, Dn.sIf, Dn.sRet, Dn.sRetV, Dn.sRetN, Dn.sSet, Dn.sExpr, Dn.sNil, Dn.sRaise, Dn.put, Dn.eC, Dn.eVar, Dn.eMove, Dn.bVar, Dn.bVal, Dn.e1, Dn.e2, Dn.e2T, Dn.eN, Dn.aNil, Dn.aCons, Dn.rd, Dn.rdAll, Dn.ofOp, Dn.view, Dn.isOpen, Dn.asBool, Dn.tVal, Dn.tYesM, Dn.tAndM, Dn.tOrM, Dn.tNotM, Dn.eIf, Dn.eAnd, Dn.eOr, Dn.eNot, Dn.U1, Dn.U2, Dn.ob, Dn.oi, Dn.eDisp, Dn.tms, Dn.tupO, Dn.lstO, Dn.isStrD, Dn.isiO, Dn.isiB, Dn.inO, Dn.memD, Dn.eqvD, Dn.eqvL, Dn.cmpOk, Dn.plainD, Dn.plainL, Dn.depD, Dn.depL, Dn.eqO, Dn.neO, Dn.ixO, Dn.atD, Dn.ixNat, Dn.lenO, Dn.ltO, Dn.leO, Dn.gtO, Dn.geO, Dn.eChain, Dn.isO, Dn.notIsO, Dn.isNoneB, Dn.notO, Dn.ninO, Dn.eCall, Dn.callF, Dn.lend, Dn.giveBack, Dn.seqOf, Dn.wipeS, Dn.backS, Dn.gN, Dn.eMut, Dn.tupleO, Dn.listO, Dn.eCut, Dn.pNone, Dn.pSome, Dn.cutO, Function.comp_def, -List.map_map, sPar, l6, l7, l8, l9, h1, h2, h3, h4, h5, r1, r2, h6, mAppend, el]
theorem kind_pat (lk : Nat → Bool) (hlk : ∀ j, 4 ≤ j → lk j = false) (ps : List (Option Str)) (h : (It.pat ps).ok) (hl : ps.length ≤ 3000) (sc k src rep : Slot) (m0 m1 m2 : D) (a6 a7 a8 a9 : Slot) :
    ∃ b6 b7 b8 b9, kindB lk (V11 sc k src rep [m0, m1, m2, .tup (ps.map pD)] (some (.d (.int 3))) a6 a7 a8 a9) = .nx (V11 sc k src rep [m0, m1, m2, .tup (ps.map pD)] (some (.d (.int 3))) b6 b7 b8 b9) := by
  have hs : (It.pat ps).sm := by show ps.length ≤ 4000; omega
  have h1 := note_ok false (.pat ps) h
  have h2 := formatted_ok false false (.pat ps) h
  have h3 := formatted_ok false true (.pat ps) h
  have h4 := parsed_ok false (.pat ps) h
  have h5 := parsed_ok true (.pat ps) h
  have r1 := It.repr h hs
  obtain ⟨T2, r2⟩ := It.repr2 h hs
  generalize (It.pat ps).txt = T at h1 h2 h3 h4 h5 r2
  generalize (It.pat ps).rt = R at r1
  simp only [It.k, It.o, It.d, It.bk, ol, back, if_true, Bool.false_eq_true, if_false] at h1 h2 h3 h4 h5 r1
  generalize ps.map pD = X at h1 h2 h3 h4 h5 r1 ⊢
  have l6 := hlk 6 (by decide)
  have l7 := hlk 7 (by decide)
  have l8 := hlk 8 (by decide)
  have l9 := hlk 9 (by decide)
  refine ⟨some (.d (.tup X)), some (.d (.str R)), some (.d (.str T)), some (.d (.tup X)), ?_⟩
  unfold kindB
  simp [Dn.run, Dn.lent, Dn.outsL, Dn.sCons, Dn.sIf, Dn.sRet, Dn.sRetV, Dn.sRetN, Dn.sSet, Dn.sExpr, Dn.sNil, Dn.sRaise, Dn.put, Dn.eC, Dn.eVar, Dn.eMove, Dn.bVar, Dn.bVal, Dn.e1, Dn.e2, Dn.e2T, Dn.eN, Dn.aNil, Dn.aCons, Dn.rd, Dn.rdAll, Dn.ofOp, Dn.view, Dn.isOpen, Dn.asBool, Dn.tVal, Dn.tYesM, Dn.tAndM, Dn.tOrM, Dn.tNotM, Dn.eIf, Dn.eAnd, Dn.eOr, Dn.eNot, Dn.U1, Dn.U2, Dn.ob, Dn.oi, Dn.eDisp, Dn.tms, Dn.tupO, Dn.lstO, Dn.isStrD, Dn.isiO, Dn.isiB, Dn.inO, Dn.memD, Dn.eqvD, Dn.eqvL, Dn.cmpOk, Dn.plainD, Dn.plainL, Dn.depD, Dn.depL, Dn.eqO, Dn.neO, Dn.ixO, Dn.atD, Dn.ixNat, Dn.lenO, Dn.ltO, Dn.leO, Dn.gtO, Dn.geO, Dn.eChain, Dn.isO, Dn.notIsO, Dn.isNoneB, Dn.notO, Dn.ninO, Dn.eCall, Dn.callF, Dn.lend, Dn.giveBack, Dn.seqOf, Dn.wipeS, Dn.backS, Dn.gN, Dn.eMut, Dn.tupleO, Dn.listO, Dn.eCut, Dn.pNone, Dn.pSome, Dn.cutO, Function.comp_def, -List.map_map, sPar, l6, l7, l8, l9, h1, h2, h3, h4, h5, r1, r2]
end Tk46
set_option autoImplicit false
set_option linter.all false
set_option maxRecDepth 100000
namespace Tk46
open PySem Dn
abbrev W11 (sc k src rep a4 a5 a6 a7 a8 a9 : Slot) : Sl := [sc, k, src, rep, a4, a5, a6, a7, a8, a9, none]
theorem kinds_run (lk : Nat → Bool) (hlk : ∀ j, 1 ≤ j → lk j = false) (ys : List Str) (es : List Ev) (mv : List Str) (ps : List (Option Str)) (h0 : (It.lane ys).ok) (h1 : (It.log es).ok) (h2 : (It.sides mv).ok) (h3 : (It.pat ps).ok)
    (l0 : ys.length ≤ 3000) (l1 : es.length ≤ 3000) (l2 : mv.length ≤ 3000) (l3 : ps.length ≤ 3000) (sc k src rep a5 a6 a7 a8 a9 : Slot) :
    ∃ b5 b6 b7 b8 b9, sFor (iN rangeOp (aCons (bVal (eC (D.int 4))) aNil)) (gN 5) kindB lk (V11 sc k src rep [.tup (ys.map .str), .lst (es.map evD), .lst (mv.map .str), .tup (ps.map pD)] a5 a6 a7 a8 a9)
      = .nx (V11 sc k src rep [.tup (ys.map .str), .lst (es.map evD), .lst (mv.map .str), .tup (ps.map pD)] b5 b6 b7 b8 b9) := by
  have hq : ∀ j, 4 ≤ j → lk j = false := fun j hj => hlk j (by omega)
  obtain ⟨b6, b7, b8, b9, e0⟩ := kind_lane lk hq ys h0 l0 sc k src rep (.lst (es.map evD)) (.lst (mv.map .str)) (.tup (ps.map pD)) a6 a7 a8 a9
  obtain ⟨c6, c7, c8, c9, e1⟩ := kind_log lk hq es h1 l1 sc k src rep (.tup (ys.map .str)) (.lst (mv.map .str)) (.tup (ps.map pD)) b6 b7 b8 b9
  obtain ⟨d6, d7, d8, d9, e2⟩ := kind_sides lk hq mv h2 l2 sc k src rep (.tup (ys.map .str)) (.lst (es.map evD)) (.tup (ps.map pD)) c6 c7 c8 c9
  obtain ⟨f6, f7, f8, f9, e3⟩ := kind_pat lk hq ps h3 l3 sc k src rep (.tup (ys.map .str)) (.lst (es.map evD)) (.lst (mv.map .str)) d6 d7 d8 d9
  refine ⟨some (.d (.int 3)), f6, f7, f8, f9, ?_⟩
  generalize ys.map D.str = X0 at *
  generalize es.map evD = X1 at *
  generalize mv.map D.str = X2 at *
  generalize ps.map pD = X3 at *
  have l5 := hlk 5 (by decide)
  have hg : ∀ (n : Int) (z5 z6 z7 z8 z9 : Slot), gN 5 lk (.int n) (V11 sc k src rep [.tup X0, .lst X1, .lst X2, .tup X3] z5 z6 z7 z8 z9) = some (V11 sc k src rep [.tup X0, .lst X1, .lst X2, .tup X3] (some (.d (.int n))) z6 z7 z8 z9) := by
    intro n z5 z6 z7 z8 z9
    unfold gN
    rw [if_neg (by simp [l5])]
    rfl
  have hi : iN rangeOp (aCons (bVal (eC (D.int 4))) aNil) (V11 sc k src rep [.tup X0, .lst X1, .lst X2, .tup X3] a5 a6 a7 a8 a9) = .ok [.int 0, .int 1, .int 2, .int 3] (V11 sc k src rep [.tup X0, .lst X1, .lst X2, .tup X3] a5 a6 a7 a8 a9) := rfl
  unfold sFor
  rw [hi]
  simp only [ofRes_ok, forL, ofG, hg, e0, e1, e2, e3, turnEnd]
def repB : SM := sCons (sSet 4 (eCall 1 f__law_made (aCons (bVar 2) (aNil)))) (sFor (iN rangeOp (aCons (bVal (eC (D.int 4))) (aNil))) (gN 5) kindB)
theorem rep_turn (lk : Nat → Bool) (hlk : ∀ j, 1 ≤ j → lk j = false) (m : Nat) (s : List D) (hs : SrcOk m s) (hm : m ≤ 50000000) (sc k rep a4 a5 a6 a7 a8 a9 : Slot) :
    ∃ s' b4 b5 b6 b7 b8 b9, repB lk (W11 sc k (some (.lst s)) rep a4 a5 a6 a7 a8 a9) = .nx (W11 sc k (some (.lst s')) rep b4 b5 b6 b7 b8 b9) ∧ SrcOk (m + 1000) s' := by
  obtain ⟨ws, es, mv, ps, s', e, h0, l0, h1, l1, h2, l2, h3, l3, hs'⟩ := made_ok m s hs hm
  obtain ⟨b5, b6, b7, b8, b9, ek⟩ := kinds_run lk hlk ws es mv ps ⟨h0, by omega⟩ ⟨h1, by omega⟩ ⟨h2, by omega⟩ ⟨h3, by omega⟩ (by omega) (by omega) (by omega) (by omega) sc k (some (.lst s')) rep a5 a6 a7 a8 a9
  refine ⟨s', some (.lst [.tup (ws.map .str), .lst (es.map evD), .lst (mv.map .str), .tup (ps.map pD)]), b5, b6, b7, b8, b9, ?_, hs'⟩
  have l4 := hlk 4 (by decide)
  have e4 : sSet 4 (eCall 1 f__law_made (aCons (bVar 2) (aNil))) lk (W11 sc k (some (.lst s)) rep a4 a5 a6 a7 a8 a9) = .nx (V11 sc k (some (.lst s')) rep [.tup (ws.map .str), .lst (es.map evD), .lst (mv.map .str), .tup (ps.map pD)] a5 a6 a7 a8 a9) := by
    generalize ws.map D.str = X0 at *
    generalize es.map evD = X1 at *
    generalize mv.map D.str = X2 at *
    generalize ps.map pD = X3 at *
    simp [sSet, eCall, callF, lend, isOpen, aCons, bVar, aNil, e, giveBack, ofRes, put, l4]
  unfold repB
  rw [seq_nx e4]
  exact ek
def srcB : SM := sCons (sSet 2 (eCall 2 f__law_source (aCons (bVar 0) (aCons (bVar 1) (aNil))))) (sFor (iN rangeOp (aCons (bVal (eC (D.int 3))) (aNil))) (gN 3) repB)
theorem src_turn (lk : Nat → Bool) (hlk : ∀ j, 1 ≤ j → lk j = false) (ns : List Int) (k : Int) (h0 : 0 ≤ k) (h1 : k ≤ 62) (a2 a3 a4 a5 a6 a7 a8 a9 : Slot) :
    ∃ b2 b3 b4 b5 b6 b7 b8 b9, srcB lk (W11 (some (.d (.scr ns))) (some (.d (.int k))) a2 a3 a4 a5 a6 a7 a8 a9) = .nx (W11 (some (.d (.scr ns))) (some (.d (.int k))) b2 b3 b4 b5 b6 b7 b8 b9) := by
  obtain ⟨s, e, hs⟩ := source_ok ns k h0 h1
  have l2 := hlk 2 (by decide)
  have l3 := hlk 3 (by decide)
  have e2 : sSet 2 (eCall 2 f__law_source (aCons (bVar 0) (aCons (bVar 1) (aNil)))) lk (W11 (some (.d (.scr ns))) (some (.d (.int k))) a2 a3 a4 a5 a6 a7 a8 a9) = .nx (W11 (some (.d (.scr ns))) (some (.d (.int k))) (some (.lst s)) a3 a4 a5 a6 a7 a8 a9) := by
    simp [sSet, eCall, callF, lend, isOpen, aCons, bVar, aNil, e, giveBack, ofRes, put, l2]
  have hg : ∀ (n : Int) (z2 z3 z4 z5 z6 z7 z8 z9 : Slot), gN 3 lk (.int n) (W11 (some (.d (.scr ns))) (some (.d (.int k))) z2 z3 z4 z5 z6 z7 z8 z9) = some (W11 (some (.d (.scr ns))) (some (.d (.int k))) z2 (some (.d (.int n))) z4 z5 z6 z7 z8 z9) := by
    intro n z2 z3 z4 z5 z6 z7 z8 z9
    unfold gN
    rw [if_neg (by simp [l3])]
    rfl
  have hi : iN rangeOp (aCons (bVal (eC (D.int 3))) aNil) (W11 (some (.d (.scr ns))) (some (.d (.int k))) (some (.lst s)) a3 a4 a5 a6 a7 a8 a9) = .ok [.int 0, .int 1, .int 2] (W11 (some (.d (.scr ns))) (some (.d (.int k))) (some (.lst s)) a3 a4 a5 a6 a7 a8 a9) := rfl
  obtain ⟨s1, b4, b5, b6, b7, b8, b9, f1, hs1⟩ := rep_turn lk hlk 0 s hs (by decide) (some (.d (.scr ns))) (some (.d (.int k))) (some (.d (.int 0))) a4 a5 a6 a7 a8 a9
  obtain ⟨s2, c4, c5, c6, c7, c8, c9, f2, hs2⟩ := rep_turn lk hlk _ s1 hs1 (by decide) (some (.d (.scr ns))) (some (.d (.int k))) (some (.d (.int 1))) b4 b5 b6 b7 b8 b9
  obtain ⟨s3, d4, d5, d6, d7, d8, d9, f3, hs3⟩ := rep_turn lk hlk _ s2 hs2 (by decide) (some (.d (.scr ns))) (some (.d (.int k))) (some (.d (.int 2))) c4 c5 c6 c7 c8 c9
  refine ⟨some (.lst s3), some (.d (.int 2)), d4, d5, d6, d7, d8, d9, ?_⟩
  unfold srcB
  rw [seq_nx e2]
  unfold sFor
  rw [hi]
  simp only [ofRes_ok, forL, ofG, hg, f1, f2, f3, turnEnd]
theorem srcs_run (lk : Nat → Bool) (hlk : ∀ j, 1 ≤ j → lk j = false) (ns : List Int) : ∀ (ks : List D) (_ : ∀ d ∈ ks, ∃ k : Int, d = .int k ∧ 0 ≤ k ∧ k ≤ 62) (a1 a2 a3 a4 a5 a6 a7 a8 a9 : Slot),
    ∃ b1 b2 b3 b4 b5 b6 b7 b8 b9, forL (fun d lk δ => ofG (gN 1 lk d δ) (srcB lk)) lk ks (W11 (some (.d (.scr ns))) a1 a2 a3 a4 a5 a6 a7 a8 a9) = .nx (W11 (some (.d (.scr ns))) b1 b2 b3 b4 b5 b6 b7 b8 b9)
  | [], _, a1, a2, a3, a4, a5, a6, a7, a8, a9 => ⟨a1, a2, a3, a4, a5, a6, a7, a8, a9, rfl⟩
  | d :: ks, h, a1, a2, a3, a4, a5, a6, a7, a8, a9 => by
    obtain ⟨k, rfl, k0, k1⟩ := h d (List.mem_cons_self ..)
    obtain ⟨b2, b3, b4, b5, b6, b7, b8, b9, e⟩ := src_turn lk hlk ns k k0 k1 a2 a3 a4 a5 a6 a7 a8 a9
    obtain ⟨c1, c2, c3, c4, c5, c6, c7, c8, c9, f⟩ := srcs_run lk hlk ns ks (fun x hx => h x (List.mem_cons_of_mem _ hx)) (some (.d (.int k))) b2 b3 b4 b5 b6 b7 b8 b9
    refine ⟨c1, c2, c3, c4, c5, c6, c7, c8, c9, ?_⟩
    have l1 := hlk 1 (by decide)
    have hg : gN 1 lk (.int k) (W11 (some (.d (.scr ns))) a1 a2 a3 a4 a5 a6 a7 a8 a9) = some (W11 (some (.d (.scr ns))) (some (.d (.int k))) a2 a3 a4 a5 a6 a7 a8 a9) := by
      unfold gN
      rw [if_neg (by simp [l1])]
      rfl
    unfold forL
    simp only [hg, ofG, e, turnEnd]
    exact f
end Tk46
set_option autoImplicit false
set_option linter.all false
set_option maxRecDepth 100000
namespace Tk46
open PySem Dn
theorem q1g (V : Sl) (h : V[10]? = some (some (.lst [.tup [], .lst [], .lst [], .tup []]))) : e2 eqO (bVar 10) (bVal (eDisp lstO (aCons (bVal (eDisp tupO (aNil))) (aCons (bVal (eDisp lstO (aNil))) (aCons (bVal (eDisp lstO (aNil))) (aCons (bVal (eDisp tupO (aNil))) (aNil))))))) V = .ok (.d (.bl true)) V := by
  simp [Dn.run, Dn.lent, Dn.outsL, Dn.sCons, Dn.sIf, Dn.sRet, Dn.sRetV, Dn.sRetN, Dn.sSet, Dn.sExpr, Dn.sNil, Dn.sRaise, Dn.put, Dn.eC, Dn.eVar, Dn.eMove, Dn.bVar, Dn.bVal, Dn.e1, Dn.e2, Dn.e2T, Dn.eN, Dn.aNil, Dn.aCons, Dn.rd, Dn.rdAll, Dn.ofOp, Dn.view, Dn.isOpen, Dn.asBool, Dn.tVal, Dn.tYesM, Dn.tAndM, Dn.tOrM, Dn.tNotM, Dn.eIf, Dn.eAnd, Dn.eOr, Dn.eNot, Dn.U1, Dn.U2, Dn.ob, Dn.oi, Dn.eDisp, Dn.tms, Dn.tupO, Dn.lstO, Dn.isStrD, Dn.isiO, Dn.isiB, Dn.inO, Dn.memD, Dn.eqvD, Dn.eqvL, Dn.cmpOk, Dn.plainD, Dn.plainL, Dn.depD, Dn.depL, Dn.eqO, Dn.neO, Dn.ixO, Dn.atD, Dn.ixNat, Dn.lenO, Dn.ltO, Dn.leO, Dn.gtO, Dn.geO, Dn.eChain, Dn.isO, Dn.notIsO, Dn.isNoneB, Dn.notO, Dn.ninO, Dn.eCall, Dn.callF, Dn.lend, Dn.giveBack, Dn.seqOf, Dn.wipeS, Dn.backS, Dn.gN, Dn.eMut, Dn.tupleO, Dn.listO, Dn.eCut, Dn.pNone, Dn.pSome, Dn.cutO, Function.comp_def, -List.map_map, h]
theorem q2g (V : Sl) (FF : Fn) (h : FF [] = .ret (.d (.bl true)) []) : eCall 0 FF aNil V = .ok (.d (.bl true)) V := by
  simp [Dn.run, Dn.lent, Dn.outsL, Dn.sCons, Dn.sIf, Dn.sRet, Dn.sRetV, Dn.sRetN, Dn.sSet, Dn.sExpr, Dn.sNil, Dn.sRaise, Dn.put, Dn.eC, Dn.eVar, Dn.eMove, Dn.bVar, Dn.bVal, Dn.e1, Dn.e2, Dn.e2T, Dn.eN, Dn.aNil, Dn.aCons, Dn.rd, Dn.rdAll, Dn.ofOp, Dn.view, Dn.isOpen, Dn.asBool, Dn.tVal, Dn.tYesM, Dn.tAndM, Dn.tOrM, Dn.tNotM, Dn.eIf, Dn.eAnd, Dn.eOr, Dn.eNot, Dn.U1, Dn.U2, Dn.ob, Dn.oi, Dn.eDisp, Dn.tms, Dn.tupO, Dn.lstO, Dn.isStrD, Dn.isiO, Dn.isiB, Dn.inO, Dn.memD, Dn.eqvD, Dn.eqvL, Dn.cmpOk, Dn.plainD, Dn.plainL, Dn.depD, Dn.depL, Dn.eqO, Dn.neO, Dn.ixO, Dn.atD, Dn.ixNat, Dn.lenO, Dn.ltO, Dn.leO, Dn.gtO, Dn.geO, Dn.eChain, Dn.isO, Dn.notIsO, Dn.isNoneB, Dn.notO, Dn.ninO, Dn.eCall, Dn.callF, Dn.lend, Dn.giveBack, Dn.seqOf, Dn.wipeS, Dn.backS, Dn.gN, Dn.eMut, Dn.tupleO, Dn.listO, Dn.eCut, Dn.pNone, Dn.pSome, Dn.cutO, Function.comp_def, -List.map_map, h]
theorem ret_and {A B : EM} {lk : Nat → Bool} {V : Sl} (h1 : A V = .ok (.d (.bl true)) V) (h2 : B V = .ok (.d (.bl true)) V) : sRet (eAnd A B) lk V = .rt (.d (.bl true)) V := by
  unfold sRet eAnd
  rw [h1]
  simp only [Res.bind_ok, asBool, h2, ofRes_ok]
theorem law_of (hL : f__law_long_right [] = .ret (.d (.bl true)) []) (ns : List Int) (hl : ns.length ≤ 63) : ∃ outs, f_law [.d (.scr ns)] = .ret (.d (.bl true)) outs := by
  have hlk : ∀ j, 1 ≤ j → lent [.d (.scr ns)] j = false := fun j hj => by
    cases j with
    | zero => omega
    | succ j => rfl
  obtain ⟨q, q0, q1, hi⟩ : ∃ q : Nat, q ≤ 5 ∧ 1 ≤ q ∧ iN rangeOp (aCons (bVal (eN (U2 max2O) (aCons (bVal (eC (D.int 1))) (aCons (bVal (eN (U2 min2O) (aCons (bVal (eC (D.int 5))) (aCons (bVal (eN (U1 lenO) (aCons (bVar 0) aNil))) aNil)))) aNil)))) (aNil)) (W11 (some (.d (.scr ns))) none none none none none none none none none) = .ok (Dn.intsFrom 0 1 q) (W11 (some (.d (.scr ns))) none none none none none none none none none) := by
    refine ⟨(max 1 (min 5 ns.length)), by omega, by omega, ?_⟩
    have h1 : min2O (.int 5) (.int ns.length) = some (.d (.int ((min 5 ns.length : Nat) : Int))) := by
      show oi (if (ns.length : Int) < 5 then (ns.length : Int) else 5) = _
      rw [show (if (ns.length : Int) < 5 then (ns.length : Int) else 5) = ((min 5 ns.length : Nat) : Int) by split <;> omega]
    have h2 : max2O (.int 1) (.int ((min 5 ns.length : Nat) : Int)) = some (.d (.int ((max 1 (min 5 ns.length) : Nat) : Int))) := by
      show oi (if ((min 5 ns.length : Nat) : Int) > 1 then ((min 5 ns.length : Nat) : Int) else 1) = _
      rw [show (if ((min 5 ns.length : Nat) : Int) > 1 then ((min 5 ns.length : Nat) : Int) else 1) = ((max 1 (min 5 ns.length) : Nat) : Int) by split <;> omega]
    have sm : smallI ((max 1 (min 5 ns.length) : Nat) : Int) = true := by unfold smallI; simp; omega
    generalize hb : max 1 (min 5 ns.length) = b at *
    generalize ha : min 5 ns.length = a at *
    have sl : smallI (ns.length : Int) = true := by unfold smallI; simp; omega
    simp [Dn.run, Dn.lent, Dn.outsL, Dn.sCons, Dn.sIf, Dn.sRet, Dn.sRetV, Dn.sRetN, Dn.sSet, Dn.sExpr, Dn.sNil, Dn.sRaise, Dn.put, Dn.eC, Dn.eVar, Dn.eMove, Dn.bVar, Dn.bVal, Dn.e1, Dn.e2, Dn.e2T, Dn.eN, Dn.aNil, Dn.aCons, Dn.rd, Dn.rdAll, Dn.ofOp, Dn.view, Dn.isOpen, Dn.asBool, Dn.tVal, Dn.tYesM, Dn.tAndM, Dn.tOrM, Dn.tNotM, Dn.eIf, Dn.eAnd, Dn.eOr, Dn.eNot, Dn.U1, Dn.U2, Dn.ob, Dn.oi, Dn.eDisp, Dn.tms, Dn.tupO, Dn.lstO, Dn.isStrD, Dn.isiO, Dn.isiB, Dn.inO, Dn.memD, Dn.eqvD, Dn.eqvL, Dn.cmpOk, Dn.plainD, Dn.plainL, Dn.depD, Dn.depL, Dn.eqO, Dn.neO, Dn.ixO, Dn.atD, Dn.ixNat, Dn.lenO, Dn.ltO, Dn.leO, Dn.gtO, Dn.geO, Dn.eChain, Dn.isO, Dn.notIsO, Dn.isNoneB, Dn.notO, Dn.ninO, Dn.eCall, Dn.callF, Dn.lend, Dn.giveBack, Dn.seqOf, Dn.wipeS, Dn.backS, Dn.gN, Dn.eMut, Dn.tupleO, Dn.listO, Dn.eCut, Dn.pNone, Dn.pSome, Dn.cutO, Function.comp_def, -List.map_map, iN, rangeOp, h1, h2, sm]
  obtain ⟨b1, b2, b3, b4, b5, b6, b7, b8, b9, e⟩ := srcs_run (lent [.d (.scr ns)]) hlk ns (Dn.intsFrom 0 1 q) (fun d hd => by
    unfold Dn.intsFrom at hd
    obtain ⟨k, hk, rfl⟩ := List.mem_map.mp hd
    have := List.mem_range.mp hk
    exact ⟨_, rfl, by omega, by omega⟩) none none none none none none none none none
  have a1 : sFor (iN rangeOp (aCons (bVal (eN (U2 max2O) (aCons (bVal (eC (D.int 1))) (aCons (bVal (eN (U2 min2O) (aCons (bVal (eC (D.int 5))) (aCons (bVal (eN (U1 lenO) (aCons (bVar 0) aNil))) aNil)))) aNil)))) (aNil))) (gN 1) srcB (lent [.d (.scr ns)]) (W11 (some (.d (.scr ns))) none none none none none none none none none) = .nx (W11 (some (.d (.scr ns))) b1 b2 b3 b4 b5 b6 b7 b8 b9) := by
    unfold sFor
    rw [hi]
    simp only [ofRes_ok]
    exact e
  have p0 := parse_lane_ok [] (by decide +kernel) (by decide)
  have p1 := parse_log_ok [] (by decide +kernel) (by decide)
  have p2 := parse_sides_ok [] (by decide +kernel) (by decide)
  have p3 := parse_pattern_ok [] (by decide +kernel) (by decide)
  simp only [List.map_nil, joined_nil] at p0 p1 p2 p3
  unfold srcB repB kindB at a1
  have a2 : sSet 10 (eDisp lstO (aCons (bVal (eCall 1 f_parse_lane (aCons (bVal (eC (D.str ""))) (aNil)))) (aCons (bVal (eCall 1 f_parse_log (aCons (bVal (eC (D.str ""))) (aNil)))) (aCons (bVal (eCall 1 f_parse_sides (aCons (bVal (eC (D.str ""))) (aNil)))) (aCons (bVal (eCall 1 f_parse_pattern (aCons (bVal (eC (D.str ""))) (aNil)))) (aNil)))))) (lent [.d (.scr ns)]) (W11 (some (.d (.scr ns))) b1 b2 b3 b4 b5 b6 b7 b8 b9) = .nx [some (.d (.scr ns)), b1, b2, b3, b4, b5, b6, b7, b8, b9, some (.lst [.tup [], .lst [], .lst [], .tup []])] := by
    simp [Dn.run, Dn.lent, Dn.outsL, Dn.sCons, Dn.sIf, Dn.sRet, Dn.sRetV, Dn.sRetN, Dn.sSet, Dn.sExpr, Dn.sNil, Dn.sRaise, Dn.put, Dn.eC, Dn.eVar, Dn.eMove, Dn.bVar, Dn.bVal, Dn.e1, Dn.e2, Dn.e2T, Dn.eN, Dn.aNil, Dn.aCons, Dn.rd, Dn.rdAll, Dn.ofOp, Dn.view, Dn.isOpen, Dn.asBool, Dn.tVal, Dn.tYesM, Dn.tAndM, Dn.tOrM, Dn.tNotM, Dn.eIf, Dn.eAnd, Dn.eOr, Dn.eNot, Dn.U1, Dn.U2, Dn.ob, Dn.oi, Dn.eDisp, Dn.tms, Dn.tupO, Dn.lstO, Dn.isStrD, Dn.isiO, Dn.isiB, Dn.inO, Dn.memD, Dn.eqvD, Dn.eqvL, Dn.cmpOk, Dn.plainD, Dn.plainL, Dn.depD, Dn.depL, Dn.eqO, Dn.neO, Dn.ixO, Dn.atD, Dn.ixNat, Dn.lenO, Dn.ltO, Dn.leO, Dn.gtO, Dn.geO, Dn.eChain, Dn.isO, Dn.notIsO, Dn.isNoneB, Dn.notO, Dn.ninO, Dn.eCall, Dn.callF, Dn.lend, Dn.giveBack, Dn.seqOf, Dn.wipeS, Dn.backS, Dn.gN, Dn.eMut, Dn.tupleO, Dn.listO, Dn.eCut, Dn.pNone, Dn.pSome, Dn.cutO, Function.comp_def, -List.map_map, p0, p1, p2, p3]
  refine ⟨[none], ?_⟩
  unfold f_law m_law
  generalize f__law_long_right = FF at hL ⊢
  refine run_rt (δ := [some (.d (.scr ns)), b1, b2, b3, b4, b5, b6, b7, b8, b9, some (.lst [.tup [], .lst [], .lst [], .tup []])]) ?_ rfl
  show sCons _ _ _ (W11 (some (.d (.scr ns))) none none none none none none none none none) = _
  rw [seq_nx a1, seq_nx a2]
  have q1 : e2 eqO (bVar 10) (bVal (eDisp lstO (aCons (bVal (eDisp tupO (aNil))) (aCons (bVal (eDisp lstO (aNil))) (aCons (bVal (eDisp lstO (aNil))) (aCons (bVal (eDisp tupO (aNil))) (aNil))))))) [some (.d (.scr ns)), b1, b2, b3, b4, b5, b6, b7, b8, b9, some (.lst [.tup [], .lst [], .lst [], .tup []])] = .ok (.d (.bl true)) [some (.d (.scr ns)), b1, b2, b3, b4, b5, b6, b7, b8, b9, some (.lst [.tup [], .lst [], .lst [], .tup []])] := by
    exact q1g _ rfl
  generalize [some (.d (.scr ns)), b1, b2, b3, b4, b5, b6, b7, b8, b9, some (.lst [.tup [], .lst [], .lst [], .tup []])] = V at q1 ⊢
  have q2 : eCall 0 FF aNil V = .ok (.d (.bl true)) V := by
    exact q2g _ _ hL
  exact ret_and q1 q2
end Tk46
set_option autoImplicit false
set_option linter.all false
set_option maxRecDepth 100000
set_option maxHeartbeats 1000000
namespace Tk46
open PySem Dn
def doorB : SM := (sCons (sSet 4 (eCall 2 f__law_note (aCons (bVar 3) (aCons (bVal (e2 ixO (bVar 2) (bVar 3))) (aNil))))) (sCons (sSet 5 (eCall 3 f__law_parsed (aCons (bVar 3) (aCons (bVar 4) (aCons (bVal (eC (D.bl false))) (aNil)))))) (sIf (tOrM (tVal (e2 neO (bVal (eN (U1 reprO) (aCons (bVar 5) aNil))) (bVal (eN (U1 reprO) (aCons (bVal (e2 ixO (bVar 2) (bVar 3))) aNil))))) (tVal (e2 neO (bVal (eCall 3 f__law_formatted (aCons (bVar 3) (aCons (bVar 5) (aCons (bVal (eC (D.bl false))) (aNil)))))) (bVar 4)))) (sRet (eC (D.bl false))) (sNil))))
abbrev V8 (l n : Slot) (M : List D) (a3 a4 a5 : Slot) : Sl := [l, n, some (.lst M), a3, a4, a5, none, none]
theorem door_lane (lk : Nat → Bool) (hlk : ∀ j, lk j = false) (ys : List Str) (h : (It.lane ys).ok) (hs : (It.lane ys).sm) (l nn : Slot) (m1 m2 m3 : D) (a4 a5 : Slot) :
    ∃ b4 b5, doorB lk (V8 l nn [.tup (ys.map .str), m1, m2, m3] (some (.d (.int 0))) a4 a5) = .nx (V8 l nn [.tup (ys.map .str), m1, m2, m3] (some (.d (.int 0))) b4 b5) := by
  have h1 := note_ok false (.lane ys) h
  have h2 := formatted_ok true false (.lane ys) h
  have h4 := parsed_ok false (.lane ys) h
  have r1 := It.repr h hs
  generalize (It.lane ys).txt = T at h1 h2 h4
  generalize (It.lane ys).rt = R at r1
  simp only [It.k, It.o, It.d, It.bk, ol, back, if_true, Bool.false_eq_true, if_false] at h1 h2 h4 r1
  generalize ys.map D.str = X at h1 h2 h4 r1 ⊢
  refine ⟨some (.d (.str T)), some (.d (.tup X)), ?_⟩
  unfold doorB
  simp [Dn.run, Dn.lent, Dn.outsL, Dn.sCons, Dn.sIf, Dn.sRet, Dn.sRetV, Dn.sRetN, Dn.sSet, Dn.sExpr, Dn.sNil, Dn.sRaise, Dn.put, Dn.eC, Dn.eVar, Dn.eMove, Dn.bVar, Dn.bVal, Dn.e1, Dn.e2, Dn.e2T, Dn.eN, Dn.aNil, Dn.aCons, Dn.rd, Dn.rdAll, Dn.ofOp, Dn.view, Dn.isOpen, Dn.asBool, Dn.tVal, Dn.tYesM, Dn.tAndM, Dn.tOrM, Dn.tNotM, Dn.eIf, Dn.eAnd, Dn.eOr, Dn.eNot, Dn.U1, Dn.U2, Dn.ob, Dn.oi, Dn.eDisp, Dn.tms, Dn.tupO, Dn.lstO, Dn.isStrD, Dn.isiO, Dn.isiB, Dn.inO, Dn.memD, Dn.eqvD, Dn.eqvL, Dn.cmpOk, Dn.plainD, Dn.plainL, Dn.depD, Dn.depL, Dn.eqO, Dn.neO, Dn.ixO, Dn.atD, Dn.ixNat, Dn.lenO, Dn.ltO, Dn.leO, Dn.gtO, Dn.geO, Dn.eChain, Dn.isO, Dn.notIsO, Dn.isNoneB, Dn.notO, Dn.ninO, Dn.eCall, Dn.callF, Dn.lend, Dn.giveBack, Dn.seqOf, Dn.wipeS, Dn.backS, Dn.gN, Dn.eMut, Dn.tupleO, Dn.listO, Dn.eCut, Dn.pNone, Dn.pSome, Dn.cutO, Function.comp_def, -List.map_map, hlk, h1, h2, h4, r1]
theorem door_log (lk : Nat → Bool) (hlk : ∀ j, lk j = false) (es : List Ev) (h : (It.log es).ok) (hs : (It.log es).sm) (l nn : Slot) (m0 m2 m3 : D) (a4 a5 : Slot) :
    ∃ b4 b5, doorB lk (V8 l nn [m0, .lst (es.map evD), m2, m3] (some (.d (.int 1))) a4 a5) = .nx (V8 l nn [m0, .lst (es.map evD), m2, m3] (some (.d (.int 1))) b4 b5) := by
  have h1 := note_ok false (.log es) h
  have h2 := formatted_ok true false (.log es) h
  have h4 := parsed_ok false (.log es) h
  have r1 := It.repr h hs
  generalize (It.log es).txt = T at h1 h2 h4
  generalize (It.log es).rt = R at r1
  simp only [It.k, It.o, It.d, It.bk, ol, back, if_true, Bool.false_eq_true, if_false] at h1 h2 h4 r1
  generalize es.map evD = X at h1 h2 h4 r1 ⊢
  refine ⟨some (.d (.str T)), some (.lst X), ?_⟩
  unfold doorB
  simp [Dn.run, Dn.lent, Dn.outsL, Dn.sCons, Dn.sIf, Dn.sRet, Dn.sRetV, Dn.sRetN, Dn.sSet, Dn.sExpr, Dn.sNil, Dn.sRaise, Dn.put, Dn.eC, Dn.eVar, Dn.eMove, Dn.bVar, Dn.bVal, Dn.e1, Dn.e2, Dn.e2T, Dn.eN, Dn.aNil, Dn.aCons, Dn.rd, Dn.rdAll, Dn.ofOp, Dn.view, Dn.isOpen, Dn.asBool, Dn.tVal, Dn.tYesM, Dn.tAndM, Dn.tOrM, Dn.tNotM, Dn.eIf, Dn.eAnd, Dn.eOr, Dn.eNot, Dn.U1, Dn.U2, Dn.ob, Dn.oi, Dn.eDisp, Dn.tms, Dn.tupO, Dn.lstO, Dn.isStrD, Dn.isiO, Dn.isiB, Dn.inO, Dn.memD, Dn.eqvD, Dn.eqvL, Dn.cmpOk, Dn.plainD, Dn.plainL, Dn.depD, Dn.depL, Dn.eqO, Dn.neO, Dn.ixO, Dn.atD, Dn.ixNat, Dn.lenO, Dn.ltO, Dn.leO, Dn.gtO, Dn.geO, Dn.eChain, Dn.isO, Dn.notIsO, Dn.isNoneB, Dn.notO, Dn.ninO, Dn.eCall, Dn.callF, Dn.lend, Dn.giveBack, Dn.seqOf, Dn.wipeS, Dn.backS, Dn.gN, Dn.eMut, Dn.tupleO, Dn.listO, Dn.eCut, Dn.pNone, Dn.pSome, Dn.cutO, Function.comp_def, -List.map_map, hlk, h1, h2, h4, r1]
theorem door_sides (lk : Nat → Bool) (hlk : ∀ j, lk j = false) (ys : List Str) (h : (It.sides ys).ok) (hs : (It.sides ys).sm) (l nn : Slot) (m0 m1 m3 : D) (a4 a5 : Slot) :
    ∃ b4 b5, doorB lk (V8 l nn [m0, m1, .lst (ys.map .str), m3] (some (.d (.int 2))) a4 a5) = .nx (V8 l nn [m0, m1, .lst (ys.map .str), m3] (some (.d (.int 2))) b4 b5) := by
  have h1 := note_ok false (.sides ys) h
  have h2 := formatted_ok true false (.sides ys) h
  have h4 := parsed_ok false (.sides ys) h
  have r1 := It.repr h hs
  generalize (It.sides ys).txt = T at h1 h2 h4
  generalize (It.sides ys).rt = R at r1
  simp only [It.k, It.o, It.d, It.bk, ol, back, if_true, Bool.false_eq_true, if_false] at h1 h2 h4 r1
  generalize ys.map D.str = X at h1 h2 h4 r1 ⊢
  refine ⟨some (.d (.str T)), some (.lst X), ?_⟩
  unfold doorB
  simp [Dn.run, Dn.lent, Dn.outsL, Dn.sCons, Dn.sIf, Dn.sRet, Dn.sRetV, Dn.sRetN, Dn.sSet, Dn.sExpr, Dn.sNil, Dn.sRaise, Dn.put, Dn.eC, Dn.eVar, Dn.eMove, Dn.bVar, Dn.bVal, Dn.e1, Dn.e2, Dn.e2T, Dn.eN, Dn.aNil, Dn.aCons, Dn.rd, Dn.rdAll, Dn.ofOp, Dn.view, Dn.isOpen, Dn.asBool, Dn.tVal, Dn.tYesM, Dn.tAndM, Dn.tOrM, Dn.tNotM, Dn.eIf, Dn.eAnd, Dn.eOr, Dn.eNot, Dn.U1, Dn.U2, Dn.ob, Dn.oi, Dn.eDisp, Dn.tms, Dn.tupO, Dn.lstO, Dn.isStrD, Dn.isiO, Dn.isiB, Dn.inO, Dn.memD, Dn.eqvD, Dn.eqvL, Dn.cmpOk, Dn.plainD, Dn.plainL, Dn.depD, Dn.depL, Dn.eqO, Dn.neO, Dn.ixO, Dn.atD, Dn.ixNat, Dn.lenO, Dn.ltO, Dn.leO, Dn.gtO, Dn.geO, Dn.eChain, Dn.isO, Dn.notIsO, Dn.isNoneB, Dn.notO, Dn.ninO, Dn.eCall, Dn.callF, Dn.lend, Dn.giveBack, Dn.seqOf, Dn.wipeS, Dn.backS, Dn.gN, Dn.eMut, Dn.tupleO, Dn.listO, Dn.eCut, Dn.pNone, Dn.pSome, Dn.cutO, Function.comp_def, -List.map_map, hlk, h1, h2, h4, r1]
theorem door_pat (lk : Nat → Bool) (hlk : ∀ j, lk j = false) (ps : List (Option Str)) (h : (It.pat ps).ok) (hs : (It.pat ps).sm) (l nn : Slot) (m0 m1 m2 : D) (a4 a5 : Slot) :
    ∃ b4 b5, doorB lk (V8 l nn [m0, m1, m2, .tup (ps.map pD)] (some (.d (.int 3))) a4 a5) = .nx (V8 l nn [m0, m1, m2, .tup (ps.map pD)] (some (.d (.int 3))) b4 b5) := by
  have h1 := note_ok false (.pat ps) h
  have h2 := formatted_ok true false (.pat ps) h
  have h4 := parsed_ok false (.pat ps) h
  have r1 := It.repr h hs
  generalize (It.pat ps).txt = T at h1 h2 h4
  generalize (It.pat ps).rt = R at r1
  simp only [It.k, It.o, It.d, It.bk, ol, back, if_true, Bool.false_eq_true, if_false] at h1 h2 h4 r1
  generalize ps.map pD = X at h1 h2 h4 r1 ⊢
  refine ⟨some (.d (.str T)), some (.d (.tup X)), ?_⟩
  unfold doorB
  simp [Dn.run, Dn.lent, Dn.outsL, Dn.sCons, Dn.sIf, Dn.sRet, Dn.sRetV, Dn.sRetN, Dn.sSet, Dn.sExpr, Dn.sNil, Dn.sRaise, Dn.put, Dn.eC, Dn.eVar, Dn.eMove, Dn.bVar, Dn.bVal, Dn.e1, Dn.e2, Dn.e2T, Dn.eN, Dn.aNil, Dn.aCons, Dn.rd, Dn.rdAll, Dn.ofOp, Dn.view, Dn.isOpen, Dn.asBool, Dn.tVal, Dn.tYesM, Dn.tAndM, Dn.tOrM, Dn.tNotM, Dn.eIf, Dn.eAnd, Dn.eOr, Dn.eNot, Dn.U1, Dn.U2, Dn.ob, Dn.oi, Dn.eDisp, Dn.tms, Dn.tupO, Dn.lstO, Dn.isStrD, Dn.isiO, Dn.isiB, Dn.inO, Dn.memD, Dn.eqvD, Dn.eqvL, Dn.cmpOk, Dn.plainD, Dn.plainL, Dn.depD, Dn.depL, Dn.eqO, Dn.neO, Dn.ixO, Dn.atD, Dn.ixNat, Dn.lenO, Dn.ltO, Dn.leO, Dn.gtO, Dn.geO, Dn.eChain, Dn.isO, Dn.notIsO, Dn.isNoneB, Dn.notO, Dn.ninO, Dn.eCall, Dn.callF, Dn.lend, Dn.giveBack, Dn.seqOf, Dn.wipeS, Dn.backS, Dn.gN, Dn.eMut, Dn.tupleO, Dn.listO, Dn.eCut, Dn.pNone, Dn.pSome, Dn.cutO, Function.comp_def, -List.map_map, hlk, h1, h2, h4, r1]
def nmS (k : Nat) : Str := sign (97 + k / 26) ++ "zq" ++ sign (97 + k % 26)
theorem nmS_cps (k : Nat) : (nmS k).cps.toList = [97 + k / 26, 122, 113, 97 + k % 26] := by
  unfold nmS
  rw [app_cps, app_cps]; rfl
def nmL : List Str := (List.range 590).map nmS
theorem nmL_len : nmL.length = 590 := by simp [nmL]
theorem nmS_car (k : Nat) (hk : k < 590) : carOk (nmS k) = true := by
  have h1 := low_at (k / 26) (by omega)
  have h2 := low_at (k % 26) (Nat.mod_lt _ (by decide))
  have h3 := low_at 25 (by decide)
  have h4 := low_at 16 (by decide)
  have hl : (nmS k).length = 4 := by
    show (nmS k).cps.size = 4
    rw [← Array.length_toList, nmS_cps]; rfl
  unfold carOk
  rw [hl, nmS_cps]
  simp [h1, h2, h3, h4]
theorem nmL_ok : ∀ x ∈ nmL, carOk x = true := fun x hx => by
  obtain ⟨k, hk, rfl⟩ := List.mem_map.mp hx
  exact nmS_car k (List.mem_range.mp hk)
theorem nmL_nodup : nmL.Nodup := nodup_range_map fun i j hi hj e => by
  have : (nmS i).cps.toList = (nmS j).cps.toList := by rw [e]
  rw [nmS_cps, nmS_cps] at this
  simp at this
  exact dm_inj (by omega) (by omega)
theorem arrs_arr : ∀ ys : List Str, arrs (ys.map Ev.arr) = ys := by
  intro ys
  induction ys with
  | nil => rfl
  | cons y r ih =>
    unfold arrs at ih ⊢
    rw [List.map_cons, List.filterMap_cons]
    simp [ih]
theorem arrs_dep : ∀ n : Nat, arrs (List.replicate n Ev.dep) = [] := by
  intro n
  induction n with
  | zero => rfl
  | succ n ih =>
    unfold arrs at ih ⊢
    rw [List.replicate_succ, List.filterMap_cons]
    simp
def evL : List Ev := (nmL.take 500).map .arr
theorem evL_len : evL.length = 500 := by simp [evL, nmL_len]
theorem ok_l0 : (It.lane nmL).ok := ⟨lane_of nmL_ok nmL_nodup, by rw [nmL_len]; decide⟩
theorem ok_l1 : (It.log evL).ok := ⟨log_of (by rw [evL, arrs_arr]; exact fun x hx => nmL_ok x (List.mem_of_mem_take hx)) (by rw [evL, arrs_arr]; exact List.Sublist.nodup (List.take_sublist _ _) nmL_nodup), by rw [evL_len]; decide⟩
def mvL : List Str := (List.replicate 1500 [("L" : Str), "R"]).flatten
theorem mvL_len : mvL.length = 3000 := by simp [mvL]
theorem ok_l2 : (It.sides mvL).ok := ⟨by
  unfold sdB
  rw [List.all_eq_true]
  intro x hx
  unfold mvL at hx
  obtain ⟨l, hl, hx⟩ := List.mem_flatten.mp hx
  rw [(List.mem_replicate.mp hl).2] at hx
  simp only [List.mem_cons, List.not_mem_nil, or_false] at hx
  rcases hx with rfl | rfl <;> decide +kernel, by rw [mvL_len]; decide⟩
def paL : List (Option Str) := List.replicate 1500 none
theorem ok_l3 : (It.pat paL).ok := ⟨pat_of (ws := []) (by intro p hp x e; rw [(List.mem_replicate.mp hp).2] at e; cases e) (by
  have : cars paL = [] := by
    unfold cars paL
    rw [List.filterMap_eq_nil_iff]
    intro a ha
    rw [(List.mem_replicate.mp ha).2]
    rfl
  rw [this]; exact List.Sublist.refl _) (by simp) List.nodup_nil, by simp [paL]⟩
def deL : List Ev := List.replicate 1500 .dep
theorem ok_l4 : (It.log deL).ok := ⟨log_of (by unfold deL; rw [arrs_dep]; simp) (by unfold deL; rw [arrs_dep]; exact List.nodup_nil), by simp [deL]⟩
theorem fold_rep (a : Array Nat) : ∀ (n : Nat) (acc : Array Nat), ((List.replicate n a).foldl (· ++ ·) acc).toList = acc.toList ++ (List.replicate n a.toList).flatten := by
  intro n
  induction n with
  | zero => intro acc; simp
  | succ n ih =>
    intro acc
    rw [List.replicate_succ, List.foldl_cons, ih, List.replicate_succ, List.flatten_cons, Array.toList_append, List.append_assoc]
theorem rep_succ' {α : Type} (l : List α) (n : Nat) : (List.replicate (n + 1) l).flatten = (List.replicate n l).flatten ++ l := by
  rw [List.replicate_succ', List.flatten_append]; simp
theorem dep_txt : ∀ n : Nat, (joined " " ((List.replicate (n + 1) Ev.dep).map evW)).cps.toList = 45 :: (List.replicate n [32, 45]).flatten := by
  intro n
  induction n with
  | zero => decide +kernel
  | succ n ih =>
    rw [List.replicate_succ' (n := n + 1), List.map_append]
    show (joined " " (_ ++ [("-" : Str)])).cps.toList = _
    rw [joined_snoc " " "-" _ (by simp), app_cps, app_cps, ih, rep_succ']
    have h1 : (" " : Str).cps.toList = [32] := by decide +kernel
    have h2 : ("-" : Str).cps.toList = [45] := by decide +kernel
    rw [h1, h2]
    simp
theorem deL_txt : ("-" : Str) ++ PySem.Txt.mul " -" 1499 = (It.log deL).txt := str_inj (by
  have h1 : (PySem.Txt.mul " -" 1499).cps.toList = (List.replicate 1499 [32, 45]).flatten := by
    unfold PySem.Txt.mul
    rw [if_neg (by decide), if_neg (by decide +kernel)]
    show ((List.replicate 1499 (" -" : Str).cps).foldl (· ++ ·) #[]).toList = _
    rw [fold_rep]
    have : (" -" : Str).cps.toList = [32, 45] := by decide +kernel
    rw [this]
    rfl
  have h2 : ("-" : Str).cps.toList = [45] := by decide +kernel
  show _ = (joined " " ((List.replicate (1499 + 1) Ev.dep).map evW)).cps.toList
  rw [dep_txt, app_cps, h1, h2]
  rfl)
end Tk46
set_option autoImplicit false
set_option linter.all false
set_option maxRecDepth 100000
set_option maxHeartbeats 1000000
namespace Tk46
open PySem Dn
abbrev U8 (l n v a3 a4 a5 : Slot) : Sl := [l, n, v, a3, a4, a5, none, none]
theorem lr_names : eLc (iN rangeOp (aCons (bVal (eC (D.int 590))) (aNil))) [6] (gN 6) (tYesM) (e2 addO (bVal (e2 addO (bVal (e2 ixO (bVar 0) (bVal (e2 fdivO (bVar 6) (bVal (eC (D.int 26))))))) (bVal (eC (D.str "zq"))))) (bVal (e2 ixO (bVar 0) (bVal (e2 modO (bVar 6) (bVal (eC (D.int 26)))))))) (U8 (some (.d (.str az))) none none none none none)
    = .ok (.lst (nmL.map .str)) (U8 (some (.d (.str az))) none none none none none) := by
  have hq : iN rangeOp (aCons (bVal (eC (D.int 590))) (aNil)) (U8 (some (.d (.str az))) none none none none none) = .ok ((List.range 590).map fun k => D.int ((0 : Int) + (k : Nat) * 1)) (U8 (some (.d (.str az))) none none none none none) := by
    have sm : smallI 590 = true := by decide
    have e : (590 : Int).toNat = 590 := rfl
    simp only [iN, aCons, bVal, eC, Res.bind_ok, aNil, rdAll, rd, view, rangeOp, sm, if_true, Dn.intsFrom, e]
  have hn : nmL.map D.str = (List.range 590).map fun k => D.str (nmS k) := by
    unfold nmL
    rw [List.map_map]
    rfl
  rw [hn]
  refine eLc_mapA hq (by rw [List.length_range]; decide) fun k hk => ?_
  have hk := List.mem_range.mp hk
  have h1 : ixO (.str az) (.int ((k : Int) / 26)) = some (.d (.str (sign (97 + k / 26)))) := by
    have z := ix_az (k / 26) (by omega)
    rwa [show ((k / 26 : Nat) : Int) = (k : Int) / 26 by omega] at z
  have h2 : ixO (.str az) (.int ((k : Int) % 26)) = some (.d (.str (sign (97 + k % 26)))) := by
    have z := ix_az (k % 26) (Nat.mod_lt _ (by decide))
    rwa [show ((k % 26 : Nat) : Int) = (k : Int) % 26 by omega] at z
  have h3 := fdiv26 k
  have h4 := mod26 k
  have h5 : addO (.str (sign (97 + k / 26))) (.str "zq") = some (.d (.str (sign (97 + k / 26) ++ "zq"))) := addO_str (by rw [sign_len]; decide)
  have h6 : addO (.str (sign (97 + k / 26) ++ "zq")) (.str (sign (97 + k % 26))) = some (.d (.str (nmS k))) := addO_str (by rw [Str.length_append, sign_len, sign_len]; decide)
  have e0 : (0 : Int) + (k : Nat) * 1 = k := by omega
  refine ⟨[some (.d (.str az)), none, none, none, none, none, some (.d (.int k)), none], [some (.d (.str az)), none, none, none, none, none, some (.d (.int k)), none], .d (.str (nmS k)), [some (.d (.str az)), none, none, none, none, none, some (.d (.int k)), none], ?_, rfl, ?_, rfl, by simp [Dn.run, Dn.lent, Dn.outsL, Dn.sCons, Dn.sIf, Dn.sRet, Dn.sRetV, Dn.sRetN, Dn.sSet, Dn.sExpr, Dn.sNil, Dn.sRaise, Dn.put, Dn.eC, Dn.eVar, Dn.eMove, Dn.bVar, Dn.bVal, Dn.e1, Dn.e2, Dn.e2T, Dn.eN, Dn.aNil, Dn.aCons, Dn.rd, Dn.rdAll, Dn.ofOp, Dn.view, Dn.isOpen, Dn.asBool, Dn.tVal, Dn.tYesM, Dn.tAndM, Dn.tOrM, Dn.tNotM, Dn.eIf, Dn.eAnd, Dn.eOr, Dn.eNot, Dn.U1, Dn.U2, Dn.ob, Dn.oi, Dn.eDisp, Dn.tms, Dn.tupO, Dn.lstO, Dn.isStrD, Dn.isiO, Dn.isiB, Dn.inO, Dn.memD, Dn.eqvD, Dn.eqvL, Dn.cmpOk, Dn.plainD, Dn.plainL, Dn.depD, Dn.depL, Dn.eqO, Dn.neO, Dn.ixO, Dn.atD, Dn.ixNat, Dn.lenO, Dn.ltO, Dn.leO, Dn.gtO, Dn.geO, Dn.eChain, Dn.isO, Dn.notIsO, Dn.isNoneB, Dn.notO, Dn.ninO, Dn.eCall, Dn.callF, Dn.lend, Dn.giveBack, Dn.seqOf, Dn.wipeS, Dn.backS, Dn.gN, Dn.eMut, Dn.tupleO, Dn.listO, Dn.eCut, Dn.pNone, Dn.pSome, Dn.cutO, Function.comp_def, -List.map_map]⟩
  · rw [e0]; simp [Dn.run, Dn.lent, Dn.outsL, Dn.sCons, Dn.sIf, Dn.sRet, Dn.sRetV, Dn.sRetN, Dn.sSet, Dn.sExpr, Dn.sNil, Dn.sRaise, Dn.put, Dn.eC, Dn.eVar, Dn.eMove, Dn.bVar, Dn.bVal, Dn.e1, Dn.e2, Dn.e2T, Dn.eN, Dn.aNil, Dn.aCons, Dn.rd, Dn.rdAll, Dn.ofOp, Dn.view, Dn.isOpen, Dn.asBool, Dn.tVal, Dn.tYesM, Dn.tAndM, Dn.tOrM, Dn.tNotM, Dn.eIf, Dn.eAnd, Dn.eOr, Dn.eNot, Dn.U1, Dn.U2, Dn.ob, Dn.oi, Dn.eDisp, Dn.tms, Dn.tupO, Dn.lstO, Dn.isStrD, Dn.isiO, Dn.isiB, Dn.inO, Dn.memD, Dn.eqvD, Dn.eqvL, Dn.cmpOk, Dn.plainD, Dn.plainL, Dn.depD, Dn.depL, Dn.eqO, Dn.neO, Dn.ixO, Dn.atD, Dn.ixNat, Dn.lenO, Dn.ltO, Dn.leO, Dn.gtO, Dn.geO, Dn.eChain, Dn.isO, Dn.notIsO, Dn.isNoneB, Dn.notO, Dn.ninO, Dn.eCall, Dn.callF, Dn.lend, Dn.giveBack, Dn.seqOf, Dn.wipeS, Dn.backS, Dn.gN, Dn.eMut, Dn.tupleO, Dn.listO, Dn.eCut, Dn.pNone, Dn.pSome, Dn.cutO, Function.comp_def, -List.map_map]
  · simp [e2, bVal, bVar, eC, rd, view, ofOp, h1, h2, h3, h4, h5, h6]
theorem lr_evs (N : List Str) (hN : N.length ≤ 1000000) : eLc (iSeq (eCut cutO (bVar 1) (pNone) (pSome (eC (D.int 500))))) [7] (gN 7) (tYesM) (eDisp tupO (aCons (bVal (eC (D.str "in"))) (aCons (bVal (eVar 7)) (aNil)))) (U8 (some (.d (.str az))) (some (.lst (N.map .str))) none none none none)
    = .ok (.lst ((N.take 500).map fun y => evD (.arr y))) (U8 (some (.d (.str az))) (some (.lst (N.map .str))) none none none none) := by
  have hc : cutL (N.map D.str) none (some 500) = (N.take 500).map D.str := by
    unfold cutL
    simp [bnd, List.map_take]
  have hq : iSeq (eCut cutO (bVar 1) (pNone) (pSome (eC (D.int 500)))) (U8 (some (.d (.str az))) (some (.lst (N.map .str))) none none none none) = .ok ((N.take 500).map .str) (U8 (some (.d (.str az))) (some (.lst (N.map .str))) none none none none) := by
    rw [← hc]
    rfl
  refine eLc_mapA hq (by rw [List.length_take]; omega) fun y hy => ?_
  refine ⟨[some (.d (.str az)), some (.lst (N.map .str)), none, none, none, none, none, some (.d (.str y))], [some (.d (.str az)), some (.lst (N.map .str)), none, none, none, none, none, some (.d (.str y))], .d (evD (.arr y)), [some (.d (.str az)), some (.lst (N.map .str)), none, none, none, none, none, some (.d (.str y))], ?_, rfl, ?_, rfl, ?_⟩
  · generalize N.map D.str = X
    simp [Dn.run, Dn.lent, Dn.outsL, Dn.sCons, Dn.sIf, Dn.sRet, Dn.sRetV, Dn.sRetN, Dn.sSet, Dn.sExpr, Dn.sNil, Dn.sRaise, Dn.put, Dn.eC, Dn.eVar, Dn.eMove, Dn.bVar, Dn.bVal, Dn.e1, Dn.e2, Dn.e2T, Dn.eN, Dn.aNil, Dn.aCons, Dn.rd, Dn.rdAll, Dn.ofOp, Dn.view, Dn.isOpen, Dn.asBool, Dn.tVal, Dn.tYesM, Dn.tAndM, Dn.tOrM, Dn.tNotM, Dn.eIf, Dn.eAnd, Dn.eOr, Dn.eNot, Dn.U1, Dn.U2, Dn.ob, Dn.oi, Dn.eDisp, Dn.tms, Dn.tupO, Dn.lstO, Dn.isStrD, Dn.isiO, Dn.isiB, Dn.inO, Dn.memD, Dn.eqvD, Dn.eqvL, Dn.cmpOk, Dn.plainD, Dn.plainL, Dn.depD, Dn.depL, Dn.eqO, Dn.neO, Dn.ixO, Dn.atD, Dn.ixNat, Dn.lenO, Dn.ltO, Dn.leO, Dn.gtO, Dn.geO, Dn.eChain, Dn.isO, Dn.notIsO, Dn.isNoneB, Dn.notO, Dn.ninO, Dn.eCall, Dn.callF, Dn.lend, Dn.giveBack, Dn.seqOf, Dn.wipeS, Dn.backS, Dn.gN, Dn.eMut, Dn.tupleO, Dn.listO, Dn.eCut, Dn.pNone, Dn.pSome, Dn.cutO, Function.comp_def, -List.map_map]
  · generalize N.map D.str = X
    simp [Dn.run, Dn.lent, Dn.outsL, Dn.sCons, Dn.sIf, Dn.sRet, Dn.sRetV, Dn.sRetN, Dn.sSet, Dn.sExpr, Dn.sNil, Dn.sRaise, Dn.put, Dn.eC, Dn.eVar, Dn.eMove, Dn.bVar, Dn.bVal, Dn.e1, Dn.e2, Dn.e2T, Dn.eN, Dn.aNil, Dn.aCons, Dn.rd, Dn.rdAll, Dn.ofOp, Dn.view, Dn.isOpen, Dn.asBool, Dn.tVal, Dn.tYesM, Dn.tAndM, Dn.tOrM, Dn.tNotM, Dn.eIf, Dn.eAnd, Dn.eOr, Dn.eNot, Dn.U1, Dn.U2, Dn.ob, Dn.oi, Dn.eDisp, Dn.tms, Dn.tupO, Dn.lstO, Dn.isStrD, Dn.isiO, Dn.isiB, Dn.inO, Dn.memD, Dn.eqvD, Dn.eqvL, Dn.cmpOk, Dn.plainD, Dn.plainL, Dn.depD, Dn.depL, Dn.eqO, Dn.neO, Dn.ixO, Dn.atD, Dn.ixNat, Dn.lenO, Dn.ltO, Dn.leO, Dn.gtO, Dn.geO, Dn.eChain, Dn.isO, Dn.notIsO, Dn.isNoneB, Dn.notO, Dn.ninO, Dn.eCall, Dn.callF, Dn.lend, Dn.giveBack, Dn.seqOf, Dn.wipeS, Dn.backS, Dn.gN, Dn.eMut, Dn.tupleO, Dn.listO, Dn.eCut, Dn.pNone, Dn.pSome, Dn.cutO, Function.comp_def, -List.map_map, evD]
  · generalize N.map D.str = X
    simp [Dn.run, Dn.lent, Dn.outsL, Dn.sCons, Dn.sIf, Dn.sRet, Dn.sRetV, Dn.sRetN, Dn.sSet, Dn.sExpr, Dn.sNil, Dn.sRaise, Dn.put, Dn.eC, Dn.eVar, Dn.eMove, Dn.bVar, Dn.bVal, Dn.e1, Dn.e2, Dn.e2T, Dn.eN, Dn.aNil, Dn.aCons, Dn.rd, Dn.rdAll, Dn.ofOp, Dn.view, Dn.isOpen, Dn.asBool, Dn.tVal, Dn.tYesM, Dn.tAndM, Dn.tOrM, Dn.tNotM, Dn.eIf, Dn.eAnd, Dn.eOr, Dn.eNot, Dn.U1, Dn.U2, Dn.ob, Dn.oi, Dn.eDisp, Dn.tms, Dn.tupO, Dn.lstO, Dn.isStrD, Dn.isiO, Dn.isiB, Dn.inO, Dn.memD, Dn.eqvD, Dn.eqvL, Dn.cmpOk, Dn.plainD, Dn.plainL, Dn.depD, Dn.depL, Dn.eqO, Dn.neO, Dn.ixO, Dn.atD, Dn.ixNat, Dn.lenO, Dn.ltO, Dn.leO, Dn.gtO, Dn.geO, Dn.eChain, Dn.isO, Dn.notIsO, Dn.isNoneB, Dn.notO, Dn.ninO, Dn.eCall, Dn.callF, Dn.lend, Dn.giveBack, Dn.seqOf, Dn.wipeS, Dn.backS, Dn.gN, Dn.eMut, Dn.tupleO, Dn.listO, Dn.eCut, Dn.pNone, Dn.pSome, Dn.cutO, Function.comp_def, -List.map_map]
theorem lr_mul1 : mulO (.lst [.str "L", .str "R"]) (.int 1500) = some (.lst (mvL.map .str)) := by
  simp only [mulO]
  rw [if_pos (by decide)]
  have e : (1500 : Int).toNat = 1500 := rfl
  rw [e]
  unfold mvL
  rw [List.map_flatten, List.map_replicate]
  rfl
theorem flat_one {α : Type} (a : α) : ∀ n : Nat, (List.replicate n [a]).flatten = List.replicate n a := by
  intro n
  induction n with
  | zero => rfl
  | succ n ih => rw [List.replicate_succ, List.flatten_cons, ih, List.replicate_succ]; rfl
theorem lr_mul2 : mulO (.tup [.non]) (.int 1500) = some (.d (.tup (paL.map pD))) := by
  simp only [mulO]
  rw [if_pos ⟨by decide, by decide, by simp, by decide⟩]
  have e : (1500 : Int).toNat = 1500 := rfl
  rw [e, flat_one]
  unfold paL
  rw [List.map_replicate]
  rfl
theorem lr_vals (N M E P : List D) (hE : eLc (iSeq (eCut cutO (bVar 1) (pNone) (pSome (eC (D.int 500))))) [7] (gN 7) (tYesM) (eDisp tupO (aCons (bVal (eC (D.str "in"))) (aCons (bVal (eVar 7)) (aNil)))) (U8 (some (.d (.str az))) (some (.lst N)) none none none none)
    = .ok (.lst E) (U8 (some (.d (.str az))) (some (.lst N)) none none none none)) (h1 : mulO (.lst [.str "L", .str "R"]) (.int 1500) = some (.lst M)) (h2 : mulO (.tup [.non]) (.int 1500) = some (.d (.tup P))) (lk : Nat → Bool) (hlk : ∀ j, lk j = false) :
    sSet 2 (eDisp lstO (aCons (bVal (eN (U1 tupleO) (aCons (bVar 1) aNil))) (aCons (bVal (eLc (iSeq (eCut cutO (bVar 1) (pNone) (pSome (eC (D.int 500))))) [7] (gN 7) (tYesM) (eDisp tupO (aCons (bVal (eC (D.str "in"))) (aCons (bVal (eVar 7)) (aNil)))))) (aCons (bVal (e2 mulO (bVal (eDisp lstO (aCons (bVal (eC (D.str "L"))) (aCons (bVal (eC (D.str "R"))) (aNil))))) (bVal (eC (D.int 1500))))) (aCons (bVal (e2 mulO (bVal (eDisp tupO (aCons (bVal (eC D.non)) (aNil)))) (bVal (eC (D.int 1500))))) (aNil)))))) lk (U8 (some (.d (.str az))) (some (.lst N)) none none none none)
      = .nx (U8 (some (.d (.str az))) (some (.lst N)) (some (.lst [.tup N, .lst E, .lst M, .tup P])) none none none) := by
  simp [Dn.run, Dn.lent, Dn.outsL, Dn.sCons, Dn.sIf, Dn.sRet, Dn.sRetV, Dn.sRetN, Dn.sSet, Dn.sExpr, Dn.sNil, Dn.sRaise, Dn.put, Dn.eC, Dn.eVar, Dn.eMove, Dn.bVar, Dn.bVal, Dn.e1, Dn.e2, Dn.e2T, Dn.eN, Dn.aNil, Dn.aCons, Dn.rd, Dn.rdAll, Dn.ofOp, Dn.view, Dn.isOpen, Dn.asBool, Dn.tVal, Dn.tYesM, Dn.tAndM, Dn.tOrM, Dn.tNotM, Dn.eIf, Dn.eAnd, Dn.eOr, Dn.eNot, Dn.U1, Dn.U2, Dn.ob, Dn.oi, Dn.eDisp, Dn.tms, Dn.tupO, Dn.lstO, Dn.isStrD, Dn.isiO, Dn.isiB, Dn.inO, Dn.memD, Dn.eqvD, Dn.eqvL, Dn.cmpOk, Dn.plainD, Dn.plainL, Dn.depD, Dn.depL, Dn.eqO, Dn.neO, Dn.ixO, Dn.atD, Dn.ixNat, Dn.lenO, Dn.ltO, Dn.leO, Dn.gtO, Dn.geO, Dn.eChain, Dn.isO, Dn.notIsO, Dn.isNoneB, Dn.notO, Dn.ninO, Dn.eCall, Dn.callF, Dn.lend, Dn.giveBack, Dn.seqOf, Dn.wipeS, Dn.backS, Dn.gN, Dn.eMut, Dn.tupleO, Dn.listO, Dn.eCut, Dn.pNone, Dn.pSome, Dn.cutO, Function.comp_def, -List.map_map, hE, h1, h2, hlk]
theorem lr_loop (lk : Nat → Bool) (hlk : ∀ j, lk j = false) (l n : Slot) :
    ∃ b3 b4 b5, sFor (iN rangeOp (aCons (bVal (eC (D.int 4))) (aNil))) (gN 3) doorB lk (U8 l n (some (.lst [.tup (nmL.map .str), .lst (evL.map evD), .lst (mvL.map .str), .tup (paL.map pD)])) none none none)
      = .nx (U8 l n (some (.lst [.tup (nmL.map .str), .lst (evL.map evD), .lst (mvL.map .str), .tup (paL.map pD)])) b3 b4 b5) := by
  obtain ⟨b4, b5, e0⟩ := door_lane lk hlk nmL ok_l0 (by show nmL.length ≤ 4000; rw [nmL_len]; decide) l n (.lst (evL.map evD)) (.lst (mvL.map .str)) (.tup (paL.map pD)) none none
  obtain ⟨c4, c5, e1⟩ := door_log lk hlk evL ok_l1 (by show evL.length ≤ 4000; rw [evL_len]; decide) l n (.tup (nmL.map .str)) (.lst (mvL.map .str)) (.tup (paL.map pD)) b4 b5
  obtain ⟨d4, d5, e2⟩ := door_sides lk hlk mvL ok_l2 (by show mvL.length ≤ 4000; rw [mvL_len]; decide) l n (.tup (nmL.map .str)) (.lst (evL.map evD)) (.tup (paL.map pD)) c4 c5
  obtain ⟨f4, f5, e3⟩ := door_pat lk hlk paL ok_l3 (by show paL.length ≤ 4000; simp [paL]) l n (.tup (nmL.map .str)) (.lst (evL.map evD)) (.lst (mvL.map .str)) d4 d5
  refine ⟨some (.d (.int 3)), f4, f5, ?_⟩
  generalize nmL.map D.str = X0 at *
  generalize evL.map evD = X1 at *
  generalize mvL.map D.str = X2 at *
  generalize paL.map pD = X3 at *
  have hg : ∀ (i : Int) (z3 z4 z5 : Slot), gN 3 lk (.int i) (U8 l n (some (.lst [.tup X0, .lst X1, .lst X2, .tup X3])) z3 z4 z5) = some (U8 l n (some (.lst [.tup X0, .lst X1, .lst X2, .tup X3])) (some (.d (.int i))) z4 z5) := by
    intro i z3 z4 z5
    unfold gN
    rw [if_neg (by simp [hlk])]
    rfl
  have hi : iN rangeOp (aCons (bVal (eC (D.int 4))) aNil) (U8 l n (some (.lst [.tup X0, .lst X1, .lst X2, .tup X3])) none none none) = .ok [.int 0, .int 1, .int 2, .int 3] (U8 l n (some (.lst [.tup X0, .lst X1, .lst X2, .tup X3])) none none none) := rfl
  unfold sFor
  rw [hi]
  simp only [ofRes_ok, forL, ofG, hg, e0, e1, e2, e3, turnEnd]
theorem lr_last (lk : Nat → Bool) (δ : Sl) (E : List D) (T U : Str) (hm : mulO (.str " -") (.int 1499) = some (.d (.str U))) (ha : addO (.str "-") (.str U) = some (.d (.str T))) (hp : f_parse_log [.d (.str T)] = .ret (.lst E) [none]) (hf : f__law_formatted [.d (.int 1), .lst E, .d (.bl false)] = .ret (.d (.str T)) [none, some (.lst E), none]) :
    sRet (e2 eqO (bVal (eCall 3 f__law_formatted (aCons (bVal (eC (D.int 1))) (aCons (bVal (eCall 1 f_parse_log (aCons (bVal (e2 addO (bVal (eC (D.str "-"))) (bVal (e2 mulO (bVal (eC (D.str " -"))) (bVal (eC (D.int 1499))))))) (aNil)))) (aCons (bVal (eC (D.bl false))) (aNil)))))) (bVal (e2 addO (bVal (eC (D.str "-"))) (bVal (e2 mulO (bVal (eC (D.str " -"))) (bVal (eC (D.int 1499)))))))) lk δ = .rt (.d (.bl true)) δ := by
  simp [Dn.run, Dn.lent, Dn.outsL, Dn.sCons, Dn.sIf, Dn.sRet, Dn.sRetV, Dn.sRetN, Dn.sSet, Dn.sExpr, Dn.sNil, Dn.sRaise, Dn.put, Dn.eC, Dn.eVar, Dn.eMove, Dn.bVar, Dn.bVal, Dn.e1, Dn.e2, Dn.e2T, Dn.eN, Dn.aNil, Dn.aCons, Dn.rd, Dn.rdAll, Dn.ofOp, Dn.view, Dn.isOpen, Dn.asBool, Dn.tVal, Dn.tYesM, Dn.tAndM, Dn.tOrM, Dn.tNotM, Dn.eIf, Dn.eAnd, Dn.eOr, Dn.eNot, Dn.U1, Dn.U2, Dn.ob, Dn.oi, Dn.eDisp, Dn.tms, Dn.tupO, Dn.lstO, Dn.isStrD, Dn.isiO, Dn.isiB, Dn.inO, Dn.memD, Dn.eqvD, Dn.eqvL, Dn.cmpOk, Dn.plainD, Dn.plainL, Dn.depD, Dn.depL, Dn.eqO, Dn.neO, Dn.ixO, Dn.atD, Dn.ixNat, Dn.lenO, Dn.ltO, Dn.leO, Dn.gtO, Dn.geO, Dn.eChain, Dn.isO, Dn.notIsO, Dn.isNoneB, Dn.notO, Dn.ninO, Dn.eCall, Dn.callF, Dn.lend, Dn.giveBack, Dn.seqOf, Dn.wipeS, Dn.backS, Dn.gN, Dn.eMut, Dn.tupleO, Dn.listO, Dn.eCut, Dn.pNone, Dn.pSome, Dn.cutO, Function.comp_def, -List.map_map, hm, ha, hp, hf]
theorem long_of (X0 X1 X2 X3 : List D) (b3 b4 b5 : Slot)
    (s1 : sSet 1 (eLc (iN rangeOp (aCons (bVal (eC (D.int 590))) (aNil))) [6] (gN 6) (tYesM) (e2 addO (bVal (e2 addO (bVal (e2 ixO (bVar 0) (bVal (e2 fdivO (bVar 6) (bVal (eC (D.int 26))))))) (bVal (eC (D.str "zq"))))) (bVal (e2 ixO (bVar 0) (bVal (e2 modO (bVar 6) (bVal (eC (D.int 26))))))))) (lent []) (U8 (some (.d (.str az))) none none none none none) = .nx (U8 (some (.d (.str az))) (some (.lst X0)) none none none none))
    (s2 : sSet 2 (eDisp lstO (aCons (bVal (eN (U1 tupleO) (aCons (bVar 1) aNil))) (aCons (bVal (eLc (iSeq (eCut cutO (bVar 1) (pNone) (pSome (eC (D.int 500))))) [7] (gN 7) (tYesM) (eDisp tupO (aCons (bVal (eC (D.str "in"))) (aCons (bVal (eVar 7)) (aNil)))))) (aCons (bVal (e2 mulO (bVal (eDisp lstO (aCons (bVal (eC (D.str "L"))) (aCons (bVal (eC (D.str "R"))) (aNil))))) (bVal (eC (D.int 1500))))) (aCons (bVal (e2 mulO (bVal (eDisp tupO (aCons (bVal (eC D.non)) (aNil)))) (bVal (eC (D.int 1500))))) (aNil)))))) (lent []) (U8 (some (.d (.str az))) (some (.lst X0)) none none none none)
      = .nx (U8 (some (.d (.str az))) (some (.lst X0)) (some (.lst [.tup X0, .lst X1, .lst X2, .tup X3])) none none none))
    (s3 : sFor (iN rangeOp (aCons (bVal (eC (D.int 4))) (aNil))) (gN 3) doorB (lent []) (U8 (some (.d (.str az))) (some (.lst X0)) (some (.lst [.tup X0, .lst X1, .lst X2, .tup X3])) none none none)
      = .nx (U8 (some (.d (.str az))) (some (.lst X0)) (some (.lst [.tup X0, .lst X1, .lst X2, .tup X3])) b3 b4 b5))
    (s4 : ∀ δ, sRet (e2 eqO (bVal (eCall 3 f__law_formatted (aCons (bVal (eC (D.int 1))) (aCons (bVal (eCall 1 f_parse_log (aCons (bVal (e2 addO (bVal (eC (D.str "-"))) (bVal (e2 mulO (bVal (eC (D.str " -"))) (bVal (eC (D.int 1499))))))) (aNil)))) (aCons (bVal (eC (D.bl false))) (aNil)))))) (bVal (e2 addO (bVal (eC (D.str "-"))) (bVal (e2 mulO (bVal (eC (D.str " -"))) (bVal (eC (D.int 1499)))))))) (lent []) δ = .rt (.d (.bl true)) δ) :
    f__law_long_right [] = .ret (.d (.bl true)) [] := by
  have s0 : sSet 0 (eC (D.str "abcdefghijklmnopqrstuvwxyz")) (lent []) (U8 none none none none none none) = .nx (U8 (some (.d (.str az))) none none none none none) := by simp [Dn.run, Dn.lent, Dn.outsL, Dn.sCons, Dn.sIf, Dn.sRet, Dn.sRetV, Dn.sRetN, Dn.sSet, Dn.sExpr, Dn.sNil, Dn.sRaise, Dn.put, Dn.eC, Dn.eVar, Dn.eMove, Dn.bVar, Dn.bVal, Dn.e1, Dn.e2, Dn.e2T, Dn.eN, Dn.aNil, Dn.aCons, Dn.rd, Dn.rdAll, Dn.ofOp, Dn.view, Dn.isOpen, Dn.asBool, Dn.tVal, Dn.tYesM, Dn.tAndM, Dn.tOrM, Dn.tNotM, Dn.eIf, Dn.eAnd, Dn.eOr, Dn.eNot, Dn.U1, Dn.U2, Dn.ob, Dn.oi, Dn.eDisp, Dn.tms, Dn.tupO, Dn.lstO, Dn.isStrD, Dn.isiO, Dn.isiB, Dn.inO, Dn.memD, Dn.eqvD, Dn.eqvL, Dn.cmpOk, Dn.plainD, Dn.plainL, Dn.depD, Dn.depL, Dn.eqO, Dn.neO, Dn.ixO, Dn.atD, Dn.ixNat, Dn.lenO, Dn.ltO, Dn.leO, Dn.gtO, Dn.geO, Dn.eChain, Dn.isO, Dn.notIsO, Dn.isNoneB, Dn.notO, Dn.ninO, Dn.eCall, Dn.callF, Dn.lend, Dn.giveBack, Dn.seqOf, Dn.wipeS, Dn.backS, Dn.gN, Dn.eMut, Dn.tupleO, Dn.listO, Dn.eCut, Dn.pNone, Dn.pSome, Dn.cutO, Function.comp_def, -List.map_map, az]
  unfold f__law_long_right m__law_long_right
  unfold doorB at s3
  refine (run_rt (np := 0) (m := 8) (os := []) (o := .d (.bl true)) (δ := U8 (some (.d (.str az))) (some (.lst X0)) (some (.lst [.tup X0, .lst X1, .lst X2, .tup X3])) b3 b4 b5) ?_ rfl)
  show sCons _ _ _ (U8 none none none none none none) = _
  rw [seq_nx s0, seq_nx s1, seq_nx s2, seq_nx s3]
  exact s4 _
theorem lr_s1 : sSet 1 (eLc (iN rangeOp (aCons (bVal (eC (D.int 590))) (aNil))) [6] (gN 6) (tYesM) (e2 addO (bVal (e2 addO (bVal (e2 ixO (bVar 0) (bVal (e2 fdivO (bVar 6) (bVal (eC (D.int 26))))))) (bVal (eC (D.str "zq"))))) (bVal (e2 ixO (bVar 0) (bVal (e2 modO (bVar 6) (bVal (eC (D.int 26))))))))) (lent []) (U8 (some (.d (.str az))) none none none none none) = .nx (U8 (some (.d (.str az))) (some (.lst (nmL.map .str))) none none none none) := by
  unfold sSet
  rw [lr_names]
  rfl
theorem lr_evs2 : eLc (iSeq (eCut cutO (bVar 1) (pNone) (pSome (eC (D.int 500))))) [7] (gN 7) (tYesM) (eDisp tupO (aCons (bVal (eC (D.str "in"))) (aCons (bVal (eVar 7)) (aNil)))) (U8 (some (.d (.str az))) (some (.lst (nmL.map .str))) none none none none)
    = .ok (.lst (evL.map evD)) (U8 (some (.d (.str az))) (some (.lst (nmL.map .str))) none none none none) := by
  have hE := lr_evs nmL (by rw [nmL_len]; decide)
  have hEv : (nmL.take 500).map (fun y => evD (.arr y)) = evL.map evD := by
    unfold evL
    rw [List.map_map]
    rfl
  rw [hEv] at hE
  exact hE
theorem lr_s4 (δ : Sl) : sRet (e2 eqO (bVal (eCall 3 f__law_formatted (aCons (bVal (eC (D.int 1))) (aCons (bVal (eCall 1 f_parse_log (aCons (bVal (e2 addO (bVal (eC (D.str "-"))) (bVal (e2 mulO (bVal (eC (D.str " -"))) (bVal (eC (D.int 1499))))))) (aNil)))) (aCons (bVal (eC (D.bl false))) (aNil)))))) (bVal (e2 addO (bVal (eC (D.str "-"))) (bVal (e2 mulO (bVal (eC (D.str " -"))) (bVal (eC (D.int 1499)))))))) (lent []) δ = .rt (.d (.bl true)) δ := by
  have hln : (It.log deL).txt.length ≤ 24000 := It.txt_len ok_l4 (by show deL.length ≤ 4000; simp [deL])
  have hm : mulO (.str " -") (.int 1499) = some (.d (.str (PySem.Txt.mul " -" 1499))) := by
    simp only [mulO]
    rw [if_pos ⟨by decide, by decide, by decide +kernel⟩]
  have hT := deL_txt
  have ha : addO (.str "-") (.str (PySem.Txt.mul " -" 1499)) = some (.d (.str (It.log deL).txt)) := by
    rw [← hT] at hln ⊢
    rw [Str.length_append] at hln
    exact addO_str (Nat.le_trans hln (by decide))
  exact lr_last (lent []) δ (deL.map evD) (It.log deL).txt (PySem.Txt.mul " -" 1499) hm ha (parse_log_ok deL ok_l4.1 ok_l4.2) (formatted_ok true false (.log deL) ok_l4)
theorem long_right : f__law_long_right [] = .ret (.d (.bl true)) [] := by
  obtain ⟨b3, b4, b5, s3⟩ := lr_loop (lent []) (fun j => rfl) (some (.d (.str az))) (some (.lst (nmL.map .str)))
  exact long_of (nmL.map .str) (evL.map evD) (mvL.map .str) (paL.map pD) b3 b4 b5 lr_s1 (lr_vals (nmL.map .str) (mvL.map .str) (evL.map evD) (paL.map pD) lr_evs2 lr_mul1 lr_mul2 (lent []) (fun j => rfl)) s3 lr_s4
theorem pure_law (ns : List Int) (hl : ns.length ≤ 63) (_ : ∀ z ∈ ns, Builtin.Int.intBits z ≤ 1048576) : ∃ outs, f_law [.d (.scr ns)] = .ret (.d (.bl true)) outs := law_of long_right ns hl
end Tk46
open PySem PySem.W PyProof.Rows
set_option maxHeartbeats 0 in
theorem PySem.Challenge.cw_openlane_k46_texts_both_ways_holds : PySem.Challenge.rw_openlane_k46_texts_both_ways.Holds := by
  w_on; o_law; k_head; (case hw => w_witness2)
  k_fill
  refine Dn.walk_ofG (l := PySem.Challenge.rw_openlane_k46_texts_both_ways) (n := 63) (k := 7) (x := "script") (sp := fun w K mg => Dn.spD (Dn.lkOf PySem.Challenge.rw_openlane_k46_texts_both_ways.prog w mg) K 1 Tk46.f_law) rfl (by decide) rfl ⟨⟨rfl, by decide, by decide⟩, rfl⟩ (fun w h Y => PySem.W.kIn_of Y) ?F (fun w mg h H a ns hl hb _ hS => (Tk46.pure_law ns hl hb).elim fun outs e => Dn.law_sp e hS) (fun _ _ _ _ _ h => Dn.cx_no h)
  case F =>
    intro w mg fa h KX G hmg
    refine' Tk46.all_mk hmg ⟨PySem.W.mg_none_of KX G ?z0, PySem.W.mg_none_of KX G ?z1, PySem.W.mg_none_of KX G ?z2, PySem.W.mg_none_of KX G ?z3, PySem.W.mg_none_of KX G ?z4, PySem.W.mg_none_of KX G ?z5, PySem.W.mg_none_of KX G ?z6, PySem.W.mg_none_of KX G ?z7, PySem.W.mg_none_of KX G ?z8, PySem.W.mg_none_of KX G ?z9, PySem.W.mg_none_of KX G ?z10, PySem.W.mg_none_of KX G ?z11, PySem.W.mg_none_of KX G ?z12, PySem.W.mg_none_of KX G ?z13, PySem.W.mg_none_of KX G ?z14, PySem.W.mg_none_of KX G ?z15, PySem.W.mg_none_of KX G ?z16, PySem.W.mg_none_of KX G ?z17, PySem.W.mg_none_of KX G ?z18, PySem.W.mg_none_of KX G ?z19⟩ (Dn.defK_of KX G ?a_is_car ?l_is_car ?c_is_car ?k_is_car) (Dn.defK_of KX G ?a_is_lane ?l_is_lane ?c_is_lane ?k_is_lane) (Dn.defK_of KX G ?a_is_side ?l_is_side ?c_is_side ?k_is_side) (Dn.defK_of KX G ?a_is_arrival ?l_is_arrival ?c_is_arrival ?k_is_arrival) (Dn.defK_of KX G ?a_is_departure ?l_is_departure ?c_is_departure ?k_is_departure) (Dn.defK_of KX G ?a_are_distinct ?l_are_distinct ?c_are_distinct ?k_are_distinct) (Dn.defK_of KX G ?a_is_some_log ?l_is_some_log ?c_is_some_log ?k_is_some_log) (Dn.defK_of KX G ?a_is_some_pattern ?l_is_some_pattern ?c_is_some_pattern ?k_is_some_pattern) (Dn.defK_of KX G ?a_format_lane ?l_format_lane ?c_format_lane ?k_format_lane) (Dn.defK_of KX G ?a_format_log ?l_format_log ?c_format_log ?k_format_log) (Dn.defK_of KX G ?a_format_sides ?l_format_sides ?c_format_sides ?k_format_sides) (Dn.defK_of KX G ?a_format_pattern ?l_format_pattern ?c_format_pattern ?k_format_pattern) (Dn.defK_of KX G ?a_words_of ?l_words_of ?c_words_of ?k_words_of) (Dn.defK_of KX G ?a_check_text ?l_check_text ?c_check_text ?k_check_text) (Dn.defK_of KX G ?a_parse_lane ?l_parse_lane ?c_parse_lane ?k_parse_lane) (Dn.defK_of KX G ?a_event_of ?l_event_of ?c_event_of ?k_event_of) (Dn.defK_of KX G ?a_parse_log ?l_parse_log ?c_parse_log ?k_parse_log) (Dn.defK_of KX G ?a_parse_sides ?l_parse_sides ?c_parse_sides ?k_parse_sides) (Dn.defK_of KX G ?a_parse_pattern ?l_parse_pattern ?c_parse_pattern ?k_parse_pattern) (Dn.defK_of KX G ?a__law_source ?l__law_source ?c__law_source ?k__law_source) (Dn.defK_of KX G ?a__law_draw ?l__law_draw ?c__law_draw ?k__law_draw) (Dn.defK_of KX G ?a__law_mixed ?l__law_mixed ?c__law_mixed ?k__law_mixed) (Dn.defK_of KX G ?a__law_vehicles ?l__law_vehicles ?c__law_vehicles ?k__law_vehicles) (Dn.defK_of KX G ?a__law_made ?l__law_made ?c__law_made ?k__law_made) (Dn.defK_of KX G ?a__law_joined ?l__law_joined ?c__law_joined ?k__law_joined) (Dn.defK_of KX G ?a__law_word ?l__law_word ?c__law_word ?k__law_word) (Dn.defK_of KX G ?a__law_note ?l__law_note ?c__law_note ?k__law_note) (Dn.defK_of KX G ?a__law_formatted ?l__law_formatted ?c__law_formatted ?k__law_formatted) (Dn.defK_of KX G ?a__law_parsed ?l__law_parsed ?c__law_parsed ?k__law_parsed) (Dn.defK_of KX G ?a__law_changed_right ?l__law_changed_right ?c__law_changed_right ?k__law_changed_right) (Dn.defK_of KX G ?a__law_long_right ?l__law_long_right ?c__law_long_right ?k__law_long_right) (Dn.defK_of KX G ?a_law ?l_law ?c_law ?k_law) (Dn.con_int KX G ?g_MAX_LETTERS) (Dn.con_str KX G ?g_LETTERS) (Dn.con_str KX G ?g_RIGHT) (Dn.con_str KX G ?g_LEFT) (Dn.con_str KX G ?g_IN) (Dn.con_str KX G ?g_OUT) (Dn.con_str KX G ?g_SPACE) (Dn.con_str KX G ?g_ARRIVAL) (Dn.con_str KX G ?g_DEPARTURE) (Dn.con_str KX G ?g_UNKNOWN) (Dn.excD_of PySem.F.excBase_ValueError KX G ?xa_InvalidLane ?xq_InvalidLane ?xk_InvalidLane ?xs_InvalidLane ?xt_InvalidLane) (Dn.excD_of PySem.F.excBase_ValueError KX G ?xa_InvalidLog ?xq_InvalidLog ?xk_InvalidLog ?xs_InvalidLog ?xt_InvalidLog) (Dn.excD_of PySem.F.excBase_ValueError KX G ?xa_InvalidSides ?xq_InvalidSides ?xk_InvalidSides ?xs_InvalidSides ?xt_InvalidSides) (Dn.excD_of PySem.F.excBase_ValueError KX G ?xa_InvalidPattern ?xq_InvalidPattern ?xk_InvalidPattern ?xs_InvalidPattern ?xt_InvalidPattern) (Dn.excD_of PySem.F.excBase_ValueError KX G ?xa_InvalidText ?xq_InvalidText ?xk_InvalidText ?xs_InvalidText ?xt_InvalidText)
    (case z0 => k_is)
    (case z1 => k_is)
    (case z2 => k_is)
    (case z3 => k_is)
    (case z4 => k_is)
    (case z5 => k_is)
    (case z6 => k_is)
    (case z7 => k_is)
    (case z8 => k_is)
    (case z9 => k_is)
    (case z10 => k_is)
    (case z11 => k_is)
    (case z12 => k_is)
    (case z13 => k_is)
    (case z14 => k_is)
    (case z15 => k_is)
    (case z16 => k_is)
    (case z17 => k_is)
    (case z18 => k_is)
    (case z19 => k_is)
    (case a_is_car => k_is); (case l_is_car => k_is); (case c_is_car => k_is); (case k_is_car => k_is)
    (case a_is_lane => k_is); (case l_is_lane => k_is); (case c_is_lane => k_is); (case k_is_lane => k_is)
    (case a_is_side => k_is); (case l_is_side => k_is); (case c_is_side => k_is); (case k_is_side => k_is)
    (case a_is_arrival => k_is); (case l_is_arrival => k_is); (case c_is_arrival => k_is); (case k_is_arrival => k_is)
    (case a_is_departure => k_is); (case l_is_departure => k_is); (case c_is_departure => k_is); (case k_is_departure => k_is)
    (case a_are_distinct => k_is); (case l_are_distinct => k_is); (case c_are_distinct => k_is); (case k_are_distinct => k_is)
    (case a_is_some_log => k_is); (case l_is_some_log => k_is); (case c_is_some_log => k_is); (case k_is_some_log => k_is)
    (case a_is_some_pattern => k_is); (case l_is_some_pattern => k_is); (case c_is_some_pattern => k_is); (case k_is_some_pattern => k_is)
    (case a_format_lane => k_is); (case l_format_lane => k_is); (case c_format_lane => k_is); (case k_format_lane => k_is)
    (case a_format_log => k_is); (case l_format_log => k_is); (case c_format_log => k_is); (case k_format_log => k_is)
    (case a_format_sides => k_is); (case l_format_sides => k_is); (case c_format_sides => k_is); (case k_format_sides => k_is)
    (case a_format_pattern => k_is); (case l_format_pattern => k_is); (case c_format_pattern => k_is); (case k_format_pattern => k_is)
    (case a_words_of => k_is); (case l_words_of => k_is); (case c_words_of => k_is); (case k_words_of => k_is)
    (case a_check_text => k_is); (case l_check_text => k_is); (case c_check_text => k_is); (case k_check_text => k_is)
    (case a_parse_lane => k_is); (case l_parse_lane => k_is); (case c_parse_lane => k_is); (case k_parse_lane => k_is)
    (case a_event_of => k_is); (case l_event_of => k_is); (case c_event_of => k_is); (case k_event_of => k_is)
    (case a_parse_log => k_is); (case l_parse_log => k_is); (case c_parse_log => k_is); (case k_parse_log => k_is)
    (case a_parse_sides => k_is); (case l_parse_sides => k_is); (case c_parse_sides => k_is); (case k_parse_sides => k_is)
    (case a_parse_pattern => k_is); (case l_parse_pattern => k_is); (case c_parse_pattern => k_is); (case k_parse_pattern => k_is)
    (case a__law_source => k_is); (case l__law_source => k_is); (case c__law_source => k_is); (case k__law_source => k_is)
    (case a__law_draw => k_is); (case l__law_draw => k_is); (case c__law_draw => k_is); (case k__law_draw => k_is)
    (case a__law_mixed => k_is); (case l__law_mixed => k_is); (case c__law_mixed => k_is); (case k__law_mixed => k_is)
    (case a__law_vehicles => k_is); (case l__law_vehicles => k_is); (case c__law_vehicles => k_is); (case k__law_vehicles => k_is)
    (case a__law_made => k_is); (case l__law_made => k_is); (case c__law_made => k_is); (case k__law_made => k_is)
    (case a__law_joined => k_is); (case l__law_joined => k_is); (case c__law_joined => k_is); (case k__law_joined => k_is)
    (case a__law_word => k_is); (case l__law_word => k_is); (case c__law_word => k_is); (case k__law_word => k_is)
    (case a__law_note => k_is); (case l__law_note => k_is); (case c__law_note => k_is); (case k__law_note => k_is)
    (case a__law_formatted => k_is); (case l__law_formatted => k_is); (case c__law_formatted => k_is); (case k__law_formatted => k_is)
    (case a__law_parsed => k_is); (case l__law_parsed => k_is); (case c__law_parsed => k_is); (case k__law_parsed => k_is)
    (case a__law_changed_right => k_is); (case l__law_changed_right => k_is); (case c__law_changed_right => k_is); (case k__law_changed_right => k_is)
    (case a__law_long_right => k_is); (case l__law_long_right => k_is); (case c__law_long_right => k_is); (case k__law_long_right => k_is)
    (case a_law => k_is); (case l_law => k_is); (case c_law => k_is); (case k_law => k_is)
    (case g_MAX_LETTERS => k_is)
    (case g_LETTERS => k_is)
    (case g_RIGHT => k_is)
    (case g_LEFT => k_is)
    (case g_IN => k_is)
    (case g_OUT => k_is)
    (case g_SPACE => k_is)
    (case g_ARRIVAL => k_is)
    (case g_DEPARTURE => k_is)
    (case g_UNKNOWN => k_is)
    (case xa_InvalidLane => k_is); (case xq_InvalidLane => k_exc); (case xk_InvalidLane => k_is); (case xs_InvalidLane => k_is); (case xt_InvalidLane => k_is)
    (case xa_InvalidLog => k_is); (case xq_InvalidLog => k_exc); (case xk_InvalidLog => k_is); (case xs_InvalidLog => k_is); (case xt_InvalidLog => k_is)
    (case xa_InvalidSides => k_is); (case xq_InvalidSides => k_exc); (case xk_InvalidSides => k_is); (case xs_InvalidSides => k_is); (case xt_InvalidSides => k_is)
    (case xa_InvalidPattern => k_is); (case xq_InvalidPattern => k_exc); (case xk_InvalidPattern => k_is); (case xs_InvalidPattern => k_is); (case xt_InvalidPattern => k_is)
    (case xa_InvalidText => k_is); (case xq_InvalidText => k_exc); (case xk_InvalidText => k_is); (case xs_InvalidText => k_is); (case xt_InvalidText => k_is)
