import PyProof.Rows.All
import HandS.ForMost
import KE.KeyNested
import HandS.WordsExc
import HandS.Flow
import HandS.Zip
import HandS.Defaults
import HandS.TupAny
import HandS.TupMul
import HandS.IsInst
import HandS.Conv
import HandS.SortInts
import HandS.Deep
import HandS.Style
import KE.SortData
import KE.DataCmp
import KE.DataMinMax
import KE.KDictWalk
import KE.KTupSum
import HandS.Flt
import KE.GoesMore
import HandS.HeadEnd
import HandS.HeadHook1
import HandS.HeadHook2
import HandS.Head2
import HandS.Head0
import HandS.Head1
import PySem.Challenge.RW_movedchest_k80_main_law_orders_by_fewest
set_option Elab.async false
/-! file MvP -/
section
set_option linter.all false
set_option autoImplicit false
/-! Mv, part P: a small functional reading of Python. PV: values that nobody changes any more; OV: what a local name holds (a value, or a list / dict of its own that it may change). -/
namespace Mv
open PySem

inductive PV where
  | non | bl (b : Bool) | int (i : Int) | str (s : Str)
  | tup (xs : List PV) | lst (xs : List PV) | dic (kvs : List (PV × PV))
  | fn (n : Nat) | ty (n : String) | scr (ns : List Int)
  deriving Inhabited

inductive OV where
  | val (p : PV) | ls (xs : List PV) | dc (kvs : List (PV × PV)) | ll (xss : List (List PV))
  deriving Inhabited

@[simp] def OV.frz : OV → PV
  | .val p => p
  | .ls xs => .lst xs
  | .dc kvs => .dic kvs
  | .ll xss => .lst (xss.map .lst)
/-- read where it stands: not a list of lists of its own -/
@[simp] def OV.see : OV → Option PV
  | .val p => some p
  | .ls xs => some (.lst xs)
  | .dc kvs => some (.dic kvs)
  | .ll _ => none
@[simp] def OV.own : OV → Bool
  | .val _ => false
  | _ => true

abbrev Env := List (Option OV)
structure Exc where
  cls : Str
  arg : List PV := []

inductive RV where
  | v (o : OV) | b (i : Nat)

inductive XR (α : Type) where
  | ok (a : α) (e : Env) | exc (x : Exc) (e : Env) | bad

abbrev SE (α : Type) := Env → XR α

def bnd {α β : Type} (m : SE α) (f : α → SE β) : SE β := fun e =>
  match m e with
  | .ok a e1 => f a e1
  | .exc x e1 => .exc x e1
  | .bad => .bad
def ret {α : Type} (a : α) : SE α := fun e => .ok a e
def badX {α : Type} : SE α := fun _ => .bad
def ofO {α : Type} : Option α → SE α
  | some a => ret a
  | none => badX

/-! ### names, constants -/
def nm (i : Nat) : SE RV := fun e =>
  match e[i]? with
  | some (some (.val p)) => .ok (.v (.val p)) e
  | some (some _) => .ok (.b i) e
  | _ => .bad
def cst (p : PV) : SE RV := ret (.v (.val p))

/-- what is to be read there now -/
def view (r : RV) (e : Env) : Option PV :=
  match r with
  | .v o => o.see
  | .b i => match e[i]? with
    | some (some o) => o.see
    | _ => none
def vw (r : RV) : SE PV := fun e =>
  match view r e with
  | some p => .ok p e
  | none => .bad
/-- handed on: from now on nobody changes it -/
def esc (r : RV) : SE PV := fun e =>
  match r with
  | .v o => .ok o.frz e
  | .b i => match e[i]? with
    | some (some o) => .ok o.frz (e.set i (some (.val o.frz)))
    | _ => .bad
/-- put at a name: a fresh one stays its own -/
def hold (r : RV) : SE OV := fun e =>
  match r with
  | .v o => .ok o e
  | .b i => match e[i]? with
    | some (some o) => .ok (.val o.frz) (e.set i (some (.val o.frz)))
    | _ => .bad

/-! ### operators -/
def op1 (op : PV → Option OV) (f : SE RV) : SE RV := bnd f fun r => bnd (vw r) fun p => bnd (ofO (op p)) fun o => ret (.v o)
def op2 (op : PV → PV → Option OV) (f g : SE RV) : SE RV := bnd f fun r => bnd g fun q => bnd (vw r) fun x => bnd (vw q) fun y => bnd (ofO (op x y)) fun o => ret (.v o)

def args : List (SE RV) → SE (List RV)
  | [] => ret []
  | f :: fs => bnd f fun r => bnd (args fs) fun rs => ret (r :: rs)
def vws : List RV → SE (List PV)
  | [] => ret []
  | r :: rs => bnd (vw r) fun p => bnd (vws rs) fun ps => ret (p :: ps)
def escs : List RV → SE (List PV)
  | [] => ret []
  | r :: rs => bnd (esc r) fun p => bnd (escs rs) fun ps => ret (p :: ps)
def holds : List RV → SE (List OV)
  | [] => ret []
  | r :: rs => bnd (hold r) fun p => bnd (holds rs) fun ps => ret (p :: ps)

def opN (op : List PV → Option OV) (fs : List (SE RV)) : SE RV := bnd (args fs) fun rs => bnd (vws rs) fun ps => bnd (ofO (op ps)) fun o => ret (.v o)
def tupD (fs : List (SE RV)) : SE RV := bnd (args fs) fun rs => bnd (escs rs) fun ps => ret (.v (.val (.tup ps)))
def lstD (fs : List (SE RV)) : SE RV := bnd (args fs) fun rs => bnd (escs rs) fun ps => ret (.v (.ls ps))

def lnX : Nat := 16777216
/-- {k: v, ..}: the parts from the left -/
def dicD (put : List (PV × PV) → PV → PV → Option (List (PV × PV))) (fs : List (SE RV)) : SE RV := bnd (args fs) fun rs => bnd (escs rs) fun ps => bnd (ofO (putAll put [] ps)) fun kvs => ret (.v (.dc kvs))
where putAll (put : List (PV × PV) → PV → PV → Option (List (PV × PV))) : List (PV × PV) → List PV → Option (List (PV × PV))
  | acc, k :: v :: r => match put acc k v with
    | some acc' => putAll put acc' r
    | none => none
  | acc, _ => some acc
/-! ### truth, tests -/
def truth : PV → Option Bool
  | .non => some false
  | .bl b => some b
  | .int i => some (i != 0)
  | .str s => if s.length ≤ lnX then some ((s.length : Int) != 0) else none
  | .tup xs => some (!xs.isEmpty)
  | .lst xs => some (!xs.isEmpty)
  | _ => none
def tst (f : SE RV) : SE Bool := bnd f fun r => bnd (vw r) fun p => ofO (truth p)
def tstB (f : SE RV) : SE Bool := bnd f fun r => bnd (vw r) fun p => match p with | .bl b => ret b | _ => badX
def tAndS (f g : SE Bool) : SE Bool := bnd f fun b => if b then g else ret false
def tOrS (f g : SE Bool) : SE Bool := bnd f fun b => if b then ret true else g
def tNotS (f : SE Bool) : SE Bool := bnd f fun b => ret (!b)
def blE (f : SE Bool) : SE RV := bnd f fun b => ret (.v (.val (.bl b)))
def andE (f g : SE RV) : SE RV := bnd f fun r => bnd (vw r) fun p => bnd (ofO (truth p)) fun b => if b then g else ret r
def orE (f g : SE RV) : SE RV := bnd f fun r => bnd (vw r) fun p => bnd (ofO (truth p)) fun b => if b then ret r else g
def notE (f : SE RV) : SE RV := bnd f fun r => bnd (vw r) fun p => bnd (ofO (truth p)) fun b => ret (.v (.val (.bl !b)))
def ifE (c : SE Bool) (f g : SE RV) : SE RV := bnd c fun b => if b then f else g
/-- a op b op' c -/
def chE (op op' : PV → PV → Option Bool) (f g h : SE RV) : SE RV := bnd f fun r => bnd g fun q => bnd (vw r) fun x => bnd (vw q) fun y => bnd (ofO (op x y)) fun b =>
  if b then bnd h fun t => bnd (vw q) fun y => bnd (vw t) fun z => bnd (ofO (op' y z)) fun b => ret (.v (.val (.bl b))) else ret (.v (.val (.bl false)))

/-! ### calls -/
inductive FR where
  | ret (o : OV) (outs : List OV) | exc (x : Exc) (outs : List OV) | bad
abbrev FN := List OV → FR

def refs : List RV → List Nat
  | [] => []
  | .v _ :: r => refs r
  | .b i :: r => i :: refs r
def deref (r : RV) (e : Env) : Option OV :=
  match r with
  | .v o => some o
  | .b i => match e[i]? with
    | some (some o) => some o
    | _ => none
def derefs : List RV → Env → Option (List OV)
  | [], _ => some []
  | r :: rs, e => match deref r e, derefs rs e with
    | some o, some os => some (o :: os)
    | _, _ => none
def putBack : List RV → List OV → Env → Env
  | .b i :: rs, o :: os, e => putBack rs os (e.set i (some o))
  | .v _ :: rs, _ :: os, e => putBack rs os e
  | _, _, e => e
def nodupN : List Nat → Bool
  | [] => true
  | i :: r => !r.contains i && nodupN r
def callRs (F : FN) (rs : List RV) : SE RV := fun e =>
  if nodupN (refs rs) then
    match derefs rs e with
    | some os => match F os with
      | .ret o outs => .ok (.v o) (putBack rs outs e)
      | .exc x outs => .exc x (putBack rs outs e)
      | .bad => .bad
    | none => .bad
  else .bad
def callF (F : FN) (fs : List (SE RV)) : SE RV := bnd (args fs) (callRs F)

/-! ### statements -/
inductive SR where
  | nx (e : Env) | rt (r : RV) (e : Env) | bk (e : Env) | ct (e : Env) | exc (x : Exc) (e : Env) | bad
abbrev SS := Env → SR
def ofX {α : Type} (m : SE α) (k : α → SS) : SS := fun e =>
  match m e with
  | .ok a e1 => k a e1
  | .exc x e1 => .exc x e1
  | .bad => .bad
def skipS : SS := fun e => .nx e
def seqS (a b : SS) : SS := fun e =>
  match a e with
  | .nx e1 => b e1
  | r => r
def ifS (c : SE Bool) (a b : SS) : SS := ofX c fun t => if t then a else b
def retS (f : SE RV) : SS := ofX f fun r e => .rt r e
def retN : SS := fun e => .rt (.v (.val .non)) e
def brkS : SS := fun e => .bk e
def cntS : SS := fun e => .ct e
def exprS (f : SE RV) : SS := ofX f fun _ e => .nx e
def raiseS (c : Str) : SS := fun e => .exc ⟨c, []⟩ e
def setV (i : Nat) (o : OV) : SS := fun e => .nx (e.set i (some o))
def asgS (i : Nat) (f : SE RV) : SS := ofX f fun r => ofX (hold r) fun o => setV i o

/-! ### targets: what is stored is a value -/
abbrev TGt := PV → SS
def gN (i : Nat) : TGt := fun p e => .nx (e.set i (some (.val p)))
def gTs : List TGt → List PV → SS
  | [], [] => skipS
  | g :: gs, p :: ps => seqS (g p) (gTs gs ps)
  | _, _ => fun _ => .bad
def gT (gs : List TGt) : TGt := fun p =>
  match p with
  | .tup ps => if ps.length = gs.length then gTs gs ps else fun _ => .bad
  | _ => fun _ => .bad
def ixP (n : Nat) (i : Int) : Option Nat := if 0 ≤ i then (if i < n then some i.toNat else none) else if -(n : Int) ≤ i then some (i + n).toNat else none
/-- x[i] = .. at a list, a dict of one's own -/
def ownB (e : Env) (x : Nat) : Bool := match e[x]? with
  | some (some (.ls _)) => true
  | some (some (.dc _)) => true
  | _ => false
def putL (put : List (PV × PV) → PV → PV → Option (List (PV × PV))) (x : Nat) (k p : PV) (e : Env) : SR := match e[x]? with
  | some (some (.ls xs)) => match k with
    | .int i => match ixP xs.length i with
      | some j => .nx (e.set x (some (.ls (xs.set j p))))
      | none => .bad
    | _ => .bad
  | some (some (.dc kvs)) => match put kvs k p with
    | some kvs' => .nx (e.set x (some (.dc kvs')))
    | none => .bad
  | _ => .bad
def gL (put : List (PV × PV) → PV → PV → Option (List (PV × PV))) (x : Nat) (fi : SE RV) : TGt := fun p e =>
  if ownB e x then match fi e with
    | .ok r e1 => match view r e1 with
      | some k => putL put x k p e1
      | none => .bad
    | _ => .bad
  else .bad
/-- a name, an int -/
def aI (a : Nat ⊕ Int) (e : Env) : Option Int := match a with
  | .inl i => match e[i]? with
    | some (some (.val (.int n))) => some n
    | _ => none
  | .inr n => some n
def atLL (xss : List (List PV)) (i j : Int) : Option PV := ((ixP xss.length i).bind fun k => xss[k]?).bind fun xs => (ixP xs.length j).bind fun m => xs[m]?
/-- x[a][b] of a list of lists of one's own -/
def ixLL (x : Nat) (a b : Nat ⊕ Int) : SE RV := fun e => match e[x]? with
  | some (some (.ll xss)) => match aI a e, aI b e with
    | some i, some j => match atLL xss i j with
      | some p => .ok (.v (.val p)) e
      | none => .bad
    | _, _ => .bad
  | _ => .bad
def setLL (xss : List (List PV)) (i j : Int) (p : PV) : Option (List (List PV)) := (ixP xss.length i).bind fun k => (xss[k]?).bind fun xs => (ixP xs.length j).map fun m => xss.set k (xs.set m p)
/-- x[a][b] = .. -/
def gLL (x : Nat) (a b : Nat ⊕ Int) : TGt := fun p e => match e[x]? with
  | some (some (.ll xss)) => match aI a e, aI b e with
    | some i, some j => match setLL xss i j p with
      | some yss => .nx (e.set x (some (.ll yss)))
      | none => .bad
    | _, _ => .bad
  | _ => .bad
/-- target = e -/
def asgG (g : TGt) (f : SE RV) : SS := ofX f fun r => ofX (esc r) fun p => g p
/-- a, b = e, f: names -/
def setVs : List Nat → List OV → SS
  | [], [] => skipS
  | i :: is, o :: os => seqS (setV i o) (setVs is os)
  | _, _ => fun _ => .bad
def parS (is : List Nat) (fs : List (SE RV)) : SS := ofX (args fs) fun rs => ofX (holds rs) fun os => setVs is os

/-! ### loops -/
def forL (g : TGt) (body : SS) : List PV → SS
  | [] => skipS
  | p :: ps => fun e => match g p e with
    | .nx e1 => match body e1 with
      | .nx e2 => forL g body ps e2
      | .ct e2 => forL g body ps e2
      | .bk e2 => .nx e2
      | r => r
    | _ => .bad
def whileL (c : SE Bool) (body : SS) : Nat → SS
  | 0 => fun _ => .bad
  | n + 1 => ofX c fun t => if t then fun e => match body e with
      | .nx e2 => whileL c body n e2
      | .ct e2 => whileL c body n e2
      | .bk e2 => .nx e2
      | r => r
    else skipS
abbrev Src := SE (List PV)
def forS (src : Src) (g : TGt) (body : SS) : SS := ofX src fun xs => forL g body xs
/-- a list, a tuple that is walked is handed on first -/
def srcE (f : SE RV) : Src := bnd f fun r => bnd (esc r) fun p => match p with
  | .lst xs => ret xs
  | .tup xs => ret xs
  | _ => badX
def rngL (lo : Int) (n : Nat) : List PV := (List.range n).map fun (k : Nat) => PV.int (lo + (k : Int))
def srcR (fs : List (SE RV)) : Src := bnd (args fs) fun rs => bnd (vws rs) fun ps => match ps with
  | [.int j] => if -(2 ^ 62) ≤ j ∧ j < 2 ^ 62 then ret (rngL 0 j.toNat) else badX
  | [.int i, .int j] => if (-(2 ^ 62) ≤ i ∧ i < 2 ^ 62) ∧ -(2 ^ 62) ≤ j ∧ j < 2 ^ 62 then ret (rngL i (j - i).toNat) else badX
  | _ => badX
def itemsOf : PV → Option (List PV)
  | .lst xs => some xs
  | .tup xs => some xs
  | _ => none
def zipL : List PV → List PV → List PV
  | x :: xs, y :: ys => .tup [x, y] :: zipL xs ys
  | _, _ => []
def srcZ (f g : SE RV) : Src := bnd (args [f, g]) fun rs => bnd (escs rs) fun ps => match ps with
  | [p, q] => match p, q with
    | .lst xs, .lst ys => ret (zipL xs ys)
    | .tup xs, .tup ys => ret (zipL xs ys)
    | _, _ => badX
  | _ => badX
def enumL : Nat → List PV → List PV
  | _, [] => []
  | k, x :: xs => .tup [.int k, x] :: enumL (k + 1) xs
def srcN (f : SE RV) : Src := bnd f fun r => bnd (esc r) fun p => match p with
  | .lst xs => ret (enumL 0 xs)
  | .tup xs => ret (enumL 0 xs)
  | _ => badX

/-! ### comprehensions: vs the slots of its own names -/
def wipeE (e : Env) : List Nat → Env
  | [] => e
  | i :: is => (wipeE e is).set i none
def backE (e0 e : Env) : List Nat → Env
  | [] => e
  | i :: is => (backE e0 e is).set i (e0[i]?.getD none)
/-- none of these names holds a thing of its own -/
def noOwn (e : Env) : List Nat → Bool
  | [] => true
  | i :: is => (match e[i]? with | some (some o) => !o.own | _ => true) && noOwn e is
def compL (g : TGt) (c : SE Bool) (elt : SE RV) (vs : List Nat) : List PV → List PV → SE (List PV)
  | [], acc => ret acc
  | p :: ps, acc => fun e => match g p (wipeE e vs) with
    | .nx e1 => match c e1 with
      | .ok false e2 => compL g c elt vs ps acc e2
      | .ok true e2 => match elt e2 with
        | .ok r e3 => match esc r e3 with
          | .ok q e4 => if acc.length < lnX then compL g c elt vs ps (acc ++ [q]) e4 else .bad
          | _ => .bad
        | _ => .bad
      | _ => .bad
    | _ => .bad
def compS (src : Src) (g : TGt) (c : SE Bool) (elt : SE RV) (vs : List Nat) : SE RV := bnd src fun xs e0 =>
  if noOwn e0 vs then
    match compL g c elt vs xs [] e0 with
    | .ok ys e1 => .ok (.v (.ls ys)) (backE e0 (wipeE e1 vs) vs)
    | _ => .bad
  else .bad

/-! ### a list's own methods -/
/-- [own list for ..]: a list of lists of one's own -/
def compLL (g : TGt) (c : SE Bool) (elt : SE RV) (vs : List Nat) : List PV → List (List PV) → SE (List (List PV))
  | [], acc => ret acc
  | p :: ps, acc => fun e => match g p (wipeE e vs) with
    | .nx e1 => match c e1 with
      | .ok false e2 => compLL g c elt vs ps acc e2
      | .ok true e2 => match elt e2 with
        | .ok (.v (.ls q)) e4 => if acc.length < lnX then compLL g c elt vs ps (acc ++ [q]) e4 else .bad
        | _ => .bad
      | _ => .bad
    | _ => .bad
def compSL (src : Src) (g : TGt) (c : SE Bool) (elt : SE RV) (vs : List Nat) : SE RV := bnd src fun xs e0 =>
  if noOwn e0 vs then
    match compLL g c elt vs xs [] e0 with
    | .ok ys e1 => .ok (.v (.ll ys)) (backE e0 (wipeE e1 vs) vs)
    | _ => .bad
  else .bad
abbrev LOp := List PV → List PV → Option (PV × List PV)
def mLs (op : LOp) (x : Nat) (fs : List (SE RV)) : SE RV := fun e =>
  match e[x]? with
  | some (some (.ls _)) => (bnd (args fs) fun rs => bnd (escs rs) fun ps e1 => match e1[x]? with
    | some (some (.ls xs)) => match op xs ps with
      | some (p, ys) => .ok (.v (.val p)) (e1.set x (some (.ls ys)))
      | none => .bad
    | _ => .bad) e
  | _ => .bad
def appO : LOp := fun xs ps => match ps with
  | [p] => if xs.length < lnX then some (.non, xs ++ [p]) else none
  | _ => none
def extO : LOp := fun xs ps => match ps with
  | [.lst ys] => if xs.length + ys.length ≤ lnX then some (.non, xs ++ ys) else none
  | _ => none
def popO : LOp := fun xs ps => match ps with
  | [] => xs.getLast?.map fun p => (p, xs.dropLast)
  | [.int i] => if i < 0 then (if -(2 ^ 63) ≤ i ∧ -(xs.length : Int) ≤ i then (xs[(i + xs.length).toNat]?).map fun p => (p, xs.eraseIdx (i + xs.length).toNat) else none)
    else if i < 2 ^ 63 then (xs[i.toNat]?).map fun p => (p, xs.eraseIdx i.toNat) else none
  | _ => none

/-! ### defs -/
/-- n slots, the first ones parameters; pins: which of them are never bound anew -/
def frzUn : List Bool → List OV → List OV
  | true :: ps, o :: os => o :: frzUn ps os
  | false :: ps, o :: os => .val o.frz :: frzUn ps os
  | _, _ => []
def outsOf : List Bool → List OV → Env → Option (List OV)
  | true :: ps, _ :: os, some o :: e => (outsOf ps os e).map (o :: ·)
  | false :: ps, o :: os, _ :: e => (outsOf ps os e).map (o :: ·)
  | [], [], _ => some []
  | _, _, _ => none
def endF (pins : List Bool) (os : List OV) (o : OV) (e : Env) : FR :=
  match outsOf pins os e with
  | some outs => .ret o outs
  | none => .bad
def endX (pins : List Bool) (os : List OV) (x : Exc) (e : Env) : FR :=
  match outsOf pins os e with
  | some outs => .exc x outs
  | none => .bad
def mkF (n : Nat) (pins : List Bool) (body : SS) : FN := fun os0 =>
  if os0.length = pins.length ∧ pins.length ≤ n then
    let os := frzUn pins os0
    match body (os.map some ++ List.replicate (n - pins.length) none) with
    | .nx e => endF pins os (.val .non) e
    | .rt (.v o) e => endF pins os o e
    | .rt (.b i) e => match e[i]? with
      | some (some o) => if pins[i]? = some true then endF pins os (.val o.frz) (e.set i (some (.val o.frz))) else endF pins os o (e.set i none)
      | _ => .bad
    | .exc x e => endX pins os x e
    | _ => .bad
  else .bad
end Mv
end
/-! file MvO -/
section
set_option linter.all false
set_option autoImplicit false
/-! Mv, part O: the built-in operations on values. -/
namespace Mv
open PySem

@[reducible] def ovI (i : Int) : OV := .val (.int i)
@[reducible] def ovB (b : Bool) : OV := .val (.bl b)

/-! ### ints -/
def smI (i : Int) : Bool := decide (-(2 ^ 64) < i ∧ i < 2 ^ 64)
def subP : PV → PV → Option OV
  | .int i, .int j => some (ovI (i - j))
  | _, _ => none
def addP : PV → PV → Option OV
  | .int i, .int j => some (ovI (i + j))
  | .tup xs, .tup ys => if xs.length + ys.length ≤ lnX then some (.val (.tup (xs ++ ys))) else none
  | .lst xs, .lst ys => if xs.length + ys.length ≤ lnX then some (.ls (xs ++ ys)) else none
  | .str x, .str y => if x.length + y.length ≤ lnX then some (.val (.str (x ++ y))) else none
  | _, _ => none
def mulP : PV → PV → Option OV
  | .int i, .int j => if smI i || smI j then some (ovI (i * j)) else none
  | .tup xs, .int k => if xs ≠ [] ∧ 2 ≤ k ∧ k ≤ 1000 ∧ xs.length ≤ 1000 then some (.val (.tup (List.replicate k.toNat xs).flatten)) else none
  | .lst xs, .int k => if -(2 ^ 63) ≤ k ∧ k < 2 ^ 63 ∧ xs.length * k.toNat ≤ lnX then some (.ls (List.replicate k.toNat xs).flatten) else none
  | _, _ => none
def fdivP : PV → PV → Option OV
  | .int i, .int j => if 0 < j ∧ j < 1073741824 then some (ovI (i / j)) else none
  | _, _ => none
def modP : PV → PV → Option OV
  | .int i, .int j => if 0 < j then some (ovI (i % j)) else none
  | _, _ => none
def powP : PV → PV → Option OV
  | .int i, .int j => if 0 ≤ j ∧ j ≤ 1000000 ∧ i.natAbs < 2 ^ 64 then some (ovI (i ^ j.toNat)) else none
  | _, _ => none
def negP : PV → Option OV
  | .int i => some (ovI (-i))
  | _ => none
def ltB : PV → PV → Option Bool
  | .int i, .int j => some (decide (i < j))
  | _, _ => none
def leB : PV → PV → Option Bool
  | .int i, .int j => some (decide (i ≤ j))
  | _, _ => none
def gtB : PV → PV → Option Bool
  | .int i, .int j => some (decide (j < i))
  | _, _ => none
def geB : PV → PV → Option Bool
  | .int i, .int j => some (decide (j ≤ i))
  | _, _ => none
def bop (f : PV → PV → Option Bool) (p q : PV) : Option OV := (f p q).map fun b => .val (.bl b)
def isNon : PV → Bool
  | .non => true
  | _ => false
def isNP (p q : PV) : Option OV := match q with
  | .non => some (ovB (isNon p))
  | _ => none
def notNP (p q : PV) : Option OV := match q with
  | .non => some (ovB (!isNon p))
  | _ => none

/-! ### equality of data -/
mutual
def peq : PV → PV → Bool
  | .non, q => match q with | .non => true | _ => false
  | .bl a, q => match q with | .bl b => a == b | .int j => (if a then 1 else 0) == j | _ => false
  | .int i, q => match q with | .bl b => i == (if b then 1 else 0) | .int j => i == j | _ => false
  | .str x, q => match q with | .str y => x == y | _ => false
  | .lst xs, q => match q with | .lst ys => peqs xs ys | _ => false
  | .tup xs, q => match q with | .tup ys => peqs xs ys | _ => false
  | .dic _, _ => false
  | .fn _, _ => false
  | .ty _, _ => false
  | .scr _, _ => false
def peqs : List PV → List PV → Bool
  | [], q => match q with | [] => true | _ :: _ => false
  | x :: xs, q => match q with | [] => false | y :: ys => peq x y && peqs xs ys
end
def strOkP (x : Str) : Bool := x.cps.all (· < 0x110000)
/-- data of a nesting of at most n -/
def okD : Nat → PV → Bool
  | _, .non => true
  | _, .bl _ => true
  | _, .int _ => true
  | _, .str s => strOkP s
  | 0, _ => false
  | n + 1, .lst xs => xs.all (okD n)
  | n + 1, .tup xs => xs.all (okD n)
  | _, _ => false
def eqB (p q : PV) : Option Bool := if okD 64 p && okD 64 q then some (peq p q) else none
def neB (p q : PV) : Option Bool := if okD 64 p && okD 64 q then some (!peq p q) else none
def memB (p : PV) (xs : List PV) : Bool := xs.any fun z => peq z p
def lookP (kvs : List (PV × PV)) (k : PV) : Option PV := (kvs.find? fun x => peq x.1 k).map (·.2)
/-- what may lie within a key that is a tuple -/
def keyN : Nat → PV → Bool
  | _, .non => true
  | _, .bl _ => true
  | _, .int _ => true
  | _, .str _ => true
  | 0, _ => false
  | n + 1, .tup xs => xs.all (keyN n)
  | _, _ => false
/-- what may be a key -/
def keyK : PV → Bool
  | .int _ => true
  | .str _ => true
  | .tup xs => xs.all (keyN 7)
  | _ => false
def isTup : PV → Bool
  | .tup _ => true
  | _ => false
/-- all keys are tuples, or none is -/
def sameT (k : PV) : List (PV × PV) → Bool
  | [] => true
  | x :: _ => isTup x.1 == isTup k
def keyOk (k : PV) (kvs : List (PV × PV)) : Bool := keyK k && sameT k kvs
/-- what is true of a dict's entries -/
structure DK (kvs : List (PV × PV)) : Prop where
  key : ∀ x ∈ kvs, keyK x.1 = true
  tup : ∀ x ∈ kvs, ∀ y ∈ kvs, isTup x.1 = isTup y.1
  nod : kvs.Pairwise fun x y => peq x.1 y.1 = false
/-- d[k] = v -/
def putP (kvs : List (PV × PV)) (k v : PV) : List (PV × PV) := if (lookP kvs k).isSome then kvs.map fun x => if peq x.1 k then (x.1, v) else x else kvs ++ [(k, v)]
def putO (kvs : List (PV × PV)) (k v : PV) : Option (List (PV × PV)) := if keyOk k kvs && decide (kvs.length < lnX) then some (putP kvs k v) else none
def inB (p q : PV) : Option Bool := match q with
  | .lst xs => if okD 64 p && xs.all (okD 63) then some (memB p xs) else none
  | .tup xs => if okD 64 p && xs.all (okD 63) then some (memB p xs) else none
  | .dic kvs => if keyOk p kvs then some (lookP kvs p).isSome else none
  | _ => none
def ninB (p q : PV) : Option Bool := (inB p q).map (!·)

/-! ### places -/
def getP : PV → PV → Option OV
  | .tup xs, .int i => ((ixP xs.length i).bind fun j => xs[j]?).map .val
  | .lst xs, .int i => ((ixP xs.length i).bind fun j => xs[j]?).map .val
  | .str s, .int i => if s.length ≤ lnX then ((ixP s.cps.toList.length i).bind fun j => s.cps.toList[j]?).map fun c => .val (.str ⟨#[c]⟩) else none
  | .dic kvs, k => if keyOk k kvs then (lookP kvs k).map .val else none
  | _, _ => none
/-- a bound of a slice -/
def sIxP (len d : Nat) : Option Int → Nat
  | none => d
  | some i => if i < 0 then (i + len).toNat else min i.toNat len
def cutP (xs : List PV) (lo hi : Option Int) : List PV := (xs.drop (sIxP xs.length 0 lo)).take (sIxP xs.length xs.length hi - sIxP xs.length 0 lo)
def slP : PV → Option Int → Option Int → Option OV
  | .tup xs, lo, hi => some (.val (.tup (cutP xs lo hi)))
  | .lst xs, lo, hi => some (.ls (cutP xs lo hi))
  | .scr ns, lo, hi => some (.ls (cutP (ns.map PV.int) lo hi))
  | _, _, _ => none

def noP : SE (Option Int) := ret none
def prtP (f : SE RV) : SE (Option Int) := bnd f fun r => bnd (vw r) fun p => match p with
  | .int i => ret (some i)
  | _ => badX
def slE (f : SE RV) (lo hi : SE (Option Int)) : SE RV := bnd f fun r => bnd lo fun l => bnd hi fun u => bnd (vw r) fun p => bnd (ofO (slP p l u)) fun o => ret (.v o)
def revP : PV → Option OV
  | .lst xs => some (.ls xs.reverse)
  | _ => none

/-! ### built-ins by name: on the list of the arguments -/
def lenP : List PV → Option OV
  | [.tup xs] => some (ovI xs.length)
  | [.lst xs] => some (ovI xs.length)
  | [.str s] => if s.length ≤ lnX then some (ovI s.length) else none
  | _ => none
def absP : List PV → Option OV
  | [.int i] => some (ovI (if i < 0 then -i else i))
  | _ => none
def intP : List PV → Option OV
  | [.int i] => some (ovI i)
  | [.bl k] => some (ovI (if k then 1 else 0))
  | _ => none
def tupleP : List PV → Option OV
  | [.tup xs] => some (.val (.tup xs))
  | [.lst xs] => some (.val (.tup xs))
  | _ => none
def listP : List PV → Option OV
  | [.tup xs] => some (.ls xs)
  | [.lst xs] => some (.ls xs)
  | _ => none
def intsOf : List PV → Option (List Int)
  | [] => some []
  | .int i :: r => (intsOf r).map (i :: ·)
  | _ => none
def blsOf : List PV → Option (List Bool)
  | [] => some []
  | .bl i :: r => (blsOf r).map (i :: ·)
  | _ => none
def sumP : List PV → Option OV
  | [.lst xs] => (intsOf xs).map fun ns => ovI ns.sum
  | [.tup xs] => (intsOf xs).map fun ns => ovI ns.sum
  | _ => none
def allP : List PV → Option OV
  | [.lst xs] => (blsOf xs).map fun bs => ovB (bs.all id)
  | _ => none
def anyP : List PV → Option OV
  | [.lst xs] => (blsOf xs).map fun bs => ovB (bs.any id)
  | _ => none
def maxI : List Int → Option Int
  | [] => none
  | x :: xs => some (xs.foldl max x)
def minI : List Int → Option Int
  | [] => none
  | x :: xs => some (xs.foldl min x)
def maxP : List PV → Option OV
  | [.lst xs] => (intsOf xs).bind fun ns => (maxI ns).map ovI
  | [.tup _] => none
  | [.int i, .int j] => some (ovI (if j > i then j else i))
  | [.int i, .int j, .int k] => some (ovI (if (if i < j then j else i) < k then k else if i < j then j else i))
  | _ => none
def minP : List PV → Option OV
  | [.lst xs] => (intsOf xs).bind fun ns => (minI ns).map ovI
  | [.tup _] => none
  | [.int i, .int j] => some (ovI (if j < i then j else i))
  | [.int i, .int j, .int k] => some (ovI (if k < (if j < i then j else i) then k else if j < i then j else i))
  | _ => none
/-- what type(x) is -/
def tyP : PV → Option String
  | .non => some "NoneType"
  | .bl _ => some "bool"
  | .int _ => some "int"
  | .str _ => some "str"
  | .tup _ => some "tuple"
  | .lst _ => some "list"
  | _ => none
def subT (a b : String) : Bool := a == b || (a == "bool" && b == "int")
/-- isinstance(x, the types ts) -/
def isiS (ts : List String) : PV → Option OV := fun p => (tyP p).map fun a => ovB (ts.any (subT a))
/-- the same, by kinds (for the kernel) -/
inductive Ty | non | bl | int | str | tup | lst
def Ty.nm : Ty → String
  | .non => "NoneType"
  | .bl => "bool"
  | .int => "int"
  | .str => "str"
  | .tup => "tuple"
  | .lst => "list"
def isY : Ty → PV → Bool
  | .non, p => match p with | .non => true | _ => false
  | .bl, p => match p with | .bl _ => true | _ => false
  | .int, p => match p with | .int _ => true | .bl _ => true | _ => false
  | .str, p => match p with | .str _ => true | _ => false
  | .tup, p => match p with | .tup _ => true | _ => false
  | .lst, p => match p with | .lst _ => true | _ => false
def anyY : List Ty → PV → Bool
  | [], _ => false
  | t :: ts, p => isY t p || anyY ts p
def hasT : PV → Bool
  | .dic _ => false
  | .fn _ => false
  | .ty _ => false
  | .scr _ => false
  | _ => true
def isiP (ts : List Ty) : PV → Option OV := fun p => if hasT p then some (ovB (anyY ts p)) else none
theorem isY_eq (t : Ty) (p : PV) (a : String) (h : tyP p = some a) : subT a t.nm = isY t p := by
  cases p <;> cases h <;> cases t <;> first | (show subT _ _ = true; decide) | (show subT _ _ = false; decide)
theorem isiY (ts : List Ty) : isiP ts = isiS (ts.map Ty.nm) := by
  funext p
  have hh : ∀ a, tyP p = some a → (ts.map Ty.nm).any (subT a) = anyY ts p := by
    intro a ha
    induction ts with
    | nil => rfl
    | cons t ts ih => simp only [List.map_cons, List.any_cons, anyY, isY_eq t p a ha, ih]
  cases p <;> first | rfl | (simp only [isiP, isiS, hasT, if_true, tyP, Option.map]; rw [hh _ rfl])
end Mv
end
/-! file MvR -/
section
set_option linter.all false
set_option autoImplicit false
/-! Mv, part R: what the values of part P are in the abstract heap of HandS. F: the addresses whose objects nobody changes any more. -/
namespace Mv
open PySem PySem.Spec PyProof.Rows L2

/-- what is fixed through a law: the written part, where the defs and the exceptions' classes stand -/
structure Gi where
  K : PySem.W.Frag
  w : World
  fa : Nat → Option Addr
  ca : Str → Option Addr

/-- a dict whose entries are es: hash, key, value -/
def DictPhi (a : Addr) (es : List (Int × V × V)) : Heap → Prop := fun h =>
  (a == sysModules) = false ∧ ∃ (o : Obj) (arr : Array DictEntry) (ep : Nat), h.get? a = some o ∧ o.ExactDict ∧ o.data = .dict arr ep ∧
    Paired (fun (x : Int × V × V) (d : DictEntry) => d.hash = x.1 ∧ RelV x.2.1 d.key ∧ RelV x.2.2 d.val) es arr.toList
def DictO (a : Addr) (es : List (Int × V × V)) : HO := .ext (DictPhi a es)

/-- a key, as the library's -/
def nk : PV → NestedKey
  | .bl b => .num (if b then 1 else 0)
  | .int i => .num i
  | .str s => .text s
  | .tup xs => .tup (nks xs)
  | _ => .none
where nks : List PV → List NestedKey
  | [] => []
  | x :: xs => nk x :: nks xs
/-- a key's hash -/
def hashP (w : World) (p : PV) : Int := (nk p).hash w

/-- the script -/
def ScrAt (K : PySem.W.Frag) (H : Hp) (a : Addr) (xs : List V) : Prop := (∃ o, H a = some (.frz o (.lst xs))) ∨
  ∃ (o : Obj) (its : Array Value) (n : Nat), K.lookup a = some o ∧ o.cls = .type "list" ∧ o.dict = none ∧ o.data = .seq its n ∧ its.size ≤ sizeLine ∧ Vals xs its.toList
theorem ScrAt.sqL {K : PySem.W.Frag} {H : Hp} {a : Addr} {xs : List V} (h : ScrAt K H a xs) : SqL K H a xs := by
  rcases h with ⟨o, h⟩ | h
  · exact .inl (.inr ⟨o, h⟩)
  · exact .inr h
mutual
inductive RepP (g : Gi) (F : Addr → Prop) (H : Hp) : V → PV → Prop
  | non : RepP g F H .non .non
  | bl (b : Bool) : RepP g F H (.bl b) (.bl b)
  | int (i : Int) : RepP g F H (.int i) (.int i)
  | str (s : Str) : RepP g F H (.str s) (.str s)
  | ty (n : String) : RepP g F H (.ty n) (.ty n)
  | scr {a : Addr} {ns : List Int} : ScrAt g.K H a (ns.map V.int) → RepP g F H (.ref a) (.scr ns)
  | fn {n : Nat} {a : Addr} : g.fa n = some a → RepP g F H (.ref a) (.fn n)
  | tup {a : Addr} {vs : List V} {xs : List PV} : SqT g.K H a vs → RepPs g F H vs xs → RepP g F H (.ref a) (.tup xs)
  | lst {a : Addr} {vs : List V} {xs : List PV} : F a → Rd H a (.lst vs) → RepPs g F H vs xs → RepP g F H (.ref a) (.lst xs)
  | dic {a : Addr} {es : List (Int × V × V)} {kvs : List (PV × PV)} : F a → H a = some (DictO a es) → RepDs g F H es kvs → DK kvs → RepP g F H (.ref a) (.dic kvs)
inductive RepPs (g : Gi) (F : Addr → Prop) (H : Hp) : List V → List PV → Prop
  | nil : RepPs g F H [] []
  | cons {v : V} {vs : List V} {x : PV} {xs : List PV} : RepP g F H v x → RepPs g F H vs xs → RepPs g F H (v :: vs) (x :: xs)
inductive RepDs (g : Gi) (F : Addr → Prop) (H : Hp) : List (Int × V × V) → List (PV × PV) → Prop
  | nil : RepDs g F H [] []
  | cons {n : Int} {k v : V} {es : List (Int × V × V)} {p q : PV} {kvs : List (PV × PV)} : n = hashP g.w p → RepP g F H k p → RepP g F H v q → RepDs g F H es kvs → RepDs g F H ((n, k, v) :: es) ((p, q) :: kvs)
end

section
variable {g : Gi} {F F' : Addr → Prop} {H H' : Hp}

structure Keep (F : Addr → Prop) (H : Hp) (F' : Addr → Prop) (H' : Hp) : Prop where
  mono : ∀ b, F b → F' b
  tup : ∀ b xs, H b = some (.tup xs) → H' b = some (.tup xs)
  frz : ∀ b o u, H b = some (.frz o u) → H' b = some (.frz o u)
  fix : ∀ b o, F b → H b = some o → H' b = some o

theorem Keep.sqT (k : Keep F H F' H') {a : Addr} {vs : List V} (h : SqT g.K H a vs) : SqT g.K H' a vs := by
  rcases h with (h | ⟨o, h⟩) | h
  · exact .inl (.inl (k.tup _ _ h))
  · exact .inl (.inr ⟨o, k.frz _ _ _ h⟩)
  · exact .inr h
theorem Keep.rdL (k : Keep F H F' H') {a : Addr} {vs : List V} (f : F a) (h : Rd H a (.lst vs)) : Rd H' a (.lst vs) := by
  rcases h with h | ⟨o, h⟩
  · exact .inl (k.fix _ _ f h)
  · exact .inr ⟨o, k.frz _ _ _ h⟩
mutual
theorem RepP.keep (k : Keep F H F' H') : ∀ {v : V} {p : PV}, RepP g F H v p → RepP g F' H' v p
  | _, _, .non => .non
  | _, _, .bl b => .bl b
  | _, _, .int i => .int i
  | _, _, .str s => .str s
  | _, _, .ty n => .ty n
  | _, _, .scr h => .scr (h.imp_left fun ⟨o, e⟩ => ⟨o, k.frz _ _ _ e⟩)
  | _, _, .fn e => .fn e
  | _, _, .tup h r => .tup (k.sqT h) (RepPs.keep k r)
  | _, _, .lst f h r => .lst (k.mono _ f) (k.rdL f h) (RepPs.keep k r)
  | _, _, .dic f h r n => .dic (k.mono _ f) (k.fix _ _ f h) (RepDs.keep k r) n
theorem RepPs.keep (k : Keep F H F' H') : ∀ {vs : List V} {xs : List PV}, RepPs g F H vs xs → RepPs g F' H' vs xs
  | _, _, .nil => .nil
  | _, _, .cons h r => .cons (RepP.keep k h) (RepPs.keep k r)
theorem RepDs.keep (k : Keep F H F' H') : ∀ {es : List (Int × V × V)} {kvs : List (PV × PV)}, RepDs g F H es kvs → RepDs g F' H' es kvs
  | _, _, .nil => .nil
  | _, _, .cons e h h' r => .cons e (RepP.keep k h) (RepP.keep k h') (RepDs.keep k r)
end

theorem RepPs.length : ∀ {vs : List V} {xs : List PV}, RepPs g F H vs xs → vs.length = xs.length
  | _, _, .nil => rfl
  | _, _, .cons _ r => by rw [List.length_cons, List.length_cons, RepPs.length r]
theorem RepPs.app : ∀ {vs : List V} {xs : List PV} {us : List V} {ys : List PV}, RepPs g F H vs xs → RepPs g F H us ys → RepPs g F H (vs ++ us) (xs ++ ys)
  | _, _, _, _, .nil, s => s
  | _, _, _, _, .cons h r, s => .cons h (RepPs.app r s)
theorem RepPs.get : ∀ {vs : List V} {xs : List PV} {i : Nat} {p : PV}, RepPs g F H vs xs → xs[i]? = some p → ∃ v, vs[i]? = some v ∧ RepP g F H v p
  | _, _, _, _, .nil, e => by simp at e
  | _, _, 0, _, .cons h r, e => by
    simp at e
    subst e
    exact ⟨_, rfl, h⟩
  | _, _, i + 1, _, .cons h r, e => by
    obtain ⟨v, e1, h1⟩ := RepPs.get (i := i) r (by simpa using e)
    exact ⟨v, by simpa using e1, h1⟩
theorem RepPs.getV : ∀ {vs : List V} {xs : List PV} {i : Nat} {v : V}, RepPs g F H vs xs → vs[i]? = some v → ∃ p, xs[i]? = some p ∧ RepP g F H v p
  | _, _, _, _, .nil, e => by simp at e
  | _, _, 0, _, .cons h r, e => by
    simp at e
    subst e
    exact ⟨_, rfl, h⟩
  | _, _, i + 1, _, .cons h r, e => by
    obtain ⟨v, e1, h1⟩ := RepPs.getV (i := i) r (by simpa using e)
    exact ⟨v, by simpa using e1, h1⟩
theorem RepPs.set {v : V} {p : PV} (h : RepP g F H v p) : ∀ {vs : List V} {xs : List PV} (i : Nat), RepPs g F H vs xs → RepPs g F H (vs.set i v) (xs.set i p)
  | _, _, _, .nil => .nil
  | _, _, 0, .cons _ r => .cons h r
  | _, _, i + 1, .cons q r => .cons q (RepPs.set h i r)
theorem RepPs.take : ∀ {vs : List V} {xs : List PV} (n : Nat), RepPs g F H vs xs → RepPs g F H (vs.take n) (xs.take n)
  | _, _, 0, _ => .nil
  | _, _, n + 1, .nil => .nil
  | _, _, n + 1, .cons h r => .cons h (RepPs.take n r)
theorem RepPs.drop : ∀ {vs : List V} {xs : List PV} (n : Nat), RepPs g F H vs xs → RepPs g F H (vs.drop n) (xs.drop n)
  | _, _, 0, r => r
  | _, _, n + 1, .nil => .nil
  | _, _, n + 1, .cons h r => RepPs.drop n r
theorem RepPs.erase : ∀ {vs : List V} {xs : List PV} (n : Nat), RepPs g F H vs xs → RepPs g F H (vs.eraseIdx n) (xs.eraseIdx n)
  | _, _, _, .nil => .nil
  | _, _, 0, .cons h r => r
  | _, _, n + 1, .cons h r => .cons h (RepPs.erase n r)
theorem RepPs.dropLast {vs : List V} {xs : List PV} (h : RepPs g F H vs xs) : RepPs g F H vs.dropLast xs.dropLast := by
  rw [List.dropLast_eq_take, List.dropLast_eq_take, h.length]
  exact h.take _
theorem RepPs.rev {vs : List V} {xs : List PV} (h : RepPs g F H vs xs) : RepPs g F H vs.reverse xs.reverse := by
  induction vs generalizing xs with
  | nil => cases h; exact .nil
  | cons v vs ih =>
    cases h with
    | cons h r =>
      rw [List.reverse_cons, List.reverse_cons]
      exact (ih r).app (.cons h .nil)

/-! ### what a name holds; what is its own -/
/-- lists of one's own -/
inductive RepLL (g : Gi) (F : Addr → Prop) (H : Hp) : List Addr → List (List PV) → Prop
  | nil : RepLL g F H [] []
  | cons {a : Addr} {as : List Addr} {vs : List V} {xs : List PV} {xss : List (List PV)} : H a = some (.lst vs) → RepPs g F H vs xs → RepLL g F H as xss → RepLL g F H (a :: as) (xs :: xss)
theorem RepLL.live : ∀ {as : List Addr} {xss : List (List PV)}, RepLL g F H as xss → ∀ b ∈ as, ∃ vs, H b = some (.lst vs)
  | _, _, .nil, b, h => by cases h
  | _, _, .cons h _ t, b, hb => by
    rcases List.mem_cons.mp hb with rfl | hb
    · exact ⟨_, h⟩
    · exact RepLL.live t b hb
theorem RepLL.stay (k : Keep F H F' H') : ∀ {as : List Addr} {xss : List (List PV)}, (∀ b o, b ∈ as → H b = some o → H' b = some o) → RepLL g F H as xss → RepLL g F' H' as xss
  | _, _, _, .nil => .nil
  | _, _, hB, .cons h r t => .cons (hB _ _ List.mem_cons_self h) (r.keep k) (RepLL.stay k (fun b o m => hB b o (List.mem_cons_of_mem _ m)) t)
theorem RepLL.frz : ∀ {as : List Addr} {xss : List (List PV)}, (∀ b ∈ as, F b) → RepLL g F H as xss → RepPs g F H (as.map V.ref) (xss.map PV.lst)
  | _, _, _, .nil => .nil
  | _, _, hF, .cons h r t => .cons (.lst (hF _ List.mem_cons_self) (.inl h) r) (RepLL.frz (fun b m => hF b (List.mem_cons_of_mem _ m)) t)
def RepO (g : Gi) (F : Addr → Prop) (H : Hp) (v : V) (o : OV) (B : Addr → Prop) : Prop :=
  match o with
  | .val p => RepP g F H v p ∧ ∀ b, ¬B b
  | .ls xs => ∃ a vs, v = .ref a ∧ H a = some (.lst vs) ∧ RepPs g F H vs xs ∧ ∀ b, B b ↔ b = a
  | .dc kvs => ∃ a es, v = .ref a ∧ H a = some (DictO a es) ∧ RepDs g F H es kvs ∧ DK kvs ∧ ∀ b, B b ↔ b = a
  | .ll xss => ∃ a as, v = .ref a ∧ H a = some (.lst (as.map V.ref)) ∧ RepLL g F H as xss ∧ (a :: as).Nodup ∧ ∀ b, B b ↔ b = a ∨ b ∈ as
def OwnK (H : Hp) (b : Addr) : Prop := (∃ vs, H b = some (.lst vs)) ∨ ∃ es, H b = some (DictO b es)
theorem OwnK.live {b : Addr} (h : OwnK H b) : ∃ o, H b = some o := by
  rcases h with ⟨vs, h⟩ | ⟨es, h⟩ <;> exact ⟨_, h⟩
theorem OwnK.notT {b : Addr} {xs : List V} (h : OwnK H b) (e : H b = some (.tup xs)) : False := by
  rcases h with ⟨vs, h⟩ | ⟨es, h⟩ <;> (rw [e] at h; cases h)
theorem OwnK.notF {b : Addr} {o : Obj} {u : HO} (h : OwnK H b) (e : H b = some (.frz o u)) : False := by
  rcases h with ⟨vs, h⟩ | ⟨es, h⟩ <;> (rw [e] at h; cases h)
theorem RepO.kind {v : V} {o : OV} {B : Addr → Prop} (r : RepO g F H v o B) {b : Addr} (hb : B b) : OwnK H b := by
  cases o with
  | val p => exact absurd hb (r.2 b)
  | ls xs =>
    obtain ⟨a, vs, _, e, _, hB⟩ := r
    rw [(hB b).mp hb]
    exact .inl ⟨_, e⟩
  | dc kvs =>
    obtain ⟨a, es, _, e, _, _, hB⟩ := r
    rw [(hB b).mp hb]
    exact .inr ⟨_, e⟩
  | ll xss =>
    obtain ⟨a, as, _, e, t, _, hB⟩ := r
    rcases (hB b).mp hb with z | z
    · rw [z]; exact .inl ⟨_, e⟩
    · exact .inl (t.live b z)
theorem RepO.stay {v : V} {o : OV} {B : Addr → Prop} (k : Keep F H F' H') (hB : ∀ b o, B b → H b = some o → H' b = some o) (r : RepO g F H v o B) : RepO g F' H' v o B := by
  cases o with
  | val p => exact ⟨r.1.keep k, r.2⟩
  | ls xs =>
    obtain ⟨a, vs, e1, e, rs, hb⟩ := r
    exact ⟨a, vs, e1, hB _ _ ((hb a).mpr rfl) e, rs.keep k, hb⟩
  | dc kvs =>
    obtain ⟨a, es, e1, e, rs, n, hb⟩ := r
    exact ⟨a, es, e1, hB _ _ ((hb a).mpr rfl) e, rs.keep k, n, hb⟩
  | ll xss =>
    obtain ⟨a, as, e1, e, t, n, hb⟩ := r
    exact ⟨a, as, e1, hB _ _ ((hb a).mpr (.inl rfl)) e, t.stay k fun b o m => hB b o ((hb b).mpr (.inr m)), n, hb⟩
/-- made one that nobody changes -/
theorem RepO.frz {v : V} {o : OV} {B : Addr → Prop} (r : RepO g F H v o B) : RepP g (fun b => F b ∨ B b) H v o.frz := by
  have k : Keep F H (fun b => F b ∨ B b) H := ⟨fun b => .inl, fun _ _ e => e, fun _ _ _ e => e, fun _ _ _ e => e⟩
  cases o with
  | val p => exact r.1.keep k
  | ls xs =>
    obtain ⟨a, vs, rfl, e, rs, hb⟩ := r
    exact .lst (.inr ((hb a).mpr rfl)) (.inl e) (rs.keep k)
  | dc kvs =>
    obtain ⟨a, es, rfl, e, rs, n, hb⟩ := r
    exact .dic (.inr ((hb a).mpr rfl)) e (rs.keep k) n
  | ll xss =>
    obtain ⟨a, as, rfl, e, t, n, hb⟩ := r
    exact .lst (.inr ((hb a).mpr (.inl rfl))) (.inl e) ((t.stay k fun _ _ _ e => e).frz fun b m => .inr ((hb b).mpr (.inr m)))

/-! ### a step: what was A's own may have changed; new own ones were there before or are new -/
structure Dl (F A : Addr → Prop) (H : Hp) (F' A' : Addr → Prop) (H' : Hp) : Prop where
  mono : ∀ b, F b → F' b
  keep : ∀ b o, H b = some o → ¬A b → H' b = some o
  live : ∀ b, H' b = none → H b = none
  own : ∀ b, A' b → A b ∨ H b = none
  fz : ∀ b, F' b → F b ∨ A b ∨ H b = none
  tup : ∀ b xs, H b = some (.tup xs) → H' b = some (.tup xs)
  frz : ∀ b o u, H b = some (.frz o u) → H' b = some (.frz o u)

variable {A A' B B' : Addr → Prop}
theorem Dl.refl (h : ∀ b, A' b → A b) : Dl F A H F A' H := ⟨fun _ x => x, fun _ _ e _ => e, fun _ e => e, fun b x => .inl (h b x), fun b x => .inl x, fun _ _ e => e, fun _ _ _ e => e⟩
theorem Dl.trans {F1 A1 : Addr → Prop} {H1 : Hp} (x : Dl F A H F1 A1 H1) (y : Dl F1 A1 H1 F' A' H') : Dl F A H F' A' H' where
  mono := fun b h => y.mono b (x.mono b h)
  keep := fun b o e n => y.keep b o (x.keep b o e n) fun z => by
    rcases x.own b z with z | z
    · exact n z
    · rw [e] at z; cases z
  live := fun b e => x.live b (y.live b e)
  own := fun b z => by
    rcases y.own b z with z | z
    · exact x.own b z
    · exact .inr (x.live b z)
  fz := fun b z => by
    rcases y.fz b z with z | z | z
    · exact x.fz b z
    · exact .inr (x.own b z)
    · exact .inr (.inr (x.live b z))
  tup := fun b xs e => y.tup b xs (x.tup b xs e)
  frz := fun b o u e => y.frz b o u (x.frz b o u e)
theorem Dl.frame (x : Dl F A H F' A' H') : Dl F (fun b => A b ∨ B b) H F' (fun b => A' b ∨ B b) H' where
  mono := x.mono
  keep := fun b o e n => x.keep b o e fun z => n (.inl z)
  live := x.live
  own := fun b z => by
    rcases z with z | z
    · exact (x.own b z).imp_left .inl
    · exact .inl (.inr z)
  fz := fun b z => by
    rcases x.fz b z with z | z | z
    · exact .inl z
    · exact .inr (.inl (.inl z))
    · exact .inr (.inr z)
  tup := x.tup
  frz := x.frz
theorem Dl.less (x : Dl F A H F' A' H') (h : ∀ b, B b → A' b) : Dl F A H F' B H' := ⟨x.mono, x.keep, x.live, fun b z => x.own b (h b z), x.fz, x.tup, x.frz⟩
theorem Dl.toKeep (x : Dl F A H F' A' H') (n : ∀ b, F b → ¬A b) : Keep F H F' H' := ⟨x.mono, x.tup, x.frz, fun b o f e => x.keep b o e (n b f)⟩

/-- new objects alone -/
def ExtH (H H' : Hp) : Prop := (∀ b o, H b = some o → H' b = some o)
theorem ExtH.refl : ExtH H H := fun _ _ e => e
theorem ExtH.upd {p : Addr} {o : HO} (h : H p = none) : ExtH H (upd H p o) := fun b x e => by rw [upd_ne (ne_of_none e h)]; exact e
theorem ExtH.trans {H1 H2 : Hp} (a : ExtH H H1) (b : ExtH H1 H2) : ExtH H H2 := fun x o e => b x o (a x o e)
theorem ExtH.no {b : Addr} (x : ExtH H H') (e : H' b = none) : H b = none := by
  cases q : H b with
  | none => rfl
  | some o => rw [x b o q] at e; cases e
theorem ExtH.dl (x : ExtH H H') (h : ∀ b, A' b → A b ∨ H b = none) : Dl F A H F A' H' :=
  ⟨fun _ z => z, fun b o e _ => x b o e, fun b e => x.no e, h, fun b z => .inl z, fun b xs e => x _ _ e, fun b o u e => x _ _ e⟩
theorem ExtH.keep (x : ExtH H H') : Keep F H F H' := ⟨fun _ z => z, fun b xs e => x _ _ e, fun b o u e => x _ _ e, fun b o _ e => x _ _ e⟩

/-! ### the names -/
structure Sim (g : Gi) (F : Addr → Prop) (H : Hp) (σ : L2.St) (e : Env) (As : Nat → Addr → Prop) : Prop where
  len : σ.length = e.length
  slot : ∀ i o, e[i]? = some (some o) → ∃ v, σ[i]? = some (some v) ∧ RepO g F H v o (As i)
  off : ∀ i, (∀ o, e[i]? ≠ some (some o)) → ∀ b, ¬As i b
  dis : ∀ i j b, As i b → As j b → i = j
  nf : ∀ i b, As i b → ¬F b
  fl : ∀ b, F b → ∃ o, H b = some o
abbrev Ow (As : Nat → Addr → Prop) : Addr → Prop := fun b => ∃ i, As i b
variable {σ : L2.St} {e : Env} {As As' : Nat → Addr → Prop}
theorem Sim.kind (s : Sim g F H σ e As) {b : Addr} (h : Ow As b) : OwnK H b := by
  obtain ⟨i, h⟩ := h
  by_cases z : ∃ o, e[i]? = some (some o)
  · obtain ⟨o, z⟩ := z
    obtain ⟨v, _, r⟩ := s.slot i o z
    exact r.kind h
  · exact absurd h (s.off i (fun o q => z ⟨o, q⟩) b)
theorem Sim.nfA (s : Sim g F H σ e As) : ∀ b, F b → ¬Ow As b := fun b f ⟨i, h⟩ => s.nf i b h f
theorem Sim.ext (s : Sim g F H σ e As) (x : ExtH H H') : Sim g F H' σ e As :=
  ⟨s.len, fun i o q => let ⟨v, h1, h2⟩ := s.slot i o q; ⟨v, h1, h2.stay x.keep fun b o _ e => x b o e⟩, s.off, s.dis, s.nf, fun b f => let ⟨o, q⟩ := s.fl b f; ⟨o, x b o q⟩⟩

/-! ### results -/
def RepR (g : Gi) (σ : L2.St) (F : Addr → Prop) (H : Hp) (v : V) (r : RV) (B : Addr → Prop) : Prop :=
  match r with
  | .v o => RepO g F H v o B
  | .b i => σ[i]? = some (some v) ∧ ∀ b, ¬B b
theorem RepR.kind {v : V} {r : RV} (h : RepR g σ F H v r B) {b : Addr} (hb : B b) : OwnK H b := by
  cases r with
  | v o => exact RepO.kind h hb
  | b i => exact absurd hb (h.2 b)
theorem RepR.stay {v : V} {r : RV} (k : Keep F H F' H') (hB : ∀ b o, B b → H b = some o → H' b = some o) (h : RepR g σ F H v r B) : RepR g σ F' H' v r B := by
  cases r with
  | v o => exact RepO.stay k hB h
  | b i => exact h
/-- several results: each with its own -/
inductive RepRs (g : Gi) (σ : L2.St) (F : Addr → Prop) (H : Hp) : List V → List RV → (Addr → Prop) → Prop
  | nil {B : Addr → Prop} : (∀ b, ¬B b) → RepRs g σ F H [] [] B
  | cons {v : V} {vs : List V} {r : RV} {rs : List RV} {B B1 B2 : Addr → Prop} : RepR g σ F H v r B1 → RepRs g σ F H vs rs B2 → (∀ b, B1 b → ¬B2 b) → (∀ b, B b ↔ B1 b ∨ B2 b) → RepRs g σ F H (v :: vs) (r :: rs) B
theorem RepRs.stay (k : Keep F H F' H') : ∀ {vs : List V} {rs : List RV} {B : Addr → Prop}, (∀ b o, B b → H b = some o → H' b = some o) → RepRs g σ F H vs rs B → RepRs g σ F' H' vs rs B
  | _, _, _, _, .nil n => .nil n
  | _, _, _, hB, .cons h r d e => .cons (h.stay k fun b o x => hB b o ((e b).mpr (.inl x))) (RepRs.stay k (fun b o x => hB b o ((e b).mpr (.inr x))) r) d e
theorem RepRs.kind : ∀ {vs : List V} {rs : List RV} {B : Addr → Prop}, RepRs g σ F H vs rs B → ∀ {b : Addr}, B b → OwnK H b
  | _, _, _, .nil n, b, hb => absurd hb (n b)
  | _, _, _, .cons h r d e, b, hb => by
    rcases (e b).mp hb with z | z
    · exact h.kind z
    · exact RepRs.kind r z
theorem RepRs.length : ∀ {vs : List V} {rs : List RV} {B : Addr → Prop}, RepRs g σ F H vs rs B → vs.length = rs.length
  | _, _, _, .nil _ => rfl
  | _, _, _, .cons _ r _ _ => by rw [List.length_cons, List.length_cons, RepRs.length r]

/-- an exception: its class; no fields yet -/
def ExcR (g : Gi) (x : Exc) (cls : Value) (d : Option Addr) (H : Hp) : Prop := x.arg = [] ∧ ∃ C, g.ca x.cls = some C ∧ cls = .ref C ∧ d = none

/-- what is wanted behind: from (F, As, H) -/
def Post {α β : Type} (g : Gi) (W : WX) (σ : L2.St) (R : (Addr → Prop) → Hp → β → α → (Addr → Prop) → Prop) (F : Addr → Prop) (As : Nat → Addr → Prop) (H : Hp) (res : XR α) (Q : β → Hp → Prop) : Prop :=
  match res with
  | .ok a e' => ∀ (F' : Addr → Prop) (H' : Hp) (As' : Nat → Addr → Prop) (B : Addr → Prop) (y : β), Sim g F' H' σ e' As' → R F' H' y a B → (∀ b, B b → ¬Ow As' b) → (∀ b, B b → ¬F' b) →
      Dl F (Ow As) H F' (fun b => Ow As' b ∨ B b) H' → Q y H'
  | .exc x e' => ∀ (F' : Addr → Prop) (H' : Hp) (As' : Nat → Addr → Prop) (cls : Value) (d : Option Addr), Sim g F' H' σ e' As' → Dl F (Ow As) H F' (Ow As') H' → ExcR g x cls d H' → W cls d σ H'
  | .bad => False
def tX {α β : Type} (g : Gi) (W : WX) (R : L2.St → (Addr → Prop) → Hp → β → α → (Addr → Prop) → Prop) (f : SE α) : L2.St → Hp → (β → Hp → Prop) → Prop :=
  fun σ H Q => ∃ F e As, Sim g F H σ e As ∧ Post g W σ (R σ) F As H (f e) Q
def tE (g : Gi) (W : WX) (f : SE RV) : TE := tX g W (RepR g) f
def RB : L2.St → (Addr → Prop) → Hp → Bool → Bool → (Addr → Prop) → Prop := fun _ _ _ y a B => y = a ∧ ∀ b, ¬B b
def tT (g : Gi) (W : WX) (f : SE Bool) : TT := tX g W RB f
def tA (g : Gi) (W : WX) (f : SE (List RV)) : TA := tX g W (RepRs g) f

/-- what is wanted is kept from further on: D the step so far, C the temporaries that stand aside -/
theorem Post.later {α β γ δ : Type} {W : WX} {R : (Addr → Prop) → Hp → β → α → (Addr → Prop) → Prop} {R' : (Addr → Prop) → Hp → δ → γ → (Addr → Prop) → Prop} {F F1 : Addr → Prop} {As As1 : Nat → Addr → Prop} {H H1 : Hp} {C : Addr → Prop} {Q : β → Hp → Prop} {Q' : δ → Hp → Prop}
    {m : XR γ} {k : γ → SE α} (s1 : Sim g F1 H1 σ e As1) (d : Dl F (Ow As) H F1 (fun b => Ow As1 b ∨ C b) H1)
    (h : Post g W σ R F As H (match m with | .ok a e1 => k a e1 | .exc x e1 => .exc x e1 | .bad => .bad) Q)
    (hk : ∀ (a : γ) (e2 : Env), m = .ok a e2 → ∀ (F2 : Addr → Prop) (H2 : Hp) (As2 : Nat → Addr → Prop) (B : Addr → Prop) (y : δ), Sim g F2 H2 σ e2 As2 → R' F2 H2 y a B → (∀ b, B b → ¬Ow As2 b) → (∀ b, B b → ¬F2 b) → Dl F1 (Ow As1) H1 F2 (fun b => Ow As2 b ∨ B b) H2 →
      Post g W σ R F As H (k a e2) Q → Q' y H2) : Post g W σ R' F1 As1 H1 m Q' := by
  cases m with
  | ok a e1 => exact fun F2 H2 As2 B y s2 r n1 n2 d2 => hk a e1 rfl F2 H2 As2 B y s2 r n1 n2 d2 h
  | exc x e1 =>
    exact fun F2 H2 As2 cls dd s2 d2 r => h F2 H2 As2 cls dd s2 (d.trans (d2.frame (B := C)) |>.less fun b z => .inl z) r
  | bad => exact h
end
end Mv
end
/-! file MvE -/
section
set_option linter.all false
set_option autoImplicit false
set_option maxRecDepth 100000
/-! Mv, part E: expressions. -/
namespace Mv
open PySem PySem.Spec PyProof.Rows L2

theorem pe_imp {X : Cx} {e : Expr} {t t' : TE} (h : PE X e t) (i : ∀ σ H Q, t' σ H Q → t σ H Q) : PE X e t' := ⟨fun pins s σ H Q I q => h.run pins s σ H Q I (i σ H Q q)⟩
theorem pt_imp {X : Cx} {e : Expr} {t t' : TT} (h : PT X e t) (i : ∀ σ H Q, t' σ H Q → t σ H Q) : PT X e t' := ⟨fun pins s σ H Q I q => h.run pins s σ H Q I (i σ H Q q)⟩
theorem pw_imp {X : Cx} {e : Expr} {t t' : TT} (h : PW X e t) (i : ∀ σ H Q, t' σ H Q → t σ H Q) : PW X e t' := ⟨fun wh pins s σ H Q I q => h.run wh pins s σ H Q I (i σ H Q q)⟩
theorem pa_imp {X : Cx} {e : List Expr} {t t' : TA} (h : PA X e t) (i : ∀ σ H Q, t' σ H Q → t σ H Q) : PA X e t' := ⟨fun pos pins s σ H Q I q => h.run pos pins s σ H Q I (i σ H Q q)⟩

section
variable {g : Gi} {W : WX} {F F1 F2 : Addr → Prop} {H H1 H2 : Hp} {σ : L2.St} {e e1 e2 : Env} {As As1 As2 : Nat → Addr → Prop} {B B1 B2 C : Addr → Prop}

/-! ### what stands aside through a step -/
structure Apart (C : Addr → Prop) (F A : Addr → Prop) (H : Hp) : Prop where
  a : ∀ b, C b → ¬A b
  f : ∀ b, C b → ¬F b
  l : ∀ b, C b → ∃ o, H b = some o
theorem Apart.step {A A' : Addr → Prop} (p : Apart C F A H) (d : Dl F A H F1 A' H1) : Apart C F1 A' H1 where
  a := fun b c z => by
    rcases d.own b z with z | z
    · exact p.a b c z
    · obtain ⟨o, q⟩ := p.l b c; rw [z] at q; cases q
  f := fun b c z => by
    rcases d.fz b z with z | z | z
    · exact p.f b c z
    · exact p.a b c z
    · obtain ⟨o, q⟩ := p.l b c; rw [z] at q; cases q
  l := fun b c => let ⟨o, q⟩ := p.l b c; ⟨o, d.keep b o q (p.a b c)⟩
theorem Apart.same {A A' : Addr → Prop} (p : Apart C F A H) (d : Dl F A H F1 A' H1) {b : Addr} {o : HO} (c : C b) (q : H b = some o) : H1 b = some o := d.keep b o q (p.a b c)
theorem Apart.less {A A' : Addr → Prop} (p : Apart C F A H) (h : ∀ b, A' b → A b) : Apart C F A' H := ⟨fun b c z => p.a b c (h b z), p.f, p.l⟩
theorem Apart.nil {A : Addr → Prop} : Apart (fun _ => False) F A H := ⟨fun _ z => z.elim, fun _ z => z.elim, fun _ z => z.elim⟩
theorem RepR.apart {v : V} {r : RV} (h : RepR g σ F H v r B) (n : ∀ b, B b → ¬Ow As b) (m : ∀ b, B b → ¬F b) : Apart B F (Ow As) H := ⟨n, m, fun b z => (h.kind z).live⟩
theorem RepRs.apart {vs : List V} {rs : List RV} (h : RepRs g σ F H vs rs B) (n : ∀ b, B b → ¬Ow As b) (m : ∀ b, B b → ¬F b) : Apart B F (Ow As) H := ⟨n, m, fun b z => (h.kind z).live⟩

/-! ### what is read -/
/-- v reads as p now -/
def RepV (g : Gi) (F : Addr → Prop) (H : Hp) (v : V) (p : PV) : Prop := ∃ o B, OV.see o = some p ∧ RepO g F H v o B
theorem RepP.toV {v : V} {p : PV} (h : RepP g F H v p) : RepV g F H v p := ⟨.val p, fun _ => False, rfl, h, fun _ z => z⟩
theorem RepV.ext {v : V} {p : PV} (h : RepV g F H v p) (x : ExtH H H1) : RepV g F H1 v p := by
  obtain ⟨o, B, e, r⟩ := h
  exact ⟨o, B, e, r.stay x.keep fun b o _ q => x b o q⟩
theorem view_rep {v : V} {r : RV} {p : PV} (h : RepR g σ F H v r B) (s : Sim g F H σ e As) (hv : view r e = some p) : RepV g F H v p := by
  cases r with
  | v o =>
    exact ⟨o, B, hv, h⟩
  | b i =>
    obtain ⟨h1, _⟩ := h
    unfold view at hv
    dsimp only at hv
    split at hv
    · rename_i o ho
      obtain ⟨v', h2, r⟩ := s.slot i o ho
      rw [h1] at h2; cases h2
      exact ⟨o, As i, hv, r⟩
    · cases hv
/-- by the kind of what is read -/
theorem RepV.int {v : V} {i : Int} (h : RepV g F H v (.int i)) : v = .int i := by
  obtain ⟨o, B, e, r⟩ := h
  cases o with
  | val p => cases e; cases r.1; rfl
  | ls xs => cases e
  | dc kvs => cases e
  | ll xss => cases e
theorem RepV.bl {v : V} {i : Bool} (h : RepV g F H v (.bl i)) : v = .bl i := by
  obtain ⟨o, B, e, r⟩ := h
  cases o with
  | val p => cases e; cases r.1; rfl
  | ls xs => cases e
  | dc kvs => cases e
  | ll xss => cases e
theorem RepV.str {v : V} {i : Str} (h : RepV g F H v (.str i)) : v = .str i := by
  obtain ⟨o, B, e, r⟩ := h
  cases o with
  | val p => cases e; cases r.1; rfl
  | ls xs => cases e
  | dc kvs => cases e
  | ll xss => cases e
theorem RepV.non {v : V} (h : RepV g F H v .non) : v = .non := by
  obtain ⟨o, B, e, r⟩ := h
  cases o with
  | val p => cases e; cases r.1; rfl
  | ls xs => cases e
  | dc kvs => cases e
  | ll xss => cases e
theorem RepV.tup {v : V} {xs : List PV} (h : RepV g F H v (.tup xs)) : ∃ a vs, v = .ref a ∧ SqT g.K H a vs ∧ RepPs g F H vs xs := by
  obtain ⟨o, B, e, r⟩ := h
  cases o with
  | val p => cases e; cases r.1 with | tup h r => exact ⟨_, _, rfl, h, r⟩
  | ls xs => cases e
  | dc kvs => cases e
  | ll xss => cases e
theorem RepV.lst {v : V} {xs : List PV} (h : RepV g F H v (.lst xs)) : ∃ a vs, v = .ref a ∧ Rd H a (.lst vs) ∧ RepPs g F H vs xs := by
  obtain ⟨o, B, e, r⟩ := h
  cases o with
  | val p => cases e; cases r.1 with | lst f h r => exact ⟨_, _, rfl, h, r⟩
  | ls xs => cases e; obtain ⟨a, vs, rfl, h, r, _⟩ := r; exact ⟨_, _, rfl, .inl h, r⟩
  | dc kvs => cases e
  | ll xss => cases e
theorem RepV.dic {v : V} {kvs : List (PV × PV)} (h : RepV g F H v (.dic kvs)) : ∃ a es, v = .ref a ∧ H a = some (DictO a es) ∧ RepDs g F H es kvs ∧ DK kvs := by
  obtain ⟨o, B, e, r⟩ := h
  cases o with
  | val p => cases e; cases r.1 with | dic f h r n => exact ⟨_, _, rfl, h, r, n⟩
  | ls xs => cases e
  | dc kvs => cases e; obtain ⟨a, es, rfl, h, r, n, _⟩ := r; exact ⟨_, _, rfl, h, r, n⟩
  | ll xss => cases e
theorem RepV.fn {v : V} {n : Nat} (h : RepV g F H v (.fn n)) : ∃ a, v = .ref a ∧ g.fa n = some a := by
  obtain ⟨o, B, e, r⟩ := h
  cases o with
  | val p => cases e; cases r.1 with | fn h => exact ⟨_, rfl, h⟩
  | ls xs => cases e
  | dc kvs => cases e
  | ll xss => cases e
theorem RepV.scr {v : V} {ns : List Int} (h : RepV g F H v (.scr ns)) : ∃ a, v = .ref a ∧ ScrAt g.K H a (ns.map V.int) := by
  obtain ⟨o, B, e, r⟩ := h
  cases o with
  | val p => cases e; cases r.1 with | scr h => exact ⟨_, rfl, h⟩
  | ls xs => cases e
  | dc kvs => cases e
  | ll xss => cases e
theorem RepV.ty {v : V} {n : String} (h : RepV g F H v (.ty n)) : v = .ty n := by
  obtain ⟨o, B, e, r⟩ := h
  cases o with
  | val p => cases e; cases r.1; rfl
  | ls xs => cases e
  | dc kvs => cases e
  | ll xss => cases e

/-! ### steps of what is wanted -/
section
variable {α β : Type} {R : (Addr → Prop) → Hp → β → α → (Addr → Prop) → Prop} {Q : β → Hp → Prop}
theorem Post.vw {r : RV} {k : PV → SE α} (h : Post g W σ R F As H (bnd (Mv.vw r) k e) Q) : ∃ p, view r e = some p ∧ Post g W σ R F As H (k p e) Q := by
  unfold bnd Mv.vw at h
  cases q : view r e with
  | none => rw [q] at h; exact h.elim
  | some p => rw [q] at h; exact ⟨p, rfl, h⟩
theorem Post.ofO {γ : Type} {o : Option γ} {k : γ → SE α} (h : Post g W σ R F As H (bnd (Mv.ofO o) k e) Q) : ∃ p, o = some p ∧ Post g W σ R F As H (k p e) Q := by
  cases o with
  | none => exact h.elim
  | some p => exact ⟨p, rfl, h⟩
theorem Post.ofO' {o : Option α} (h : Post g W σ R F As H (Mv.ofO o e) Q) : ∃ p, o = some p ∧ Post g W σ R F As H (.ok p e) Q := by
  cases o with
  | none => exact h.elim
  | some p => exact ⟨p, rfl, h⟩
end
/-- the end: a new value -/
theorem Post.fin {o : OV} {v : V} {Q : VK} (h : Post g W σ (RepR g σ) F As H (.ok (.v o) e2) Q) (s2 : Sim g F2 H1 σ e2 As2) (d : Dl F (Ow As) H F2 (fun b => Ow As2 b ∨ C b) H1) (x : ExtH H1 H2) (r : RepO g F2 H2 v o B) (new : ∀ b, B b → H1 b = none) : Q v H2 := by
  refine h F2 H2 As2 B v (s2.ext x) r (fun b z q => ?_) (fun b z q => ?_) (d.trans (x.dl fun b z => ?_))
  · obtain ⟨o, q⟩ := (s2.kind q).live; rw [new b z] at q; cases q
  · obtain ⟨o, q⟩ := s2.fl b q; rw [new b z] at q; cases q
  · rcases z with z | z
    · exact .inl (.inl z)
    · exact .inr (new b z)
/-- .. no new object -/
theorem Post.fin0 {p : PV} {v : V} {Q : VK} (h : Post g W σ (RepR g σ) F As H (.ok (.v (.val p)) e2) Q) (s2 : Sim g F2 H1 σ e2 As2) (d : Dl F (Ow As) H F2 (fun b => Ow As2 b ∨ C b) H1) (r : RepP g F2 H1 v p) : Q v H1 :=
  h.fin s2 d ExtH.refl (B := fun _ => False) ⟨r, fun _ z => z⟩ fun _ z => z.elim

/-! ### names, constants -/
variable {X : Cx}
theorem je_nm (i : Nat) {x : Str} {pos : Pos} (hN : X.N[i]? = some x := by rfl) (hv : Vis X.env.scope x := by first | exact Or.inl rfl | exact Or.inr (Or.inl rfl) | exact Or.inr (Or.inr rfl)) (hd : (x == ("__debug__" : Str)) = false := by decide)
    (hcd : (x == ("__classdict__" : Str)) = false := by decide) : PE X (.Name x pos) (tE g W (nm i)) := by
  refine pe_imp (pe_var hN hv hd hcd) fun σ H Q h => ?_
  obtain ⟨F, e, As, s, h⟩ := h
  unfold nm at h
  have fin : ∀ o, e[i]? = some (some o) → ∃ v, σ[i]? = some (some v) ∧ RepO g F H v o (As i) := fun o q => s.slot i o q
  split at h
  · rename_i p hp
    obtain ⟨v, h1, r⟩ := s.slot i _ hp
    exact ⟨v, h1, h F H As (fun _ => False) v s ⟨r.1, fun _ z => z⟩ (fun _ z => z.elim) (fun _ z => z.elim) (.refl fun b z => z.elim id False.elim)⟩
  · rename_i o _ ho
    obtain ⟨v, h1, r⟩ := s.slot i _ ho
    exact ⟨v, h1, h F H As (fun _ => False) v s ⟨h1, fun _ z => z⟩ (fun _ z => z.elim) (fun _ z => z.elim) (.refl fun b z => z.elim id False.elim)⟩
  · exact h.elim
theorem je_c {p : PV} {v : V} {ex : Expr} (he : PE X ex (tC v)) (r : ∀ F H, RepP g F H v p) : PE X ex (tE g W (cst p)) := by
  refine pe_imp he fun σ H Q h => ?_
  obtain ⟨F, e, As, s, h⟩ := h
  exact h F H As (fun _ => False) v s ⟨r F H, fun _ z => z⟩ (fun _ z => z.elim) (fun _ z => z.elim) (.refl fun b z => z.elim id False.elim)
theorem je_int {i j pos} : PE X (.Constant (.int i) j pos) (tE g W (cst (.int i))) := je_c pe_int fun _ _ => .int i
theorem je_bl {b j pos} : PE X (.Constant (.bool b) j pos) (tE g W (cst (.bl b))) := je_c pe_bl fun _ _ => .bl b
theorem je_non {j pos} : PE X (.Constant .none j pos) (tE g W (cst .non)) := je_c pe_non fun _ _ => .non
theorem je_str {x j pos} : PE X (.Constant (.str x) j pos) (tE g W (cst (.str x))) := je_c pe_str fun _ _ => .str x

/-! ### operators -/
/-- a rule of HandS over one value, two, a list of them, as a function on what is read; the result is new or a value -/
def Fin (g : Gi) (F : Addr → Prop) (H : Hp) (o : OV) (Q : VK) : Prop := ∀ v H' B, ExtH H H' → RepO g F H' v o B → (∀ b, B b → H b = none) → Q v H'
theorem Fin.val {p : PV} {v : V} {Q : VK} (h : Fin g F H (.val p) Q) (r : RepP g F H v p) : Q v H := h v H (fun _ => False) ExtH.refl ⟨r, fun _ z => z⟩ fun _ z => z.elim
theorem Fin.new {xs : List PV} {vs : List V} {p : Addr} {Q : VK} (h : Fin g F H (.ls xs) Q) (r : RepPs g F H vs xs) (hp : H p = none) : Q (.ref p) (upd H p (.lst vs)) :=
  h _ _ (fun b => b = p) (ExtH.upd hp) ⟨p, vs, rfl, upd_same, r.keep (ExtH.upd hp).keep, fun b => Iff.rfl⟩ fun b e => by rw [e]; exact hp
theorem Fin.newT {xs : List PV} {vs : List V} {p : Addr} {Q : VK} (h : Fin g F H (.val (.tup xs)) Q) (r : RepPs g F H vs xs) (hp : H p = none) : Q (.ref p) (upd H p (.tup vs)) :=
  h _ _ (fun _ => False) (ExtH.upd hp) ⟨.tup (SqT.of upd_same) (r.keep (ExtH.upd hp).keep), fun _ z => z⟩ fun _ z => z.elim
def S1 (g : Gi) (r : V → Hp → VK → Prop) (op : PV → Option OV) : Prop := ∀ F H x p o Q, RepV g F H x p → op p = some o → Fin g F H o Q → r x H Q
def S2 (g : Gi) (r : R2) (op : PV → PV → Option OV) : Prop := ∀ F H x y p q o Q, RepV g F H x p → RepV g F H y q → op p q = some o → Fin g F H o Q → r x y H Q
inductive RepVs (g : Gi) (F : Addr → Prop) (H : Hp) : List V → List PV → Prop
  | nil : RepVs g F H [] []
  | cons {v : V} {vs : List V} {p : PV} {ps : List PV} : RepV g F H v p → RepVs g F H vs ps → RepVs g F H (v :: vs) (p :: ps)
def SN (g : Gi) (r : List V → Hp → VK → Prop) (op : List PV → Option OV) : Prop := ∀ F H xs ps o Q, RepVs g F H xs ps → op ps = some o → Fin g F H o Q → r xs H Q

theorem tE_un {r : V → Hp → VK → Prop} {op : PV → Option OV} {f : SE RV} (hs : S1 g r op) {σ : L2.St} {H : Hp} {Q : VK} (h : tE g W (op1 op f) σ H Q) : tUn r (tE g W f) σ H Q := by
  obtain ⟨F, e, As, s, h⟩ := h
  refine ⟨F, e, As, s, Post.later (C := fun _ => False) s (.refl fun b z => z.elim id False.elim) h fun ra e1 _ F1 H1 As1 B1 x s1 r1 n1 m1 d1 h1 => ?_⟩
  obtain ⟨p, hp, h1⟩ := h1.vw
  obtain ⟨o, ho, h1⟩ := h1.ofO
  exact hs F1 H1 x p o Q (view_rep r1 s1 hp) ho fun v H' B x' r' n' => h1.fin (C := fun b => Ow As1 b ∨ B1 b) s1 (d1.trans (.refl fun b z => z.elim .inl id)) x' r' n'
theorem tE_op2 {r : R2} {op : PV → PV → Option OV} {f f' : SE RV} (hs : S2 g r op) {σ : L2.St} {H : Hp} {Q : VK} (h : tE g W (op2 op f f') σ H Q) : tOp r (tE g W f) (tE g W f') σ H Q := by
  obtain ⟨F, e, As, s, h⟩ := h
  refine ⟨F, e, As, s, Post.later (C := fun _ => False) s (.refl fun b z => z.elim id False.elim) h fun ra e1 _ F1 H1 As1 B1 x s1 r1 n1 m1 d1 h1 => ?_⟩
  have ap := r1.apart n1 m1
  have d1' : Dl F (Ow As) H F1 (fun b => Ow As1 b ∨ B1 b) H1 := (Dl.refl (A := Ow As) (A' := Ow As) (fun b z => z)).trans d1
  refine ⟨F1, e1, As1, s1, Post.later (C := B1) s1 d1' h1 fun rb e2 _ F2 H2 As2 B2 y s2 r2 n2 m2 d2 h2 => ?_⟩
  have r1' : RepR g σ F2 H2 x ra B1 := r1.stay (d2.toKeep s1.nfA) fun b o c q => ap.same d2 c q
  obtain ⟨p, hp, h2⟩ := h2.vw
  obtain ⟨q, hq, h2⟩ := h2.vw
  obtain ⟨o, ho, h2⟩ := h2.ofO
  have dd := d1'.trans (d2.frame (B := B1))
  exact hs F2 H2 x y p q o Q (view_rep r1' s2 hp) (view_rep r2 s2 hq) ho fun v H' B x' r' n' => h2.fin (C := fun b => Ow As2 b ∨ B1 b ∨ B2 b) s2 (dd.less fun b z => by
    rcases z with z | z | z | z
    · exact .inl (.inl z)
    · exact .inl (.inl z)
    · exact .inr z
    · exact .inl (.inr z)) x' r' n'

variable {a b c : Expr} {pos : Pos} {fa fb fc : SE RV}
theorem je_un {o : UnaryOp} {r : V → Hp → VK → Prop} {op : PV → Option OV} (ho : UnR X (unaryOp o) r) (hs : S1 g r op) (ha : PE X a (tE g W fa)) : PE X (.UnaryOp o a pos) (tE g W (op1 op fa)) := pe_imp (pe_un ho ha) fun _ _ _ h => tE_un hs h
theorem je_bin {o : Operator} {r : R2} {op : PV → PV → Option OV} (ho : OpR X (binaryOp o) r) (hs : S2 g r op) (ha : PE X a (tE g W fa)) (hb : PE X b (tE g W fb)) : PE X (.BinOp a o b pos) (tE g W (op2 op fa fb)) :=
  pe_imp (pe_op ho ha hb) fun _ _ _ h => tE_op2 hs h
theorem je_cmp {o : CmpOp} {r : R2} {op : PV → PV → Option OV} (ho : OpR X (compareOp o) r) (hs : S2 g r op) (ha : PE X a (tE g W fa)) (hb : PE X b (tE g W fb)) (hm : behindInMarks o b = false) : PE X (.Compare a [o] [b] pos) (tE g W (op2 op fa fb)) :=
  pe_imp (pe_cmpR ho ha hb hm) fun _ _ _ h => tE_op2 hs h
theorem je_ix {r : R2} {op : PV → PV → Option OV} (ho : IxR X r) (hs : S2 g r op) (ha : PE X a (tE g W fa)) (hb : PE X b (tE g W fb)) (hp : PlainIx b := by exact fun _ _ => rfl) : PE X (.Subscript a b pos) (tE g W (op2 op fa fb)) :=
  pe_imp (pe_ix ho ha hb hp) fun _ _ _ h => tE_op2 hs h

/-! ### handed on -/
theorem bnd_assoc {α β γ : Type} (m : SE α) (f : α → SE β) (k : β → SE γ) : bnd (bnd m f) k = bnd m fun a => bnd (f a) k := by
  funext e
  unfold bnd
  cases m e <;> rfl
theorem ret_bnd {α β : Type} (a : α) (k : α → SE β) : bnd (ret a) k = k a := rfl
/-- another set of what nobody changes -/
theorem Sim.more (s : Sim g F H σ e As) (h : ∀ b, F b → F1 b) (n : ∀ i b, As i b → ¬F1 b) (l : ∀ b, F1 b → ∃ o, H b = some o) : Sim g F1 H σ e As :=
  ⟨s.len, fun i o q => let ⟨v, h1, h2⟩ := s.slot i o q; ⟨v, h1, h2.stay ⟨h, fun _ _ e => e, fun _ _ _ e => e, fun _ _ _ e => e⟩ fun _ _ _ e => e⟩, s.off, s.dis, n, l⟩
/-- a name's own thing is handed on -/
theorem Sim.give (s : Sim g F H σ e As) {i : Nat} {o : OV} {v : V} (ho : e[i]? = some (some o)) (hv : σ[i]? = some (some v)) :
    Sim g (fun b => F b ∨ As i b) H σ (e.set i (some (.val o.frz))) (fun j b => j ≠ i ∧ As j b) ∧ RepP g (fun b => F b ∨ As i b) H v o.frz := by
  obtain ⟨v', h1, r⟩ := s.slot i o ho
  rw [hv] at h1; cases h1
  have hi : i < e.length := (List.getElem?_eq_some_iff.mp ho).1
  refine ⟨⟨by rw [List.length_set]; exact s.len, fun j o' q => ?_, fun j q b z => ?_, fun j k b z y => s.dis j k b z.2 y.2, fun j b z y => ?_, fun b f => ?_⟩, r.frz⟩
  · by_cases hj : j = i
    · subst hj
      rw [List.getElem?_set_self hi] at q
      cases q
      exact ⟨v, hv, r.frz, fun b z => z.1 rfl⟩
    · rw [List.getElem?_set_ne (Ne.symm hj)] at q
      obtain ⟨u, h1, h2⟩ := s.slot j o' q
      refine ⟨u, h1, ?_⟩
      have h3 := h2.stay (F' := fun b => F b ∨ As i b) (H' := H) ⟨fun _ => .inl, fun _ _ e => e, fun _ _ _ e => e, fun _ _ _ e => e⟩ fun _ _ _ e => e
      have e3 : (fun b => j ≠ i ∧ As j b) = As j := by funext b; simp [hj]
      rw [e3]
      exact h3
  · by_cases hj : j = i
    · exact z.1 hj
    · exact s.off j (fun o' q' => q o' (by rw [List.getElem?_set_ne (Ne.symm hj)]; exact q')) b z.2
  · rcases y with y | y
    · exact s.nf j b z.2 y
    · exact z.1 (s.dis j i b z.2 y)
  · rcases f with f | f
    · exact s.fl b f
    · exact (r.kind f).live
section
variable {α β : Type} {R : (Addr → Prop) → Hp → β → α → (Addr → Prop) → Prop} {Q : β → Hp → Prop}
theorem Post.esc {r : RV} {v : V} {k : PV → SE α} (h : Post g W σ R F As H (bnd (Mv.esc r) k e2) Q) (s2 : Sim g F2 H2 σ e2 As2) (rr : RepR g σ F2 H2 v r B) (n : ∀ b, B b → ¬Ow As2 b) (m : ∀ b, B b → ¬F2 b) :
    ∃ p e3 F3 As3, Post g W σ R F As H (k p e3) Q ∧ Sim g F3 H2 σ e3 As3 ∧ RepP g F3 H2 v p ∧ Dl F2 (fun b => Ow As2 b ∨ B b) H2 F3 (Ow As3) H2 := by
  cases r with
  | v o =>
    have rr : RepO g F2 H2 v o B := rr
    refine ⟨o.frz, e2, fun b => F2 b ∨ B b, As2, h, s2.more (fun _ => .inl) (fun i b z y => ?_) (fun b y => ?_), rr.frz, ⟨fun _ => .inl, fun _ _ e _ => e, fun _ e => e, fun b z => .inl (.inl z), fun b z => ?_, fun _ _ e => e, fun _ _ _ e => e⟩⟩
    · rcases y with y | y
      · exact s2.nf i b z y
      · exact n b y ⟨i, z⟩
    · rcases y with y | y
      · exact s2.fl b y
      · exact (rr.kind y).live
    · rcases z with z | z
      · exact .inl z
      · exact .inr (.inl (.inr z))
  | b i =>
    obtain ⟨hv, nb⟩ : σ[i]? = some (some v) ∧ ∀ b, ¬B b := rr
    unfold bnd Mv.esc at h
    dsimp only at h
    cases q : e2[i]? with
    | none => rw [q] at h; exact h.elim
    | some x =>
      cases x with
      | none => rw [q] at h; exact h.elim
      | some o =>
        rw [q] at h
        obtain ⟨s3, r3⟩ := s2.give q hv
        refine ⟨o.frz, _, _, _, h, s3, r3, ⟨fun _ => .inl, fun _ _ e _ => e, fun _ e => e, fun b z => ?_, fun b z => ?_, fun _ _ e => e, fun _ _ _ e => e⟩⟩
        · obtain ⟨j, z⟩ := z
          exact .inl (.inl ⟨j, z.2⟩)
        · rcases z with z | z
          · exact .inl z
          · exact .inr (.inl (.inl ⟨i, z⟩))
theorem Post.hold {r : RV} {v : V} {k : OV → SE α} (h : Post g W σ R F As H (bnd (Mv.hold r) k e2) Q) (s2 : Sim g F2 H2 σ e2 As2) (rr : RepR g σ F2 H2 v r B) (n : ∀ b, B b → ¬Ow As2 b) (m : ∀ b, B b → ¬F2 b) :
    ∃ o e3 F3 As3 B3, Post g W σ R F As H (k o e3) Q ∧ Sim g F3 H2 σ e3 As3 ∧ RepO g F3 H2 v o B3 ∧ (∀ b, B3 b → B b) ∧ (∀ b, B3 b → ¬Ow As3 b) ∧ (∀ b, B3 b → ¬F3 b) ∧ Dl F2 (fun b => Ow As2 b ∨ B b) H2 F3 (fun b => Ow As3 b ∨ B3 b) H2 := by
  cases r with
  | v o => exact ⟨o, e2, F2, As2, B, h, s2, rr, fun _ z => z, n, m, .refl fun _ z => z⟩
  | b i =>
    obtain ⟨hv, nb⟩ : σ[i]? = some (some v) ∧ ∀ b, ¬B b := rr
    unfold bnd Mv.hold at h
    dsimp only at h
    cases q : e2[i]? with
    | none => rw [q] at h; exact h.elim
    | some x =>
      cases x with
      | none => rw [q] at h; exact h.elim
      | some o =>
        rw [q] at h
        obtain ⟨s3, r3⟩ := s2.give q hv
        refine ⟨.val o.frz, _, _, _, fun _ => False, h, s3, ⟨r3, fun _ z => z⟩, fun _ z => z.elim, fun _ z => z.elim, fun _ z => z.elim, ⟨fun _ => .inl, fun _ _ e _ => e, fun _ e => e, fun b z => ?_, fun b z => ?_, fun _ _ e => e, fun _ _ _ e => e⟩⟩
        · rcases z with ⟨j, z⟩ | z
          · exact .inl (.inl ⟨j, z.2⟩)
          · exact z.elim
        · rcases z with z | z
          · exact .inl z
          · exact .inr (.inl (.inl ⟨i, z⟩))
theorem Post.escs : ∀ {rs : List RV} {vs : List V} {B : Addr → Prop} {k : List PV → SE α} {e2 : Env} {F2 : Addr → Prop} {As2 : Nat → Addr → Prop}, Post g W σ R F As H (bnd (Mv.escs rs) k e2) Q → Sim g F2 H2 σ e2 As2 → RepRs g σ F2 H2 vs rs B → (∀ b, B b → ¬Ow As2 b) → (∀ b, B b → ¬F2 b) →
    ∃ ps e3 F3 As3, Post g W σ R F As H (k ps e3) Q ∧ Sim g F3 H2 σ e3 As3 ∧ RepPs g F3 H2 vs ps ∧ Dl F2 (fun b => Ow As2 b ∨ B b) H2 F3 (Ow As3) H2
  | [], vs, B, k, e2, F2, As2, h, s2, rr, _, _ => by
    cases rr with
    | nil nb => exact ⟨[], e2, F2, As2, h, s2, .nil, .refl fun b z => .inl z⟩
  | r :: rs, vs, B, k, e2, F2, As2, h, s2, rr, n, m => by
    cases rr with
    | @cons v vs _ _ _ B1 B2 h1 h2 d12 eB =>
      have h' : Post g W σ R F As H (bnd (Mv.esc r) (fun p => bnd (Mv.escs rs) fun ps => k (p :: ps)) e2) Q := by
        have e : bnd (Mv.escs (r :: rs)) k = bnd (Mv.esc r) (fun p => bnd (Mv.escs rs) fun ps => k (p :: ps)) := by
          show bnd (bnd (Mv.esc r) fun p => bnd (Mv.escs rs) fun ps => ret (p :: ps)) k = _
          rw [bnd_assoc]
          congr 1
          funext p
          rw [bnd_assoc]
          rfl
        rw [e] at h
        exact h
      obtain ⟨p, e3, F3, As3, h3, s3, r3, d3⟩ := h'.esc s2 h1 (fun b z => n b ((eB b).mpr (.inl z))) (fun b z => m b ((eB b).mpr (.inl z)))
      have ap : Apart B2 F2 (fun b => Ow As2 b ∨ B1 b) H2 := ⟨fun b z y => by
        rcases y with y | y
        · exact n b ((eB b).mpr (.inr z)) y
        · exact d12 b y z, fun b z => m b ((eB b).mpr (.inr z)), fun b z => (h2.kind z).live⟩
      have ap3 := ap.step d3
      have k3 : Keep F2 H2 F3 H2 := ⟨d3.mono, fun _ _ e => e, fun _ _ _ e => e, fun _ _ _ e => e⟩
      obtain ⟨ps, e4, F4, As4, h4, s4, r4, d4⟩ := Post.escs h3 s3 (h2.stay k3 fun _ _ _ e => e) ap3.a ap3.f
      have k4 : Keep F3 H2 F4 H2 := ⟨d4.mono, fun _ _ e => e, fun _ _ _ e => e, fun _ _ _ e => e⟩
      refine ⟨p :: ps, e4, F4, As4, h4, s4, .cons (r3.keep k4) r4, ?_⟩
      have d3' := d3.frame (B := B2)
      have d5 := d3'.trans d4
      refine ⟨d5.mono, fun _ _ e _ => e, d5.live, fun b z => ?_, fun b z => ?_, d5.tup, d5.frz⟩
      · rcases d5.own b z with (z | z) | z
        · rcases z with z | z
          · exact .inl (.inl z)
          · exact .inl (.inr ((eB b).mpr (.inl z)))
        · exact .inl (.inr ((eB b).mpr (.inr z)))
        · exact .inr z
      · rcases d5.fz b z with z | (z | z) | z
        · exact .inl z
        · rcases z with z | z
          · exact .inr (.inl (.inl z))
          · exact .inr (.inl (.inr ((eB b).mpr (.inl z))))
        · exact .inr (.inl (.inr ((eB b).mpr (.inr z))))
        · exact .inr (.inr z)
theorem Post.vws : ∀ {rs : List RV} {vs : List V} {B : Addr → Prop} {k : List PV → SE α}, Post g W σ R F As H (bnd (Mv.vws rs) k e2) Q → Sim g F2 H2 σ e2 As2 → RepRs g σ F2 H2 vs rs B →
    ∃ ps, RepVs g F2 H2 vs ps ∧ Post g W σ R F As H (k ps e2) Q
  | [], vs, B, k, h, s2, rr => by
    cases rr with
    | nil nb => exact ⟨[], .nil, h⟩
  | r :: rs, vs, B, k, h, s2, rr => by
    cases rr with
    | @cons v vs _ _ _ B1 B2 h1 h2 d12 eB =>
      have h' : Post g W σ R F As H (bnd (Mv.vw r) (fun p => bnd (Mv.vws rs) fun ps => k (p :: ps)) e2) Q := by
        have e : bnd (Mv.vws (r :: rs)) k = bnd (Mv.vw r) (fun p => bnd (Mv.vws rs) fun ps => k (p :: ps)) := by
          show bnd (bnd (Mv.vw r) fun p => bnd (Mv.vws rs) fun ps => ret (p :: ps)) k = _
          rw [bnd_assoc]
          congr 1
          funext p
          rw [bnd_assoc]
          rfl
        rw [e] at h
        exact h
      obtain ⟨p, hp, h3⟩ := h'.vw
      obtain ⟨ps, r4, h4⟩ := Post.vws h3 s2 h2
      exact ⟨p :: ps, .cons (view_rep h1 s2 hp) r4, h4⟩
end

/-! ### argument lists, displays -/
variable {es : List Expr} {fs : List (SE RV)}
theorem ja_nil : PA X [] (tA g W (args [])) := pa_imp pa_nil fun σ H Q h => by
  obtain ⟨F, e, As, s, h⟩ := h
  exact h F H As (fun _ => False) [] s (.nil fun _ z => z) (fun _ z => z.elim) (fun _ z => z.elim) (.refl fun b z => z.elim id False.elim)
theorem tA_cons {σ : L2.St} {H : Hp} {Q : List V → Hp → Prop} (h : tA g W (args (fa :: fs)) σ H Q) : tE g W fa σ H fun x H1 => tA g W (args fs) σ H1 fun xs H2 => Q (x :: xs) H2 := by
  obtain ⟨F, e, As, s, h⟩ := h
  refine ⟨F, e, As, s, Post.later (C := fun _ => False) s (.refl fun b z => z.elim id False.elim) h fun ra e1 _ F1 H1 As1 B1 x s1 r1 n1 m1 d1 h1 => ?_⟩
  have ap := r1.apart n1 m1
  have d1' : Dl F (Ow As) H F1 (fun b => Ow As1 b ∨ B1 b) H1 := (Dl.refl (A := Ow As) (A' := Ow As) (fun b z => z)).trans d1
  refine ⟨F1, e1, As1, s1, Post.later (C := B1) s1 d1' h1 fun rs e2 _ F2 H2 As2 B2 y s2 r2 n2 m2 d2 h2 => ?_⟩
  have r1' : RepR g σ F2 H2 x ra B1 := r1.stay (d2.toKeep s1.nfA) fun b o c q => ap.same d2 c q
  have ap2 := ap.step d2
  have dd := d1'.trans (d2.frame (B := B1))
  refine h2 F2 H2 As2 (fun b => B1 b ∨ B2 b) (x :: y) s2 (.cons r1' r2 (fun b z y => ap2.a b z (.inr y)) fun b => Iff.rfl) (fun b z => ?_) (fun b z => ?_) (dd.less fun b z => ?_)
  · rcases z with z | z
    · exact fun y => ap2.a b z (.inl y)
    · exact n2 b z
  · rcases z with z | z
    · exact ap2.f b z
    · exact m2 b z
  · rcases z with z | z | z
    · exact .inl (.inl z)
    · exact .inr z
    · exact .inl (.inr z)
theorem tA_nil {σ : L2.St} {H : Hp} {Q : List V → Hp → Prop} (h : tA g W (args []) σ H Q) : Q [] H := by
  obtain ⟨F, e, As, s, h⟩ := h
  exact h F H As (fun _ => False) [] s (.nil fun _ z => z) (fun _ z => z.elim) (fun _ z => z.elim) (.refl fun b z => z.elim id False.elim)
theorem ja_cons (ha : PE X a (tE g W fa)) (hr : PA X es (tA g W (args fs))) (hs : starEach (a :: es) X.env = (false, eval a X.env) :: starEach es X.env := by rfl) : PA X (a :: es) (tA g W (args (fa :: fs))) := pa_imp (pa_cons ha hr hs) fun _ _ _ h => tA_cons h
theorem bnd_ok {α β : Type} {m : SE α} {f : α → SE β} {e e2 : Env} {b : β} (h : bnd m f e = .ok b e2) : ∃ a e1, m e = .ok a e1 ∧ f a e1 = .ok b e2 := by
  unfold bnd at h
  cases q : m e with
  | ok a e1 => rw [q] at h; exact ⟨a, e1, rfl, h⟩
  | exc x e1 => rw [q] at h; cases h
  | bad => rw [q] at h; cases h
theorem args_len : ∀ {fs : List (SE RV)} {e e1 : Env} {rs : List RV}, args fs e = .ok rs e1 → rs.length = fs.length
  | [], _, _, _, h => by
    cases h; rfl
  | f :: fs, e, e1, rs, h => by
    obtain ⟨r, e2, h1, h2⟩ := bnd_ok (show bnd f (fun r => bnd (args fs) fun rs => ret (r :: rs)) e = .ok rs e1 from h)
    obtain ⟨rs2, e3, h3, h4⟩ := bnd_ok h2
    cases h4
    rw [List.length_cons, List.length_cons, args_len h3]
/-- first the items, then what is made of them -/
theorem tA_later {α β : Type} {R : L2.St → (Addr → Prop) → Hp → β → α → (Addr → Prop) → Prop} {k : List RV → SE α} {Q : β → Hp → Prop} {Q' : List V → Hp → Prop} {σ : L2.St} {H : Hp} (h : tX g W R (bnd (args fs) k) σ H Q)
    (hk : ∀ F As (rs : List RV) e1 F1 H1 As1 B1 xs, rs.length = fs.length → Sim g F1 H1 σ e1 As1 → RepRs g σ F1 H1 xs rs B1 → (∀ b, B1 b → ¬Ow As1 b) → (∀ b, B1 b → ¬F1 b) → Dl F (Ow As) H F1 (fun b => Ow As1 b ∨ B1 b) H1 → Post g W σ (R σ) F As H (k rs e1) Q → Q' xs H1) : tA g W (args fs) σ H Q' := by
  obtain ⟨F, e, As, s, h⟩ := h
  exact ⟨F, e, As, s, Post.later (C := fun _ => False) s (.refl fun b z => z.elim id False.elim) h fun rs e1 hm F1 H1 As1 B1 x s1 r1 n1 m1 d1 h1 => hk F As rs e1 F1 H1 As1 B1 x (args_len hm) s1 r1 n1 m1 d1 h1⟩
theorem je_tup {x1} (hl : fs.length ≤ lnX := by decide) (h : PA X es (tA g W (args fs))) : PE X (.Tuple es x1 pos) (tE g W (tupD fs)) := by
  refine pe_imp (pe_tup h) fun σ H Q h => ?_
  refine tA_later h fun F As rs e1 F1 H1 As1 B1 xs hn s1 r1 n1 m1 d1 h1 => ?_
  obtain ⟨ps, e3, F3, As3, h3, s3, r3, d3⟩ := h1.escs s1 r1 n1 m1
  refine ⟨by rw [r1.length, hn, sizeLine_eq]; exact hl, fun p hp => ?_⟩
  refine h3.fin (C := fun _ => False) (B := fun _ => False) s3 ((d1.trans d3).less fun b z => z.elim id False.elim) (ExtH.upd hp) ⟨.tup (SqT.of upd_same) (r3.keep (ExtH.upd hp).keep), fun _ z => z⟩ fun _ z => z.elim
theorem je_lst (hl : fs.length ≤ lnX := by decide) (h : PA X es (tA g W (args fs))) : PE X (.List es pos) (tE g W (lstD fs)) := by
  refine pe_imp (pe_lst h) fun σ H Q h => ?_
  refine tA_later h fun F As rs e1 F1 H1 As1 B1 xs hn s1 r1 n1 m1 d1 h1 => ?_
  obtain ⟨ps, e3, F3, As3, h3, s3, r3, d3⟩ := h1.escs s1 r1 n1 m1
  refine ⟨by rw [r1.length, hn, sizeLine_eq]; exact hl, fun p hp => ?_⟩
  refine h3.fin (C := fun _ => False) (B := fun b => b = p) s3 ((d1.trans d3).less fun b z => z.elim id False.elim) (ExtH.upd hp) ⟨p, xs, rfl, upd_same, r3.keep (ExtH.upd hp).keep, fun b => Iff.rfl⟩ fun b z => by rw [z]; exact hp
/-- a built-in by name -/
theorem tE_opN {r : List V → Hp → VK → Prop} {op : List PV → Option OV} (hs : SN g r op) {σ : L2.St} {H : Hp} {Q : VK} (h : tE g W (opN op fs) σ H Q) : tA g W (args fs) σ H (fun xs H1 => r xs H1 Q) := by
  refine tA_later h fun F As rs e1 F1 H1 As1 B1 xs hn s1 r1 n1 m1 d1 h1 => ?_
  obtain ⟨ps, r4, h4⟩ := Post.vws h1 s1 r1
  obtain ⟨o, ho, h4⟩ := h4.ofO
  exact hs F1 H1 xs ps o Q r4 ho fun v H' B x' r' n' => h4.fin (C := B1) s1 d1 x' r' n'
end
end Mv
end
/-! file MvT -/
section
set_option linter.all false
set_option autoImplicit false
set_option maxRecDepth 100000
/-! Mv, part T: tests, and, or, not, if, chains. -/
namespace Mv
open PySem PySem.Spec PyProof.Rows L2

section
variable {g : Gi} {W : WX} {F F1 F2 : Addr → Prop} {H H1 H2 : Hp} {σ : L2.St} {e e1 e2 : Env} {As As1 As2 : Nat → Addr → Prop} {B B1 B2 C : Addr → Prop} {X : Cx}

/-- first an expression, then what follows -/
theorem tE_later {α β : Type} {R : L2.St → (Addr → Prop) → Hp → β → α → (Addr → Prop) → Prop} {f : SE RV} {k : RV → SE α} {Q : β → Hp → Prop} {Q' : VK} (h : tX g W R (bnd f k) σ H Q)
    (hk : ∀ F As (r : RV) e1 F1 H1 As1 B1 x, Sim g F1 H1 σ e1 As1 → RepR g σ F1 H1 x r B1 → (∀ b, B1 b → ¬Ow As1 b) → (∀ b, B1 b → ¬F1 b) → Dl F (Ow As) H F1 (fun b => Ow As1 b ∨ B1 b) H1 → Post g W σ (R σ) F As H (k r e1) Q → Q' x H1) : tE g W f σ H Q' := by
  obtain ⟨F, e, As, s, h⟩ := h
  exact ⟨F, e, As, s, Post.later (C := fun _ => False) s (.refl fun b z => z.elim id False.elim) h fun r e1 hm F1 H1 As1 B1 x s1 r1 n1 m1 d1 h1 => hk F As r e1 F1 H1 As1 B1 x s1 r1 n1 m1 d1 h1⟩
theorem tT_later {α β : Type} {R : L2.St → (Addr → Prop) → Hp → β → α → (Addr → Prop) → Prop} {f : SE Bool} {k : Bool → SE α} {Q : β → Hp → Prop} {Q' : Bool → Hp → Prop} (h : tX g W R (bnd f k) σ H Q)
    (hk : ∀ F As (r : Bool) e1 F1 H1 As1, Sim g F1 H1 σ e1 As1 → Dl F (Ow As) H F1 (Ow As1) H1 → Post g W σ (R σ) F As H (k r e1) Q → Q' r H1) : tT g W f σ H Q' := by
  obtain ⟨F, e, As, s, h⟩ := h
  refine ⟨F, e, As, s, Post.later (C := fun _ => False) s (.refl fun b z => z.elim id False.elim) h fun r e1 hm F1 H1 As1 B1 x s1 r1 n1 m1 d1 h1 => ?_⟩
  obtain ⟨rfl, _⟩ := r1
  exact hk F As _ e1 F1 H1 As1 s1 (d1.less fun b z => .inl z) h1
/-- what is wanted, seen from a later place where nothing of its own stands aside -/
theorem Post.from {α β : Type} {R : L2.St → (Addr → Prop) → Hp → β → α → (Addr → Prop) → Prop} {m : SE α} {Q : β → Hp → Prop} (s1 : Sim g F1 H1 σ e1 As1) (d : Dl F (Ow As) H F1 (fun b => Ow As1 b ∨ C b) H1) (h : Post g W σ (R σ) F As H (m e1) Q) : tX g W R m σ H1 Q := by
  refine ⟨F1, e1, As1, s1, ?_⟩
  cases q : m e1 with
  | ok a e2 =>
    rw [q] at h
    exact fun F2 H2 As2 B y s2 r n1 n2 d2 => h F2 H2 As2 B y s2 r n1 n2 ((d.less fun b z => .inl z).trans d2)
  | exc x e2 =>
    rw [q] at h
    exact fun F2 H2 As2 cls dd s2 d2 r => h F2 H2 As2 cls dd s2 ((d.less fun b z => .inl z).trans d2) r
  | bad => rw [q] at h; exact h

theorem truth_ok {x : V} {p : PV} {k : Bool} (r : RepV g F H x p) (h : truth p = some k) : TruV g.K x H k := by
  cases p with
  | non => cases h; rw [r.non]; rfl
  | bl b => cases h; rw [r.bl]; rfl
  | int i => cases h; rw [r.int]; rfl
  | str s =>
    have h' : (if s.length ≤ lnX then some ((s.length : Int) != 0) else none) = some k := h
    split at h'
    · rename_i hl
      cases h'
      rw [r.str]
      exact ⟨by rw [sizeLine_eq]; exact hl, rfl⟩
    · cases h'
  | tup xs =>
    cases h
    obtain ⟨a, vs, rfl, h1, h2⟩ := r.tup
    refine .inr (.inl ⟨vs, h1, ?_⟩)
    cases h2 <;> rfl
  | lst xs =>
    cases h
    obtain ⟨a, vs, rfl, h1, h2⟩ := r.lst
    refine .inl ⟨vs, .inl h1, ?_⟩
    cases h2 <;> rfl
  | dic kvs => cases h
  | fn n => cases h
  | ty n => cases h
  | scr n => cases h

variable {a b c : Expr} {pos : Pos} {fa fb fc : SE RV} {ga gb : SE Bool} {rest : List Expr}
/-- an expression as a test -/
theorem jt_tst (hK : X.K = g.K := by rfl) (ha : PE X a (tE g W fa)) (he : ∀ whole, isTrue a X.env whole = (do let v ← whole; standAt a.pos; holding [v] (truthy v)) := by exact fun _ => rfl) : PT X a (tT g W (tst fa)) := by
  refine pt_imp (pt_truth ha he) fun σ H Q h => ?_
  refine tE_later h fun F As r e1 F1 H1 As1 B1 x s1 r1 n1 m1 d1 h1 => ?_
  obtain ⟨p, hp, h1⟩ := h1.vw
  obtain ⟨k, hk, h1⟩ := h1.ofO'
  rw [hK]
  exact ⟨k, truth_ok (view_rep r1 s1 hp) hk, h1 F1 H1 As1 (fun _ => False) k s1 ⟨rfl, fun _ z => z⟩ (fun _ z => z.elim) (fun _ z => z.elim) (d1.less fun b z => z.elim .inl False.elim)⟩
/-- a comparison as a test -/
theorem tT_B {f : SE RV} {t : TE} {Q : Bool → Hp → Prop} (ht : ∀ σ H Q, tE g W f σ H Q → t σ H Q) (h : tT g W (tstB f) σ H Q) : tTest t σ H Q := by
  refine ht _ _ _ (tE_later h fun F As r e1 F1 H1 As1 B1 x s1 r1 n1 m1 d1 h1 => ?_)
  obtain ⟨p, hp, h1⟩ := h1.vw
  cases p with
  | bl k =>
    have r2 := (view_rep r1 s1 hp).bl
    exact ⟨k, r2, h1 F1 H1 As1 (fun _ => False) k s1 ⟨rfl, fun _ z => z⟩ (fun _ z => z.elim) (fun _ z => z.elim) (d1.less fun b z => z.elim .inl False.elim)⟩
  | _ => exact h1.elim
theorem jt_cmp {o : CmpOp} {r : R2} {op : PV → PV → Option OV} (ho : OpR X (compareOp o) r) (hs : S2 g r op) (ha : PE X a (tE g W fa)) (hb : PE X b (tE g W fb)) (hm : behindInMarks o b = false) : PT X (.Compare a [o] [b] pos) (tT g W (tstB (op2 op fa fb))) :=
  pt_imp (pt_cmpR ho ha hb hm) fun _ _ _ h => tT_B (fun _ _ _ h => tE_op2 hs h) h
theorem jt_not (ha : PT X a (tT g W ga)) : PT X (.UnaryOp .Not a pos) (tT g W (tNotS ga)) := by
  refine pt_imp (pt_not ha) fun σ H Q h => tT_later h fun F As r e1 F1 H1 As1 s1 d1 h1 => ?_
  exact h1 F1 H1 As1 (fun _ => False) _ s1 ⟨rfl, fun _ z => z⟩ (fun _ z => z.elim) (fun _ z => z.elim) (d1.less fun b z => z.elim id False.elim)
theorem jt_w {e : Expr} {tt : TT} (h : PW X e tt) : PT X e tt := h.pt
theorem jw_and1 (ha : PT X a (tT g W ga)) : PW X (.BoolOp .And [a] pos) (tT g W ga) := pw_and1 ha
theorem jw_or1 (ha : PT X a (tT g W ga)) : PW X (.BoolOp .Or [a] pos) (tT g W ga) := pw_or1 ha
theorem jw_and (ha : PT X a (tT g W ga)) (hb : PW X (.BoolOp .And (b :: rest) pos) (tT g W gb)) : PW X (.BoolOp .And (a :: b :: rest) pos) (tT g W (tAndS ga gb)) := by
  refine pw_imp (pw_and ha hb) fun σ H Q h => tT_later h fun F As r e1 F1 H1 As1 s1 d1 h1 => ?_
  cases r with
  | true => exact Post.from (C := fun _ => False) s1 (d1.less fun b z => z.elim id False.elim) h1
  | false => exact h1 F1 H1 As1 (fun _ => False) _ s1 ⟨rfl, fun _ z => z⟩ (fun _ z => z.elim) (fun _ z => z.elim) (d1.less fun b z => z.elim id False.elim)
theorem jw_or (ha : PT X a (tT g W ga)) (hb : PW X (.BoolOp .Or (b :: rest) pos) (tT g W gb)) : PW X (.BoolOp .Or (a :: b :: rest) pos) (tT g W (tOrS ga gb)) := by
  refine pw_imp (pw_or ha hb) fun σ H Q h => tT_later h fun F As r e1 F1 H1 As1 s1 d1 h1 => ?_
  cases r with
  | false => exact Post.from (C := fun _ => False) s1 (d1.less fun b z => z.elim id False.elim) h1
  | true => exact h1 F1 H1 As1 (fun _ => False) _ s1 ⟨rfl, fun _ z => z⟩ (fun _ z => z.elim) (fun _ z => z.elim) (d1.less fun b z => z.elim id False.elim)
/-! values -/
theorem je_and (hK : X.K = g.K := by rfl) (ha : PE X a (tE g W fa)) (hb : PE X (.BoolOp .And (b :: rest) pos) (tE g W fb)) : PE X (.BoolOp .And (a :: b :: rest) pos) (tE g W (andE fa fb)) := by
  refine pe_imp (pe_andT ha hb) fun σ H Q h => tE_later h fun F As r e1 F1 H1 As1 B1 x s1 r1 n1 m1 d1 h1 => ?_
  obtain ⟨p, hp, h1⟩ := h1.vw
  obtain ⟨k, hk, h1⟩ := h1.ofO
  rw [hK]
  refine ⟨k, truth_ok (view_rep r1 s1 hp) hk, ?_⟩
  cases k with
  | true =>
    rw [if_pos rfl]
    exact Post.from s1 d1 h1
  | false =>
    rw [if_neg Bool.false_ne_true]
    exact h1 F1 H1 As1 B1 x s1 r1 n1 m1 d1
theorem je_or (hK : X.K = g.K := by rfl) (ha : PE X a (tE g W fa)) (hb : PE X (.BoolOp .Or (b :: rest) pos) (tE g W fb)) : PE X (.BoolOp .Or (a :: b :: rest) pos) (tE g W (orE fa fb)) := by
  refine pe_imp (pe_orT ha hb) fun σ H Q h => tE_later h fun F As r e1 F1 H1 As1 B1 x s1 r1 n1 m1 d1 h1 => ?_
  obtain ⟨p, hp, h1⟩ := h1.vw
  obtain ⟨k, hk, h1⟩ := h1.ofO
  rw [hK]
  refine ⟨k, truth_ok (view_rep r1 s1 hp) hk, ?_⟩
  cases k with
  | false =>
    rw [if_neg Bool.false_ne_true]
    exact Post.from s1 d1 h1
  | true =>
    rw [if_pos rfl]
    exact h1 F1 H1 As1 B1 x s1 r1 n1 m1 d1
theorem je_one {op} (ha : PE X a (tE g W fa)) : PE X (.BoolOp op [a] pos) (tE g W fa) := pe_one ha
theorem je_not (hK : X.K = g.K := by rfl) (ha : PE X a (tE g W fa)) : PE X (.UnaryOp .Not a pos) (tE g W (notE fa)) := by
  refine pe_imp (pe_notT ha) fun σ H Q h => tE_later h fun F As r e1 F1 H1 As1 B1 x s1 r1 n1 m1 d1 h1 => ?_
  obtain ⟨p, hp, h1⟩ := h1.vw
  obtain ⟨k, hk, h1⟩ := h1.ofO
  rw [hK]
  exact ⟨k, truth_ok (view_rep r1 s1 hp) hk, h1.fin0 s1 d1 (.bl _)⟩
theorem je_if (hc : PT X c (tT g W ga)) (ha : PE X a (tE g W fa)) (hb : PE X b (tE g W fb)) : PE X (.IfExp c a b pos) (tE g W (ifE ga fa fb)) := by
  refine pe_imp (pe_ifExp hc ha hb) fun σ H Q h => tT_later h fun F As r e1 F1 H1 As1 s1 d1 h1 => ?_
  cases r with
  | true => exact Post.from (C := fun _ => False) s1 (d1.less fun b z => z.elim id False.elim) h1
  | false => exact Post.from (C := fun _ => False) s1 (d1.less fun b z => z.elim id False.elim) h1
/-- a op b op' c; the operands of op, op' are read as bools' makers -/
theorem tE_ch {r r' : R2} {op op' : PV → PV → Option Bool} (hs : S2 g r fun x y => (op x y).map fun b => .val (.bl b)) (hs' : S2 g r' fun x y => (op' x y).map fun b => .val (.bl b)) {Q : VK} (h : tE g W (chE op op' fa fb fc) σ H Q) :
    tChain r r' (tE g W fa) (tE g W fb) (tE g W fc) σ H Q := by
  refine tE_later h fun F As ra e1 F1 H1 As1 B1 x s1 r1 n1 m1 d1 h1 => ?_
  have ap := r1.apart n1 m1
  refine ⟨F1, e1, As1, s1, Post.later (C := B1) s1 d1 h1 fun rb e2 _ F2 H2 As2 B2 y s2 r2 n2 m2 d2 h2 => ?_⟩
  have r1' : RepR g σ F2 H2 x ra B1 := r1.stay (d2.toKeep s1.nfA) fun b o c q => ap.same d2 c q
  have ap2 := ap.step d2
  obtain ⟨p, hp, h2⟩ := h2.vw
  obtain ⟨q, hq, h2⟩ := h2.vw
  obtain ⟨k, ho, h2⟩ := h2.ofO
  have dd := d1.trans (d2.frame (B := B1))
  refine hs F2 H2 x y p q (.val (.bl k)) _ (view_rep r1' s2 hp) (view_rep r2 s2 hq) (by dsimp only; rw [ho]; rfl) fun v H3 B3 x3 r3 n3 => ?_
  have ev : v = .bl k := by
    have := r3.1
    cases this; rfl
  refine ⟨k, ev, ?_⟩
  have s3 := s2.ext x3
  have r2' : RepR g σ F2 H3 y rb B2 := r2.stay x3.keep fun b o c q => x3 _ _ q
  have d3 : Dl F (Ow As) H F2 (fun b => Ow As2 b ∨ B2 b) H3 := (dd.trans (x3.dl (A' := fun b => Ow As2 b ∨ B2 b) fun b z => by
    rcases z with z | z
    · exact .inl (.inl (.inl z))
    · exact .inl (.inl (.inr z))))
  cases k with
  | false =>
    rw [if_neg Bool.false_ne_true]
    exact h2.fin0 s3 d3 (.bl false)
  | true =>
    rw [if_pos rfl]
    have ap3 := (r2'.apart (As := As2) n2 m2)
    refine ⟨F2, e2, As2, s3, Post.later (C := B2) s3 d3 h2 fun rc e4 _ F4 H4 As4 B4 z s4 r4 n4 m4 d4 h4 => ?_⟩
    have r2'' : RepR g σ F4 H4 y rb B2 := r2'.stay (d4.toKeep s3.nfA) fun b o c q => ap3.same d4 c q
    obtain ⟨q', hq', h4⟩ := h4.vw
    obtain ⟨t, ht, h4⟩ := h4.vw
    obtain ⟨k', ho', h4⟩ := h4.ofO
    have d5 := d3.trans (d4.frame (B := B2))
    exact hs' F4 H4 y z q' t (.val (.bl k')) Q (view_rep r2'' s4 hq') (view_rep r4 s4 ht) (by dsimp only; rw [ho']; rfl) fun v H5 B5 x5 r5 n5 => h4.fin (C := fun b => B4 b ∨ B2 b) s4 (d5.less fun b z => by
      rcases z with z | z | z
      · exact .inl (.inl z)
      · exact .inl (.inr z)
      · exact .inr z) x5 r5 n5
theorem je_ch {o o' : CmpOp} {r r' : R2} {op op' : PV → PV → Option Bool} (ho : OpR X (compareOp o) r) (ho' : OpR X (compareOp o') r') (hs : S2 g r fun x y => (op x y).map fun b => .val (.bl b)) (hs' : S2 g r' fun x y => (op' x y).map fun b => .val (.bl b))
    (ha : PE X a (tE g W fa)) (hb : PE X b (tE g W fb)) (hc : PE X c (tE g W fc)) (hm : lastMarks [o, o'] [b, c] = false := by with_unfolding_all rfl) : PE X (.Compare a [o, o'] [b, c] pos) (tE g W (chE op op' fa fb fc)) :=
  pe_imp (pe_chain ho ho' ha hb hc hm) fun _ _ _ h => tE_ch hs hs' h
theorem jt_ch {o o' : CmpOp} {r r' : R2} {op op' : PV → PV → Option Bool} (ho : OpR X (compareOp o) r) (ho' : OpR X (compareOp o') r') (hs : S2 g r fun x y => (op x y).map fun b => .val (.bl b)) (hs' : S2 g r' fun x y => (op' x y).map fun b => .val (.bl b))
    (ha : PE X a (tE g W fa)) (hb : PE X b (tE g W fb)) (hc : PE X c (tE g W fc)) (hm : lastMarks [o, o'] [b, c] = false := by with_unfolding_all rfl) : PT X (.Compare a [o, o'] [b, c] pos) (tT g W (tstB (chE op op' fa fb fc))) :=
  pt_imp (pt_chain ho ho' ha hb hc hm) fun _ _ _ h => tT_B (fun _ _ _ h => tE_ch hs hs' h) h
end
end Mv
end
/-! file MvS -/
section
set_option linter.all false
set_option autoImplicit false
set_option maxRecDepth 100000
/-! Mv, part S: statements. -/
namespace Mv
open PySem PySem.Spec PyProof.Rows L2

theorem ps_imp {X : Cx} {e : Stmt} {t t' : TS} (h : PS X e t) (i : ∀ D σ H, t' D σ H → t D σ H) : PS X e t' := ⟨fun pins s σ H D I q => h.run pins s σ H D I (i D σ H q)⟩
theorem pss_imp {X : Cx} {e : List Stmt} {t t' : TS} (h : PSs X e t) (i : ∀ D σ H, t' D σ H → t D σ H) : PSs X e t' := ⟨fun pins s σ H D I q => h.run pins s σ H D I (i D σ H q)⟩
theorem pg_imp {X : Cx} {e : Expr} {t t' : TG} (h : PG X e t) (i : ∀ v σ H Q, t' v σ H Q → t v σ H Q) : PG X e t' := ⟨fun pins s σ H v u Q I r q => h.run pins s σ H v u Q I r (i v σ H Q q)⟩

/-- what pn says stays bound as it is -/
structure PinsEq (pn : Nat → Bool) (σ σ' : L2.St) : Prop where
  len : σ'.length = σ.length
  eq : ∀ i, pn i = true → σ'[i]? = σ[i]?
theorem PinsEq.refl {pins : Nat → Bool} {σ : L2.St} : PinsEq pins σ σ := ⟨rfl, fun _ _ => rfl⟩
theorem PinsEq.trans {pins : Nat → Bool} {σ σ1 σ2 : L2.St} (a : PinsEq pins σ σ1) (b : PinsEq pins σ1 σ2) : PinsEq pins σ σ2 := ⟨b.len.trans a.len, fun i h => (b.eq i h).trans (a.eq i h)⟩
theorem PinsEq.set {pins : Nat → Bool} {σ : L2.St} {i : Nat} {v : Option V} (h : pins i = false) : PinsEq pins σ (σ.set i v) := ⟨List.length_set .., fun j hj => by
  have : i ≠ j := fun e => by
    subst e
    rw [h] at hj; cases hj
  rw [List.getElem?_set_ne this]⟩

section
variable {g : Gi} {W : WX} {pins : Nat → Bool} {F F1 F2 : Addr → Prop} {H H1 H2 : Hp} {σ σ1 : L2.St} {e e1 e2 : Env} {As As1 As2 : Nat → Addr → Prop} {B B1 B2 C : Addr → Prop} {X : Cx} {D : Ends}

def PostS (g : Gi) (W : WX) (pins : Nat → Bool) (σ : L2.St) (F : Addr → Prop) (As : Nat → Addr → Prop) (H : Hp) (res : SR) (D : Ends) : Prop :=
  match res with
  | .nx e' => ∀ F' H' σ' As', Sim g F' H' σ' e' As' → PinsEq pins σ σ' → Dl F (Ow As) H F' (Ow As') H' → D.nx σ' H'
  | .bk e' => ∀ F' H' σ' As', Sim g F' H' σ' e' As' → PinsEq pins σ σ' → Dl F (Ow As) H F' (Ow As') H' → D.bk σ' H'
  | .ct e' => ∀ F' H' σ' As', Sim g F' H' σ' e' As' → PinsEq pins σ σ' → Dl F (Ow As) H F' (Ow As') H' → D.ct σ' H'
  | .rt r e' => ∀ F' H' σ' As' B v, Sim g F' H' σ' e' As' → PinsEq pins σ σ' → RepR g σ' F' H' v r B → (∀ b, B b → ¬Ow As' b) → (∀ b, B b → ¬F' b) → Dl F (Ow As) H F' (fun b => Ow As' b ∨ B b) H' → D.rt v H'
  | .exc x e' => ∀ F' H' σ' As' cls d, Sim g F' H' σ' e' As' → PinsEq pins σ σ' → Dl F (Ow As) H F' (Ow As') H' → ExcR g x cls d H' → W cls d σ' H'
  | .bad => False
def tS (g : Gi) (W : WX) (pins : Nat → Bool) (f : SS) : TS := fun D σ H => ∃ F e As, Sim g F H σ e As ∧ PostS g W pins σ F As H (f e) D
/-- the same wish from a later place -/
theorem PostS.from {res : SR} (h : PostS g W pins σ F As H res D) (p : PinsEq pins σ σ1) (d : Dl F (Ow As) H F1 (Ow As1) H1) : PostS g W pins σ1 F1 As1 H1 res D := by
  cases res with
  | nx e' => exact fun F' H' σ' As' s p' d' => h F' H' σ' As' s (p.trans p') (d.trans d')
  | bk e' => exact fun F' H' σ' As' s p' d' => h F' H' σ' As' s (p.trans p') (d.trans d')
  | ct e' => exact fun F' H' σ' As' s p' d' => h F' H' σ' As' s (p.trans p') (d.trans d')
  | rt r e' => exact fun F' H' σ' As' B v s p' r n m d' => h F' H' σ' As' B v s (p.trans p') r n m (d.trans d')
  | exc x e' => exact fun F' H' σ' As' cls dd s p' d' r => h F' H' σ' As' cls dd s (p.trans p') (d.trans d') r
  | bad => exact h
theorem PostS.ends {res : SR} {D' : Ends} (h : PostS g W pins σ F As H res D) (hn : ∀ σ H, D.nx σ H → D'.nx σ H) (hb : ∀ σ H, D.bk σ H → D'.bk σ H) (hc : ∀ σ H, D.ct σ H → D'.ct σ H) (hr : ∀ v H, D.rt v H → D'.rt v H) : PostS g W pins σ F As H res D' := by
  cases res with
  | nx e' => exact fun F' H' σ' As' s p' d' => hn _ _ (h F' H' σ' As' s p' d')
  | bk e' => exact fun F' H' σ' As' s p' d' => hb _ _ (h F' H' σ' As' s p' d')
  | ct e' => exact fun F' H' σ' As' s p' d' => hc _ _ (h F' H' σ' As' s p' d')
  | rt r e' => exact fun F' H' σ' As' B v s p' r n m d' => hr _ _ (h F' H' σ' As' B v s p' r n m d')
  | exc x e' => exact h
  | bad => exact h
theorem PostS.later {γ δ : Type} {R' : (Addr → Prop) → Hp → δ → γ → (Addr → Prop) → Prop} {C : Addr → Prop} {Q' : δ → Hp → Prop} {m : XR γ} {k : γ → SS} (s1 : Sim g F1 H1 σ e As1) (d : Dl F (Ow As) H F1 (fun b => Ow As1 b ∨ C b) H1)
    (h : PostS g W pins σ F As H (match m with | .ok a e1 => k a e1 | .exc x e1 => .exc x e1 | .bad => .bad) D)
    (hk : ∀ (a : γ) (e2 : Env), m = .ok a e2 → ∀ (F2 : Addr → Prop) (H2 : Hp) (As2 : Nat → Addr → Prop) (B : Addr → Prop) (y : δ), Sim g F2 H2 σ e2 As2 → R' F2 H2 y a B → (∀ b, B b → ¬Ow As2 b) → (∀ b, B b → ¬F2 b) → Dl F1 (Ow As1) H1 F2 (fun b => Ow As2 b ∨ B b) H2 →
      PostS g W pins σ F As H (k a e2) D → Q' y H2) : Post g W σ R' F1 As1 H1 m Q' := by
  cases m with
  | ok a e1 => exact fun F2 H2 As2 B y s2 r n1 n2 d2 => hk a e1 rfl F2 H2 As2 B y s2 r n1 n2 d2 h
  | exc x e1 => exact fun F2 H2 As2 cls dd s2 d2 r => h F2 H2 σ As2 cls dd s2 PinsEq.refl (d.trans (d2.frame (B := C)) |>.less fun b z => .inl z) r
  | bad => exact h
theorem sE_later {f : SE RV} {k : RV → SS} {Q' : VK} (h : tS g W pins (ofX f k) D σ H)
    (hk : ∀ F As (r : RV) e1 F1 H1 As1 B1 x, Sim g F1 H1 σ e1 As1 → RepR g σ F1 H1 x r B1 → (∀ b, B1 b → ¬Ow As1 b) → (∀ b, B1 b → ¬F1 b) → Dl F (Ow As) H F1 (fun b => Ow As1 b ∨ B1 b) H1 → PostS g W pins σ F As H (k r e1) D → Q' x H1) : tE g W f σ H Q' := by
  obtain ⟨F, e, As, s, h⟩ := h
  exact ⟨F, e, As, s, PostS.later (C := fun _ => False) s (.refl fun b z => z.elim id False.elim) h fun r e1 hm F1 H1 As1 B1 x s1 r1 n1 m1 d1 h1 => hk F As r e1 F1 H1 As1 B1 x s1 r1 n1 m1 d1 h1⟩
theorem sT_later {f : SE Bool} {k : Bool → SS} {Q' : Bool → Hp → Prop} (h : tS g W pins (ofX f k) D σ H)
    (hk : ∀ F As (r : Bool) e1 F1 H1 As1, Sim g F1 H1 σ e1 As1 → Dl F (Ow As) H F1 (Ow As1) H1 → PostS g W pins σ F As H (k r e1) D → Q' r H1) : tT g W f σ H Q' := by
  obtain ⟨F, e, As, s, h⟩ := h
  refine ⟨F, e, As, s, PostS.later (C := fun _ => False) s (.refl fun b z => z.elim id False.elim) h fun r e1 hm F1 H1 As1 B1 x s1 r1 n1 m1 d1 h1 => ?_⟩
  obtain ⟨rfl, _⟩ := r1
  exact hk F As _ e1 F1 H1 As1 s1 (d1.less fun b z => .inl z) h1
/-- statements' steps through what a result needs -/
theorem PostS.x {α : Type} {m : SE α} {k : α → SS} (h : PostS g W pins σ F As H (ofX m k e) D) (good : ∀ x e', m e ≠ .exc x e') : ∃ a e1, m e = .ok a e1 ∧ PostS g W pins σ F As H (k a e1) D := by
  unfold ofX at h
  cases q : m e with
  | ok a e1 => rw [q] at h; exact ⟨a, e1, rfl, h⟩
  | exc x e1 => exact absurd q (good x e1)
  | bad => rw [q] at h; exact h.elim
/-- from statements' wishes to expressions' ones: what is left as a continuation -/
theorem PostS.esc {r : RV} {v : V} {k : PV → SS} (h : PostS g W pins σ F As H (ofX (Mv.esc r) k e2) D) (s2 : Sim g F2 H2 σ e2 As2) (rr : RepR g σ F2 H2 v r B) (n : ∀ b, B b → ¬Ow As2 b) (m : ∀ b, B b → ¬F2 b) :
    ∃ p e3 F3 As3, PostS g W pins σ F As H (k p e3) D ∧ Sim g F3 H2 σ e3 As3 ∧ RepP g F3 H2 v p ∧ Dl F2 (fun b => Ow As2 b ∨ B b) H2 F3 (Ow As3) H2 := by
  obtain ⟨p, e3, hm, h3⟩ := h.x fun x e' q => by
    unfold Mv.esc at q
    split at q
    · cases q
    · split at q <;> cases q
  have hP : Post g W σ (fun (_ : Addr → Prop) (_ : Hp) (y : Unit) (a : PV × Env) (_ : Addr → Prop) => a = (p, e3)) F As H (bnd (Mv.esc r) (fun p e => .ok (p, e) e) e2) (fun _ _ => True) := by
    unfold bnd
    rw [hm]
    exact fun _ _ _ _ _ _ _ _ _ _ => True.intro
  cases r with
  | v o =>
    cases hm
    have hx : Post g W σ (fun (_ : Addr → Prop) (_ : Hp) (y : Unit) (a : PV × Env) (_ : Addr → Prop) => True) F As H (bnd (Mv.esc (.v o)) (fun p e => .ok (p, e) e) e2) (fun _ _ => True) := fun _ _ _ _ _ _ _ _ _ _ => True.intro
    have rr : RepO g F2 H2 v o B := rr
    refine ⟨o.frz, e2, fun b => F2 b ∨ B b, As2, h3, s2.more (fun _ => .inl) (fun i b z y => ?_) (fun b y => ?_), rr.frz, ⟨fun _ => .inl, fun _ _ e _ => e, fun _ e => e, fun b z => .inl (.inl z), fun b z => ?_, fun _ _ e => e, fun _ _ _ e => e⟩⟩
    · rcases y with y | y
      · exact s2.nf i b z y
      · exact n b y ⟨i, z⟩
    · rcases y with y | y
      · exact s2.fl b y
      · exact (rr.kind y).live
    · rcases z with z | z
      · exact .inl z
      · exact .inr (.inl (.inr z))
  | b i =>
    obtain ⟨hv, nb⟩ : σ[i]? = some (some v) ∧ ∀ b, ¬B b := rr
    unfold Mv.esc at hm
    dsimp only at hm
    split at hm
    · rename_i o q
      cases hm
      obtain ⟨s3, r3⟩ := s2.give q hv
      refine ⟨o.frz, _, _, _, h3, s3, r3, ⟨fun _ => .inl, fun _ _ e _ => e, fun _ e => e, fun b z => ?_, fun b z => ?_, fun _ _ e => e, fun _ _ _ e => e⟩⟩
      · obtain ⟨j, z⟩ := z
        exact .inl (.inl ⟨j, z.2⟩)
      · rcases z with z | z
        · exact .inl z
        · exact .inr (.inl (.inl ⟨i, z⟩))
    · cases hm
theorem PostS.hold {r : RV} {v : V} {k : OV → SS} (h : PostS g W pins σ F As H (ofX (Mv.hold r) k e2) D) (s2 : Sim g F2 H2 σ e2 As2) (rr : RepR g σ F2 H2 v r B) (n : ∀ b, B b → ¬Ow As2 b) (m : ∀ b, B b → ¬F2 b) :
    ∃ o e3 F3 As3 B3, PostS g W pins σ F As H (k o e3) D ∧ Sim g F3 H2 σ e3 As3 ∧ RepO g F3 H2 v o B3 ∧ (∀ b, B3 b → B b) ∧ (∀ b, B3 b → ¬Ow As3 b) ∧ (∀ b, B3 b → ¬F3 b) ∧ Dl F2 (fun b => Ow As2 b ∨ B b) H2 F3 (fun b => Ow As3 b ∨ B3 b) H2 := by
  obtain ⟨o, e3, hm, h3⟩ := h.x fun x e' q => by
    unfold Mv.hold at q
    split at q
    · cases q
    · split at q <;> cases q
  cases r with
  | v o => cases hm; exact ⟨o, e2, F2, As2, B, h3, s2, rr, fun _ z => z, n, m, .refl fun _ z => z⟩
  | b i =>
    obtain ⟨hv, nb⟩ : σ[i]? = some (some v) ∧ ∀ b, ¬B b := rr
    unfold Mv.hold at hm
    dsimp only at hm
    split at hm
    · rename_i o q
      cases hm
      obtain ⟨s3, r3⟩ := s2.give q hv
      refine ⟨.val o.frz, _, _, _, fun _ => False, h3, s3, ⟨r3, fun _ z => z⟩, fun _ z => z.elim, fun _ z => z.elim, fun _ z => z.elim, ⟨fun _ => .inl, fun _ _ e _ => e, fun _ e => e, fun b z => ?_, fun b z => ?_, fun _ _ e => e, fun _ _ _ e => e⟩⟩
      · rcases z with ⟨j, z⟩ | z
        · exact .inl (.inl ⟨j, z.2⟩)
        · exact z.elim
      · rcases z with z | z
        · exact .inl z
        · exact .inr (.inl (.inl ⟨i, z⟩))
    · cases hm
theorem PostS.vw {r : RV} {k : PV → SS} (h : PostS g W pins σ F As H (ofX (Mv.vw r) k e) D) : ∃ p, view r e = some p ∧ PostS g W pins σ F As H (k p e) D := by
  unfold ofX Mv.vw at h
  cases q : view r e with
  | none => rw [q] at h; exact h.elim
  | some p => rw [q] at h; exact ⟨p, rfl, h⟩

/-- a name is bound -/
theorem Sim.put {o : OV} {v : V} (s : Sim g F H σ e As) (r : RepO g F H v o B) (n : ∀ b, B b → ¬Ow As b) (m : ∀ b, B b → ¬F b) (i : Nat) :
    ∃ As', Sim g F H (σ.set i (some v)) (e.set i (some o)) As' ∧ ∀ b, Ow As' b → Ow As b ∨ B b := by
  refine ⟨fun j b => (j = i ∧ i < e.length ∧ B b) ∨ (j ≠ i ∧ As j b), ⟨by rw [List.length_set, List.length_set]; exact s.len, fun j o' q => ?_, fun j q b z => ?_, fun j k b z y => ?_, fun j b z f => ?_, s.fl⟩, fun b z => ?_⟩
  · by_cases hj : j = i
    · subst hj
      have hl : j < e.length := by
        have := (List.getElem?_eq_some_iff.mp q).1
        rwa [List.length_set] at this
      rw [List.getElem?_set_self hl] at q
      cases q
      refine ⟨v, List.getElem?_set_self (by rw [s.len]; exact hl), ?_⟩
      have e3 : (fun b => (j = j ∧ j < e.length ∧ B b) ∨ (j ≠ j ∧ As j b)) = B := by
        funext b
        simp [hl]
      rw [e3]
      exact r
    · rw [List.getElem?_set_ne (Ne.symm hj)] at q ⊢
      obtain ⟨u, h1, h2⟩ := s.slot j o' q
      refine ⟨u, h1, ?_⟩
      have e3 : (fun b => (j = i ∧ i < e.length ∧ B b) ∨ (j ≠ i ∧ As j b)) = As j := by
        funext b
        simp [hj]
      rw [e3]
      exact h2
  · by_cases hj : j = i
    · subst hj
      rcases z with ⟨_, hl, z⟩ | ⟨z, _⟩
      · exact q o (List.getElem?_set_self hl)
      · exact z rfl
    · rcases z with ⟨z, _⟩ | ⟨_, z⟩
      · exact hj z
      · exact s.off j (fun o' q' => q o' (by rw [List.getElem?_set_ne (Ne.symm hj)]; exact q')) b z
  · rcases z with ⟨z1, _, z⟩ | ⟨z1, z⟩
    · rcases y with ⟨y1, _, y⟩ | ⟨y1, y⟩
      · rw [z1, y1]
      · exact absurd ⟨k, y⟩ (n b z)
    · rcases y with ⟨y1, _, y⟩ | ⟨y1, y⟩
      · exact absurd ⟨j, z⟩ (n b y)
      · exact s.dis j k b z y
  · rcases z with ⟨_, _, z⟩ | ⟨_, z⟩
    · exact m b z f
    · exact s.nf j b z f
  · obtain ⟨j, z⟩ := z
    rcases z with ⟨_, _, z⟩ | ⟨_, z⟩
    · exact .inr z
    · exact .inl ⟨j, z⟩

variable {a b c : Expr} {pos : Pos} {fa fb fc : SE RV} {ga : SE Bool} {f1 f2 : SS} {st : Stmt} {rest s1 s2 : List Stmt}
theorem js_pass : PS X (.Pass pos) (tS g W pins skipS) := ps_imp ps_pass fun D σ H ⟨F, e, As, s, h⟩ => h F H σ As s PinsEq.refl (.refl fun _ z => z)
theorem jss_nil : PSs X [] (tS g W pins skipS) := pss_imp pss_nil fun D σ H ⟨F, e, As, s, h⟩ => h F H σ As s PinsEq.refl (.refl fun _ z => z)
theorem js_break : PS X (.Break pos) (tS g W pins brkS) := ps_imp ps_break fun D σ H ⟨F, e, As, s, h⟩ => h F H σ As s PinsEq.refl (.refl fun _ z => z)
theorem js_continue : PS X (.Continue pos) (tS g W pins cntS) := ps_imp ps_continue fun D σ H ⟨F, e, As, s, h⟩ => h F H σ As s PinsEq.refl (.refl fun _ z => z)
theorem js_doc {x j pos pos'} : PS X (.Expr (.Constant (.str x) j pos) pos') (tS g W pins skipS) := ps_imp ps_doc fun D σ H ⟨F, e, As, s, h⟩ => h F H σ As s PinsEq.refl (.refl fun _ z => z)
theorem jss_one (h : PS X st (tS g W pins f1)) : PSs X [st] (tS g W pins f1) := pss_one h
theorem jss_cons (h1 : PS X st (tS g W pins f1)) (h2 : PSs X rest (tS g W pins f2)) : PSs X (st :: rest) (tS g W pins (seqS f1 f2)) := by
  refine pss_imp (pss_cons h1 h2) fun D σ H h => ?_
  obtain ⟨F, e, As, s, h⟩ := h
  refine ⟨F, e, As, s, ?_⟩
  unfold seqS at h
  cases q : f1 e with
  | nx e1 =>
    rw [q] at h
    exact fun F' H' σ' As' s' p d => ⟨F', e1, As', s', h.from p d⟩
  | bk e1 => rw [q] at h; exact h
  | ct e1 => rw [q] at h; exact h
  | rt r e1 => rw [q] at h; exact h
  | exc x e1 => rw [q] at h; exact h
  | bad => rw [q] at h; exact h
theorem js_expr (ha : PE X a (tE g W fa)) (hs : swapsWith a none pos.line X.env = pure false := by rfl) : PS X (.Expr a pos) (tS g W pins (exprS fa)) :=
  ps_imp (ps_expr ha hs) fun D σ H h => sE_later h fun F As r e1 F1 H1 As1 B1 x s1 r1 n1 m1 d1 h1 => h1 F1 H1 σ As1 s1 PinsEq.refl (d1.less fun b z => .inl z)
theorem js_ret (ha : PE X a (tE g W fa)) : PS X (.Return (some a) pos) (tS g W pins (retS fa)) :=
  ps_imp (ps_ret ha) fun D σ H h => sE_later h fun F As r e1 F1 H1 As1 B1 x s1 r1 n1 m1 d1 h1 => h1 F1 H1 σ As1 B1 x s1 PinsEq.refl r1 n1 m1 d1
theorem js_retN : PS X (.Return none pos) (tS g W pins retN) :=
  ps_imp ps_retN fun D σ H ⟨F, e, As, s, h⟩ => h F H σ As (fun _ => False) .non s PinsEq.refl ⟨.non, fun _ z => z⟩ (fun _ z => z.elim) (fun _ z => z.elim) (.refl fun _ z => z.elim id False.elim)
theorem js_if (hc : PT X c (tT g W ga)) (ha : PSs X s1 (tS g W pins f1)) (hb : PSs X s2 (tS g W pins f2)) : PS X (.If c s1 s2 pos) (tS g W pins (ifS ga f1 f2)) := by
  refine ps_imp (ps_if hc ha hb) fun D σ H h => sT_later h fun F As r e1 F1 H1 As1 s1 d1 h1 => ?_
  cases r with
  | true => exact ⟨F1, e1, As1, s1, h1.from PinsEq.refl d1⟩
  | false => exact ⟨F1, e1, As1, s1, h1.from PinsEq.refl d1⟩
theorem js_set {i : Nat} {x : Str} {pos' : Pos} (hN : X.N.Nodup) (hi : X.N[i]? = some x) (hx : Loc X.env.scope x) (ha : PE X a (tE g W fa)) (hp : pins i = false := by rfl) (hs : swapsWith a (some (.Name x pos')) pos.line X.env = pure false := by rfl)
    (hf : X.fn x = true ∨ X.env.scope.names.lookup x = some .local := by first | exact .inl rfl | exact .inr rfl | assumption) : PS X (.Assign [.Name x pos'] a pos) (tS g W pins (asgS i fa)) := by
  refine ps_imp (ps_set hN hi hx ha hs hf) fun D σ H h => sE_later h fun F As r e1 F1 H1 As1 B1 x s1 r1 n1 m1 d1 h1 => ?_
  obtain ⟨o, e3, F3, As3, B3, h3, s3, r3, _, n3, m3, d3⟩ := h1.hold s1 r1 n1 m1
  obtain ⟨As4, s4, a4⟩ := s3.put r3 n3 m3 i
  exact h3 F3 H1 _ As4 s4 (PinsEq.set hp) ((d1.trans d3).less fun b z => a4 b z)

/-! ### targets -/
def tG (g : Gi) (pins : Nat → Bool) (t : TGt) : TG := fun v σ H Q => ∃ F e As p, Sim g F H σ e As ∧ RepP g F H v p ∧
  match t p e with
  | .nx e' => ∀ F' H' σ' As', Sim g F' H' σ' e' As' → PinsEq pins σ σ' → Dl F (Ow As) H F' (Ow As') H' → Q σ' H'
  | _ => False
def tGs (g : Gi) (pins : Nat → Bool) (ts : List TGt) : TGs := fun vs σ H Q => ∃ F e As ps, Sim g F H σ e As ∧ RepPs g F H vs ps ∧
  match gTs ts ps e with
  | .nx e' => ∀ F' H' σ' As', Sim g F' H' σ' e' As' → PinsEq pins σ σ' → Dl F (Ow As) H F' (Ow As') H' → Q σ' H'
  | _ => False
theorem jg_name {i : Nat} {x : Str} (hN : X.N.Nodup) (hi : X.N[i]? = some x) (hx : Loc X.env.scope x) (hp : pins i = false := by rfl) (hf : X.fn x = true ∨ X.env.scope.names.lookup x = some .local := by first | exact .inl rfl | exact .inr rfl | assumption) : PG X (.Name x pos) (tG g pins (gN i)) := by
  refine pg_imp (pg_name hN hi hx hf) fun v σ H Q ⟨F, e, As, p, s, r, h⟩ => ?_
  obtain ⟨As4, s4, a4⟩ := s.put (B := fun _ => False) (o := .val p) ⟨r, fun _ z => z⟩ (fun _ z => z.elim) (fun _ z => z.elim) i
  exact h F H _ As4 s4 (PinsEq.set hp) (.refl fun b z => (a4 b z).elim id False.elim)
theorem jgs_nil : PGs X [] (tGs g pins []) := by
  refine ⟨fun pn s σ H vs us Q I r h => pgs_nil.run pn s σ H vs us Q I r ?_⟩
  obtain ⟨F, e, As, ps, s, r, h⟩ := h
  cases ps with
  | nil => cases r; exact ⟨rfl, h F H σ As s PinsEq.refl (.refl fun _ z => z)⟩
  | cons p ps => exact h.elim
theorem jgs_cons {es : List Expr} {t : TGt} {ts : List TGt} (h1 : PG X a (tG g pins t)) (h2 : PGs X es (tGs g pins ts)) (hs : (assignEach (a :: es) X.env).map (·.2) = assign a X.env :: (assignEach es X.env).map (·.2) := by rfl) : PGs X (a :: es) (tGs g pins (t :: ts)) := by
  refine ⟨fun pn s σ H vs us Q I r h => (pgs_cons h1 h2 hs).run pn s σ H vs us Q I r ?_⟩
  obtain ⟨F, e, As, ps, s, r, h⟩ := h
  cases ps with
  | nil => exact h.elim
  | cons p ps =>
    cases r with
    | cons rv rs =>
      refine ⟨_, _, rfl, F, e, As, p, s, rv, ?_⟩
      change (match seqS (t p) (gTs ts ps) e with | .nx e' => ∀ F' H' σ' As', Sim g F' H' σ' e' As' → PinsEq pins σ σ' → Dl F (Ow As) H F' (Ow As') H' → Q σ' H' | _ => False) at h
      unfold seqS at h
      cases q : t p e with
      | nx e1 =>
        rw [q] at h
        intro F' H' σ' As' s' p' d'
        refine ⟨F', e1, As', ps, s', rs.keep (d'.toKeep s.nfA), ?_⟩
        dsimp only at h
        cases q2 : gTs ts ps e1 with
        | nx e2 =>
          rw [q2] at h
          exact fun F2 H2 σ2 As2 s2 p2 d2 => h F2 H2 σ2 As2 s2 (p'.trans p2) (d'.trans d2)
        | _ => rw [q2] at h; exact h.elim
      | bk e1 => rw [q] at h; exact h
      | ct e1 => rw [q] at h; exact h
      | rt r e1 => rw [q] at h; exact h
      | exc x e1 => rw [q] at h; exact h
      | bad => rw [q] at h; exact h
theorem jg_tup {es : List Expr} {k : Nat} {ts : List TGt} (hK : X.K = g.K := by rfl) (hc : X.calm = true) (h : PGs X es (tGs g pins ts)) (hn : (assignEach es X.env).length = ts.length := by rfl) (hst : (assignEach es X.env).findIdx? (·.1) = none := by rfl) : PG X (.Tuple es k pos) (tG g pins (gT ts)) := by
  refine pg_imp (pg_tup hc h hn hst) fun v σ H Q ⟨F, e, As, p, s, r, h⟩ => ?_
  cases r with
  | @tup a vs xs h1 h2 =>
    unfold gT at h
    dsimp only at h
    split at h
    · rename_i hh
      split at hh
      · rename_i hl
        refine ⟨a, vs, rfl, by rw [hK]; exact h1, by rw [h2.length]; exact hl, F, e, As, xs, s, h2, ?_⟩
        rw [hh]
        exact h
      · cases hh
    · exact h.elim
  | _ => exact h.elim
/-- target = e -/
theorem js_asg {tg : Expr} {t : TGt} (ha : PE X a (tE g W fa)) (hg : PG X tg (tG g pins t)) (ht : ∀ p e, (∃ e', t p e = .nx e') ∨ t p e = .bad) (hs : swapsWithSole [tg] a pos.line X.env = pure false := by rfl) (hw : swappedStores [tg] a X.env = pure none := by rfl)
    (h1 : (assignEach [tg] X.env).map (·.2) = [assign tg X.env] := by rfl) : PS X (.Assign [tg] a pos) (tS g W pins (asgG t fa)) := by
  refine ps_imp (ps_asg ha hg hs hw h1) fun D σ H h => sE_later h fun F As r e1 F1 H1 As1 B1 x s1 r1 n1 m1 d1 h1 => ?_
  obtain ⟨p, e3, F3, As3, h3, s3, r3, d3⟩ := h1.esc s1 r1 n1 m1
  refine ⟨F3, e3, As3, p, s3, r3, ?_⟩
  rcases ht p e3 with ⟨e', q⟩ | q
  · rw [q] at h3
    rw [q]
    exact fun F' H' σ' As' s' p' d' => h3 F' H' σ' As' s' p' ((d1.trans d3).trans d')
  · rw [q] at h3
    exact h3.elim
end
end Mv
end
/-! file MvL -/
section
set_option linter.all false
set_option autoImplicit false
set_option maxRecDepth 100000
/-! Mv, part L: loops, what is walked, comprehensions. -/
namespace Mv
open PySem PySem.Spec PyProof.Rows L2

theorem pi_imp {X : Cx} {tg e : Expr} {t t' : TI} (h : PI X tg e t) (i : ∀ σ H R, t' σ H R → t σ H R) : PI X tg e t' := ⟨fun pins s σ H R I q => h.run pins s σ H R I (i σ H R q)⟩

section
variable {g : Gi} {W : WX} {pins : Nat → Bool} {F F1 F2 : Addr → Prop} {H H1 H2 : Hp} {σ σ1 : L2.St} {e e1 e2 : Env} {As As1 As2 : Nat → Addr → Prop} {B B1 B2 C : Addr → Prop} {X : Cx} {D : Ends}
theorem Keep.refl : Keep F H F H := ⟨fun _ x => x, fun _ _ e => e, fun _ _ _ e => e, fun _ _ _ e => e⟩
theorem Keep.trans (a : Keep F H F1 H1) (b : Keep F1 H1 F2 H2) : Keep F H F2 H2 :=
  ⟨fun x h => b.mono x (a.mono x h), fun x xs e => b.tup x xs (a.tup x xs e), fun x o u e => b.frz x o u (a.frz x o u e), fun x o f e => b.fix x o (a.mono x f) (a.fix x o f e)⟩

/-! ### what is walked gives these values -/
def JOk (g : Gi) (J : It) (xs : List PV) (F : Addr → Prop) (H : Hp) : Prop := ∀ F2 H2, Keep F H F2 H2 → ∀ i, (xs.length ≤ i → J.stop i H2) ∧
  ∀ p, xs[i]? = some p → J.go i H2 ∧ ∀ x H3, J.yld i H2 x H3 → ExtH H2 H3 ∧ RepP g F2 H3 x p
theorem JOk.keep {J : It} {xs : List PV} (j : JOk g J xs F H) (k : Keep F H F1 H1) : JOk g J xs F1 H1 := fun F2 H2 k2 i => j F2 H2 (k.trans k2) i
def RJ (g : Gi) : L2.St → (Addr → Prop) → Hp → It → List PV → (Addr → Prop) → Prop := fun _ F H J xs B => JOk g J xs F H ∧ ∀ b, ¬B b
def tI (g : Gi) (W : WX) (src : Src) : TI := tX g W (RJ g) src

/-! a list or a tuple -/
def iSeq (K : PySem.W.Frag) (tl : TE) : TI := fun σ H R => tl σ H fun x H1 => ∃ a, x = .ref a ∧ (((∃ xs, SqL K H1 a xs) ∧ R (Itl K a) H1) ∨ ((∃ xs, SqT K H1 a xs) ∧ R (Itt K a) H1))
theorem pi_seq {tg l : Expr} {tl : TE} (hl : PE X l tl) : PI X tg l (iSeq X.K tl) := by
  refine ⟨fun pins s σ H R I h => ?_⟩
  refine thn (hl.run pins s σ H _ I h) fun v s1 ⟨x, H1, I1, r1, q1⟩ => ?_
  obtain ⟨a, e, q⟩ := q1
  subst e
  cases r1
  rcases q with ⟨⟨xs, hq⟩, q⟩ | ⟨⟨xs, hq⟩, q⟩
  · obtain ⟨its, rv, p, hz⟩ := I1.list hq
    refine wpAny_pyIter_list p.isList ?_
    refine ⟨s1.heap.objs.size, [s1.heap.objs.size], _, _, H1, rfl, I1.kept (t' := s1.toks) fun b o e => Heap.get?_push_of_some _ e, turn_list a _, ⟨_, Heap.get?_push_size _ rfl, rfl, rfl⟩, fun b hb => ?_, q⟩
    have e : b = s1.heap.objs.size := by simpa using hb
    subst e
    exact I1.fpOk (Nat.le_refl _) (I1.hok.fresh (Nat.le_refl _))
  · obtain ⟨its, rv, p, hz⟩ := I1.tuple hq
    refine wpAny_pyIter_tuple (show s1.heap.IsTuple a its.toArray from p) ?_
    refine ⟨s1.heap.objs.size, [s1.heap.objs.size], _, _, H1, rfl, I1.kept (t' := s1.toks) fun b o e => Heap.get?_push_of_some _ e, turn_tuple a _, ⟨_, Heap.get?_push_size _ rfl, rfl, rfl⟩, fun b hb => ?_, q⟩
    have e : b = s1.heap.objs.size := by simpa using hb
    subst e
    exact I1.fpOk (Nat.le_refl _) (I1.hok.fresh (Nat.le_refl _))
theorem jok_list {a : Addr} {vs : List V} {xs : List PV} (f : F a) (h : Rd H a (.lst vs)) (r : RepPs g F H vs xs) : JOk g (Itl g.K a) xs F H := fun F2 H2 k i => by
  have h2 : SqL g.K H2 a vs := .inl (k.rdL f h)
  have r2 := r.keep k
  refine ⟨fun hi => ⟨vs, h2, by rw [r.length]; exact hi⟩, fun p hp => ?_⟩
  obtain ⟨v, hv, rv⟩ := r2.get hp
  refine ⟨⟨vs, v, h2, hv⟩, fun x H3 ⟨e, y⟩ => ?_⟩
  subst e
  have := y vs h2
  rw [hv] at this; cases this
  exact ⟨ExtH.refl, rv⟩
theorem jok_tup {a : Addr} {vs : List V} {xs : List PV} (h : SqT g.K H a vs) (r : RepPs g F H vs xs) : JOk g (Itt g.K a) xs F H := fun F2 H2 k i => by
  have h2 : SqT g.K H2 a vs := k.sqT h
  have r2 := r.keep k
  refine ⟨fun hi => ⟨vs, h2, by rw [r.length]; exact hi⟩, fun p hp => ?_⟩
  obtain ⟨v, hv, rv⟩ := r2.get hp
  refine ⟨⟨vs, v, h2, hv⟩, fun x H3 ⟨e, y⟩ => ?_⟩
  subst e
  have := y vs h2
  rw [hv] at this; cases this
  exact ⟨ExtH.refl, rv⟩
variable {a b c tg iter elt : Expr} {pos : Pos} {fa fb fc : SE RV} {ga : SE Bool} {f1 f2 : SS} {t : TGt} {src : Src}
/-- the end of a source -/
theorem Post.srcE {xs : List PV} {J : It} {R : It → Hp → Prop} (h : Post g W σ (RJ g σ) F As H (.ok xs e2) R) (s2 : Sim g F2 H2 σ e2 As2) (d : Dl F (Ow As) H F2 (fun b => Ow As2 b ∨ C b) H2) (j : JOk g J xs F2 H2) : R J H2 :=
  h F2 H2 As2 (fun _ => False) J s2 ⟨j, fun _ z => z⟩ (fun _ z => z.elim) (fun _ z => z.elim) (d.less fun b z => z.elim .inl False.elim)
theorem ji_seq (hK : X.K = g.K := by rfl) (ha : PE X a (tE g W fa)) : PI X tg a (tI g W (srcE fa)) := by
  refine pi_imp (pi_seq ha) fun σ H R h => tE_later h fun F As r e1 F1 H1 As1 B1 x s1 r1 n1 m1 d1 h1 => ?_
  rw [hK]
  obtain ⟨p, e3, F3, As3, h3, s3, r3, d3⟩ := h1.esc s1 r1 n1 m1
  have dd := (d1.trans d3).less (B := fun b => Ow As3 b ∨ False) fun b z => z.elim id False.elim
  cases r3 with
  | lst f h r => exact ⟨_, rfl, .inl ⟨⟨_, .inl h⟩, h3.srcE (C := fun _ => False) s3 dd (jok_list f h r)⟩⟩
  | tup h r => exact ⟨_, rfl, .inr ⟨⟨_, h⟩, h3.srcE (C := fun _ => False) s3 dd (jok_tup h r)⟩⟩
  | _ => exact h3.elim
theorem rngL_len (lo : Int) (n : Nat) : (rngL lo n).length = n := by unfold rngL; rw [List.length_map, List.length_range]
theorem jok_rng (lo : Int) (n : Nat) : JOk g (Itr lo n) (rngL lo n) F H := fun F2 H2 k i => by
  refine ⟨fun hi => by rw [rngL_len] at hi; exact hi, fun p hp => ?_⟩
  have hi : i < n := by
    have := (List.getElem?_eq_some_iff.mp hp).1
    rwa [rngL_len] at this
  have e : p = .int (lo + i) := by
    unfold rngL at hp
    rw [List.getElem?_map, List.getElem?_range hi] at hp
    exact (Option.some.inj hp).symm
  refine ⟨hi, fun x H3 ⟨e1, e2⟩ => ?_⟩
  subst e1; subst e2; subst e
  exact ⟨ExtH.refl, .int _⟩
theorem ji_rng1 {p : Pos} (hg : Gl X "range" := by rfl) (hm : X.mg "range" = none) (ha : PA X [a] (tA g W (args [fa]))) (hs : starEach [a] X.env = [(false, eval a X.env)] := by rfl) : PI X tg (.Call (.Name "range" p) [a] [] pos) (tI g W (srcR [fa])) := by
  refine pi_imp (pi_range1 hg hm ha hs) fun σ H R h => tA_later h fun F As rs e1 F1 H1 As1 B1 xs hn s1 r1 n1 m1 d1 h1 => ?_
  obtain ⟨ps, rp, h4⟩ := h1.vws s1 r1
  split at h4
  · rename_i j
    cases rp with
    | cons rv rr =>
      cases rr
      split at h4
      · rename_i hj
        refine ⟨j, by rw [rv.int], hj.1, hj.2, h4.srcE s1 d1 (jok_rng 0 _)⟩
      · exact h4.elim
  · rename_i i j
    cases rp with
    | cons rv rr =>
      cases rr with
      | cons rv' rr =>
        have := r1.length
        simp at this hn
        omega
  · exact h4.elim
theorem ji_rng2 {p : Pos} (hg : Gl X "range" := by rfl) (hm : X.mg "range" = none) (ha : PA X [a, b] (tA g W (args [fa, fb]))) (hs : starEach [a, b] X.env = [(false, eval a X.env), (false, eval b X.env)] := by rfl) (hs2 : starEach [b] X.env = [(false, eval b X.env)] := by rfl) : PI X tg (.Call (.Name "range" p) [a, b] [] pos) (tI g W (srcR [fa, fb])) := by
  refine pi_imp (pi_range2 hg hm ha hs hs2) fun σ H R h => tA_later h fun F As rs e1 F1 H1 As1 B1 xs hn s1 r1 n1 m1 d1 h1 => ?_
  obtain ⟨ps, rp, h4⟩ := h1.vws s1 r1
  split at h4
  · rename_i j
    cases rp with
    | cons rv rr =>
      cases rr
      have := r1.length
      simp at this hn
      omega
  · rename_i i j
    cases rp with
    | cons rv rr =>
      cases rr with
      | cons rv' rr =>
        cases rr
        split at h4
        · rename_i hj
          refine ⟨i, j, by rw [rv.int, rv'.int], ⟨hj.1.1, hj.1.2, hj.2.1, hj.2.2⟩, h4.srcE s1 d1 (jok_rng i _)⟩
        · exact h4.elim
  · exact h4.elim

/-! ### while, for -/
theorem js_while {body : List Stmt} (n : Nat) (hp : PassesOwn (model X.prog X.w) X.A X.env X.xe) (hc : PT X c (tT g W ga)) (hb : PSs X body (tS g W pins f1)) : PS X (.While c body [] pos) (tS g W pins (whileL ga f1 n)) := by
  refine ps_imp (ps_while hp hc hb) fun D σ H h => ?_
  refine ⟨fun m σ H => tS g W pins (whileL ga f1 m) D σ H, ⟨n, h⟩, fun m σ H h => ?_⟩
  cases m with
  | zero =>
    obtain ⟨F, e, As, s, h⟩ := h
    exact h.elim
  | succ m =>
    refine sT_later h fun F As r e1 F1 H1 As1 s1 d1 h1 => ?_
    cases r with
    | false => exact h1 F1 H1 σ As1 s1 PinsEq.refl d1
    | true =>
      rw [if_pos rfl]
      refine ⟨fun σ' H' => tS g W pins (whileL ga f1 m) D σ' H', fun σ' H' q => ⟨m, Nat.lt_succ_self m, q⟩, F1, e1, As1, s1, ?_⟩
      have h2 : PostS g W pins σ F As H (match f1 e1 with
        | .nx e2 => whileL ga f1 m e2
        | .ct e2 => whileL ga f1 m e2
        | .bk e2 => .nx e2
        | r => r) D := h1
      cases q : f1 e1 with
      | nx e2 =>
        rw [q] at h2
        exact fun F' H' σ' As' s' p d => ⟨F', e2, As', s', h2.from p (d1.trans d)⟩
      | ct e2 =>
        rw [q] at h2
        exact fun F' H' σ' As' s' p d => ⟨F', e2, As', s', h2.from p (d1.trans d)⟩
      | bk e2 =>
        rw [q] at h2
        exact fun F' H' σ' As' s' p d => h2 F' H' σ' As' s' p (d1.trans d)
      | rt r e2 =>
        rw [q] at h2
        exact fun F' H' σ' As' B v s' p r n m d => h2 F' H' σ' As' B v s' p r n m (d1.trans d)
      | exc x e2 =>
        rw [q] at h2
        exact fun F' H' σ' As' cls dd s' p d r => h2 F' H' σ' As' cls dd s' p (d1.trans d) r
      | bad => rw [q] at h2; exact h2.elim
theorem js_for {body : List Stmt} (hp : PassesOwn (model X.prog X.w) X.A X.env X.xe) (hc : X.calm = true) (hi : PI X tg iter (tI g W src)) (hg : PG X tg (tG g pins t)) (hb : PSs X body (tS g W pins f1))
    (hs : ∀ x, foldedSetIterable iter X.env x = pure x := by intro _; rfl) : PS X (.For tg iter body [] pos) (tS g W pins (forS src t f1)) := by
  refine ps_imp (ps_for hp hc hi hg hb hs) fun D σ H h => ?_
  obtain ⟨F0, e0, As0, s0, h⟩ := h
  refine ⟨F0, e0, As0, s0, PostS.later (C := fun _ => False) s0 (.refl fun b z => z.elim id False.elim) h fun xs e1 _ F1 H1 As1 B1 J s1 r1 n1 m1 d1 h1 => ?_⟩
  obtain ⟨jok, _⟩ := r1
  have d1 := d1.less (B := Ow As1) fun b z => .inl z
  refine ⟨fun i m σ' H' => m = xs.length - i ∧ i ≤ xs.length ∧ ∃ F e As, Sim g F H' σ' e As ∧ Keep F1 H1 F H' ∧ PostS g W pins σ' F As H' (forL t f1 (xs.drop i) e) D, ⟨_, rfl, Nat.zero_le _, F1, e1, As1, s1, Keep.refl, (h1.from PinsEq.refl d1)⟩, ?_⟩
  rintro i m σ2 H2 ⟨rfl, hi, F, e, As, s, k, h2⟩
  by_cases hlt : i < xs.length
  · obtain ⟨p, hp⟩ : ∃ p, xs[i]? = some p := ⟨xs[i], List.getElem?_eq_getElem hlt⟩
    obtain ⟨go, yl⟩ := (jok F H2 k i).2 p hp
    have ed : xs.drop i = p :: xs.drop (i + 1) := by
      rw [List.drop_eq_getElem_cons hlt]
      have : xs[i] = p := Option.some.inj ((List.getElem?_eq_getElem hlt).symm.trans hp)
      rw [this]
    rw [ed] at h2
    refine .inr ⟨go, fun σ' H' => ∃ F e As, Sim g F H' σ' e As ∧ Keep F1 H1 F H' ∧ PostS g W pins σ' F As H' (forL t f1 (xs.drop (i + 1)) e) D, fun σ' H' q => ⟨_, by omega, rfl, by omega, q⟩, fun x H3 y => ?_⟩
    obtain ⟨x3, rx⟩ := yl x H3 y
    have s3 := s.ext x3
    have d3 : Dl F (Ow As) H2 F (Ow As) H3 := x3.dl fun b z => .inl z
    refine ⟨F, e, As, p, s3, rx, ?_⟩
    have h3 : PostS g W pins σ2 F As H2 (match t p e with
      | .nx e1 => match f1 e1 with
        | .nx e2 => forL t f1 (xs.drop (i + 1)) e2
        | .ct e2 => forL t f1 (xs.drop (i + 1)) e2
        | .bk e2 => .nx e2
        | r => r
      | _ => .bad) D := h2
    cases q : t p e with
    | nx e4 =>
      rw [q] at h3
      dsimp only at h3 ⊢
      intro F4 H4 σ4 As4 s4 p4 d4
      refine ⟨F4, e4, As4, s4, ?_⟩
      have d4' := d3.trans d4
      have k4 : Keep F1 H1 F4 H4 := k.trans (d4'.toKeep s.nfA)
      cases q2 : f1 e4 with
      | nx e5 =>
        rw [q2] at h3
        exact fun F' H' σ' As' s' p d => ⟨F', e5, As', s', k4.trans (d.toKeep s4.nfA), h3.from (p4.trans p) (d4'.trans d)⟩
      | ct e5 =>
        rw [q2] at h3
        exact fun F' H' σ' As' s' p d => ⟨F', e5, As', s', k4.trans (d.toKeep s4.nfA), h3.from (p4.trans p) (d4'.trans d)⟩
      | bk e5 =>
        rw [q2] at h3
        exact fun F' H' σ' As' s' p d => h3 F' H' σ' As' s' (p4.trans p) (d4'.trans d)
      | rt r e5 =>
        rw [q2] at h3
        exact fun F' H' σ' As' B v s' p r n m d => h3 F' H' σ' As' B v s' (p4.trans p) r n m (d4'.trans d)
      | exc x e5 =>
        rw [q2] at h3
        exact fun F' H' σ' As' cls dd s' p d r => h3 F' H' σ' As' cls dd s' (p4.trans p) (d4'.trans d) r
      | bad => rw [q2] at h3; exact h3.elim
    | _ => rw [q] at h3; exact h3.elim
  · have e' : i = xs.length := by omega
    subst e'
    rw [List.drop_length] at h2
    exact .inl ⟨(jok F H2 k _).1 (Nat.le_refl _), h2 F H2 σ2 As s PinsEq.refl (.refl fun _ z => z)⟩
end
end Mv
end
/-! file MvK -/
section
set_option linter.all false
set_option autoImplicit false
set_option maxRecDepth 100000
/-! Mv, part K: list comprehensions. -/
namespace Mv
open PySem PySem.Spec PyProof.Rows L2

section
variable {g : Gi} {W : WX} {pins : Nat → Bool} {F F1 F2 : Addr → Prop} {H H1 H2 : Hp} {σ σ1 : L2.St} {e e1 e2 : Env} {As As1 As2 : Nat → Addr → Prop} {B B1 B2 C : Addr → Prop} {X : Cx} {D : Ends}

/-- within a comprehension nothing is let out -/
abbrev W0 : WX := fun _ _ _ _ => False

theorem Sim.drop (s : Sim g F H σ e As) (i : Nat) : Sim g F H (σ.set i none) (e.set i none) (fun j b => j ≠ i ∧ As j b) := by
  refine ⟨by rw [List.length_set, List.length_set]; exact s.len, fun j o q => ?_, fun j q b z => ?_, fun j k b z y => s.dis j k b z.2 y.2, fun j b z => s.nf j b z.2, s.fl⟩
  · by_cases hj : j = i
    · subst hj
      have hl : j < e.length := by
        have := (List.getElem?_eq_some_iff.mp q).1
        rwa [List.length_set] at this
      rw [List.getElem?_set_self hl] at q
      cases q
    · rw [List.getElem?_set_ne (Ne.symm hj)] at q ⊢
      obtain ⟨u, h1, h2⟩ := s.slot j o q
      refine ⟨u, h1, ?_⟩
      have e3 : (fun b => j ≠ i ∧ As j b) = As j := by funext b; simp [hj]
      rw [e3]
      exact h2
  · exact s.off j (fun o' q' => q o' (by rw [List.getElem?_set_ne (Ne.symm z.1)]; exact q')) b z.2
theorem Sim.wipe (s : Sim g F H σ e As) : ∀ vs : List Nat, ∃ As', Sim g F H (L2.wipe σ vs) (wipeE e vs) As' ∧ (∀ b, Ow As' b → Ow As b) ∧ ∀ i, i ∉ vs → ∀ b, As i b → As' i b
  | [] => ⟨As, s, fun _ z => z, fun _ _ _ z => z⟩
  | i :: vs => by
    obtain ⟨As', s', a, k⟩ := Sim.wipe s vs
    refine ⟨_, s'.drop i, fun b z => ?_, fun j hj b z => ⟨fun q => hj (by rw [q]; exact List.mem_cons_self), k j (fun q => hj (List.mem_cons_of_mem _ q)) b z⟩⟩
    obtain ⟨j, z⟩ := z
    exact a b ⟨j, z.2⟩
theorem wipeE_len (e : Env) : ∀ vs : List Nat, (wipeE e vs).length = e.length
  | [] => rfl
  | i :: vs => by unfold wipeE; rw [List.length_set, wipeE_len e vs]
theorem wipeE_out {i : Nat} : ∀ {vs : List Nat}, i ∉ vs → (wipeE e vs)[i]? = e[i]?
  | [], _ => rfl
  | v :: vs, h => by
    have h1 : v ≠ i := fun q => h (by rw [q]; exact List.mem_cons_self)
    unfold wipeE
    rw [List.getElem?_set_ne h1]
    exact wipeE_out fun q => h (List.mem_cons_of_mem _ q)
theorem wipeE_in {i : Nat} {o : OV} : ∀ {vs : List Nat}, i ∈ vs → (wipeE e vs)[i]? ≠ some (some o)
  | v :: vs, h, q => by
    unfold wipeE at q
    by_cases hi : v = i
    · subst hi
      by_cases hl : v < (wipeE e vs).length
      · rw [List.getElem?_set_self hl] at q; cases q
      · rw [List.getElem?_eq_none (by rw [List.length_set]; exact Nat.le_of_not_lt hl)] at q; cases q
    · rw [List.getElem?_set_ne hi] at q
      rcases List.mem_cons.mp h with z | z
      · exact hi z.symm
      · exact wipeE_in z q
theorem wipeE_wipe : ∀ vs : List Nat, wipeE (wipeE e vs) vs = wipeE e vs := fun vs => by
  refine List.ext_getElem? fun i => ?_
  by_cases hi : i ∈ vs
  · have l1 : (wipeE (wipeE e vs) vs).length = e.length := by rw [wipeE_len, wipeE_len]
    have l2 : (wipeE e vs).length = e.length := wipeE_len e vs
    by_cases hl : i < e.length
    · have a1 : (wipeE (wipeE e vs) vs)[i]? = some none := by
        rw [List.getElem?_eq_getElem (by omega)]
        cases q : (wipeE (wipeE e vs) vs)[i] with
        | none => rfl
        | some o => exact absurd (by rw [List.getElem?_eq_getElem (by omega), q]) (wipeE_in (e := wipeE e vs) (o := o) hi)
      have a2 : (wipeE e vs)[i]? = some none := by
        rw [List.getElem?_eq_getElem (by omega)]
        cases q : (wipeE e vs)[i] with
        | none => rfl
        | some o => exact absurd (by rw [List.getElem?_eq_getElem (by omega), q]) (wipeE_in (e := e) (o := o) hi)
      rw [a1, a2]
    · rw [List.getElem?_eq_none (by omega), List.getElem?_eq_none (by omega)]
  · exact wipeE_out hi
theorem backE_len (e0 e : Env) : ∀ vs : List Nat, (backE e0 e vs).length = e.length
  | [] => rfl
  | i :: vs => by unfold backE; rw [List.length_set, backE_len e0 e vs]
theorem backE_out {e0 : Env} {i : Nat} : ∀ {vs : List Nat}, i ∉ vs → (backE e0 e vs)[i]? = e[i]?
  | [], _ => rfl
  | v :: vs, h => by
    have h1 : v ≠ i := fun q => h (by rw [q]; exact List.mem_cons_self)
    unfold backE
    rw [List.getElem?_set_ne h1]
    exact backE_out fun q => h (List.mem_cons_of_mem _ q)
theorem backE_in {e0 : Env} {i : Nat} (hl : i < e.length) : ∀ {vs : List Nat}, i ∈ vs → (backE e0 e vs)[i]? = some (e0[i]?.getD none)
  | v :: vs, h => by
    unfold backE
    by_cases hi : v = i
    · subst hi
      rw [List.getElem?_set_self (by rw [backE_len]; exact hl)]
    · rw [List.getElem?_set_ne hi]
      rcases List.mem_cons.mp h with z | z
      · exact absurd z.symm hi
      · exact backE_in hl z
theorem noOwn_at : ∀ {vs : List Nat} {i : Nat} {o : OV}, noOwn e vs = true → i ∈ vs → e[i]? = some (some o) → o.own = false
  | v :: vs, i, o, h, hi, q => by
    unfold noOwn at h
    rw [Bool.and_eq_true] at h
    rcases List.mem_cons.mp hi with z | z
    · subst z
      rw [q] at h
      simpa using h.1
    · exact noOwn_at h.2 z q
/-- the block's names are as they were -/
theorem Sim.back {e0 : Env} {F0 : Addr → Prop} {H0 : Hp} {As0 : Nat → Addr → Prop} {vs : List Nat} (s0 : Sim g F0 H0 σ e0 As0) (n : noOwn e0 vs = true) (k : Keep F0 H0 F H) (s : Sim g F H (L2.wipe σ vs) (wipeE e vs) As) (hl : e.length = e0.length) : Sim g F H σ (backE e0 (wipeE e vs) vs) As := by
  have le : (wipeE e vs).length = e0.length := by rw [wipeE_len, hl]
  refine ⟨by rw [backE_len, le]; exact s0.len, fun i o q => ?_, fun i q b z => ?_, s.dis, s.nf, s.fl⟩
  · by_cases hi : i ∈ vs
    · have hlt : i < (wipeE e vs).length := by
        have := (List.getElem?_eq_some_iff.mp q).1
        rwa [backE_len] at this
      rw [backE_in hlt hi] at q
      have q0 : e0[i]? = some (some o) := by
        cases z : e0[i]? with
        | none => rw [z] at q; cases q
        | some x => rw [z] at q; cases q; rfl
      obtain ⟨v, hv, r⟩ := s0.slot i o q0
      have ow := noOwn_at n hi q0
      refine ⟨v, hv, ?_⟩
      cases o with
      | val p => exact ⟨r.1.keep k, s.off i fun o' => wipeE_in hi⟩
      | ls xs => cases ow
      | dc kvs => cases ow
      | ll xss => cases ow
    · rw [backE_out hi] at q
      obtain ⟨v, hv, r⟩ := s.slot i o q
      exact ⟨v, (wipe_some hv).1, r⟩
  · by_cases hi : i ∈ vs
    · exact s.off i (fun o' => wipeE_in hi) b z
    · exact s.off i (fun o' q' => q o' (by rw [backE_out hi]; exact q')) b z

theorem wipe_eq_of {σ σ2 : L2.St} {vs : List Nat} (p : PinsEq (fun i => !vs.contains i) (L2.wipe σ vs) σ2) : L2.wipe σ2 vs = L2.wipe σ vs := by
  refine List.ext_getElem? fun i => ?_
  have l : σ2.length = σ.length := by rw [p.len, wipe_length]
  by_cases hi : i ∈ vs
  · by_cases hlt : i < σ.length
    · have a1 : ∀ τ : L2.St, τ.length = σ.length → (L2.wipe τ vs)[i]? = some none := fun τ hτ => by
        have h1 : i < (L2.wipe τ vs).length := by rw [wipe_length, hτ]; exact hlt
        rw [List.getElem?_eq_getElem h1]
        cases q : (L2.wipe τ vs)[i] with
        | none => rfl
        | some o => exact absurd hi (wipe_some (x := o) (by rw [List.getElem?_eq_getElem h1, q])).2
      rw [a1 σ2 l, a1 σ rfl]
    · rw [List.getElem?_eq_none (by rw [wipe_length]; omega), List.getElem?_eq_none (by rw [wipe_length]; omega)]
  · rw [wipe_out hi, p.eq i (by simp [hi])]

theorem esc_ok {r : RV} {v : V} {p : PV} {e3 : Env} (hm : Mv.esc r e2 = .ok p e3) (s2 : Sim g F2 H2 σ e2 As2) (rr : RepR g σ F2 H2 v r B) (n : ∀ b, B b → ¬Ow As2 b) (m : ∀ b, B b → ¬F2 b) :
    ∃ F3 As3, Sim g F3 H2 σ e3 As3 ∧ RepP g F3 H2 v p ∧ Dl F2 (fun b => Ow As2 b ∨ B b) H2 F3 (Ow As3) H2 := by
  cases r with
  | v o =>
    cases hm
    have rr : RepO g F2 H2 v o B := rr
    refine ⟨fun b => F2 b ∨ B b, As2, s2.more (fun _ => .inl) (fun i b z y => ?_) (fun b y => ?_), rr.frz, ⟨fun _ => .inl, fun _ _ e _ => e, fun _ e => e, fun b z => .inl (.inl z), fun b z => ?_, fun _ _ e => e, fun _ _ _ e => e⟩⟩
    · rcases y with y | y
      · exact s2.nf i b z y
      · exact n b y ⟨i, z⟩
    · rcases y with y | y
      · exact s2.fl b y
      · exact (rr.kind y).live
    · rcases z with z | z
      · exact .inl z
      · exact .inr (.inl (.inr z))
  | b i =>
    obtain ⟨hv, nb⟩ : σ[i]? = some (some v) ∧ ∀ b, ¬B b := rr
    unfold Mv.esc at hm
    dsimp only at hm
    split at hm
    · rename_i o q
      cases hm
      obtain ⟨s3, r3⟩ := s2.give q hv
      refine ⟨_, _, s3, r3, ⟨fun _ => .inl, fun _ _ e _ => e, fun _ e => e, fun b z => ?_, fun b z => ?_, fun _ _ e => e, fun _ _ _ e => e⟩⟩
      · obtain ⟨j, z⟩ := z
        exact .inl (.inl ⟨j, z.2⟩)
      · rcases z with z | z
        · exact .inl z
        · exact .inr (.inl (.inl ⟨i, z⟩))
    · cases hm
theorem Keep.updL {d : Addr} {xs ys : List V} (hd : H d = some (.lst xs)) (f : ¬F d) : Keep F H F (upd H d (.lst ys)) where
  mono := fun _ z => z
  tup := fun b zs e => by
    have : b ≠ d := fun q => by rw [q, hd] at e; cases e
    rw [upd_ne this]; exact e
  frz := fun b o u e => by
    have : b ≠ d := fun q => by rw [q, hd] at e; cases e
    rw [upd_ne this]; exact e
  fix := fun b o z e => by
    have : b ≠ d := fun q => f (q ▸ z)
    rw [upd_ne this]; exact e
theorem Sim.updL {d : Addr} {xs ys : List V} (s : Sim g F H σ e As) (hd : H d = some (.lst xs)) (f : ¬F d) (n : ¬Ow As d) : Sim g F (upd H d (.lst ys)) σ e As :=
  ⟨s.len, fun i o q => let ⟨v, h1, h2⟩ := s.slot i o q; ⟨v, h1, h2.stay (Keep.updL hd f) fun b o z e => by
    have : b ≠ d := fun q => n ⟨i, q ▸ z⟩
    rw [upd_ne this]; exact e⟩, s.off, s.dis, s.nf, fun b z => by
      have : b ≠ d := fun q => f (q ▸ z)
      rw [upd_ne this]; exact s.fl b z⟩

/-- what a turn finds -/
structure LcAt (g : Gi) (σ : L2.St) (F1 : Addr → Prop) (As1 : Nat → Addr → Prop) (H1 : Hp) (e1 : Env) (vs : List Nat) (d : Addr) (F : Addr → Prop) (As : Nat → Addr → Prop) (H : Hp) (e : Env) (acc : List V) (ys : List PV) : Prop where
  sim : Sim g F H (L2.wipe σ vs) (wipeE e vs) As
  len : e.length = e1.length
  keep : Keep F1 H1 F H
  dl : Dl F1 (Ow As1) H1 F (Ow As) H
  hd : H d = some (.lst acc)
  rep : RepPs g F H acc ys
  na : ¬Ow As d
  nf : ¬F d
theorem sim_env_len {σ : L2.St} (s : Sim g F H σ e As) (s' : Sim g F1 H1 σ e1 As1) : e.length = e1.length := s.len.symm.trans s'.len

variable {a b c tg iter elt : Expr} {ifs : List Expr} {pos : Pos} {fe : SE RV} {cnd : SE Bool} {t : TGt} {src : Src} {scope : Scope} {own : List (Str × Nat)}
theorem jts_nil {X : Cx} : PTs X [] (tT g W (ret true)) := ⟨fun pins s σ H Q I h => pts_nil.run pins s σ H Q I (by
  obtain ⟨F, e, As, s, h⟩ := h
  exact h F H As (fun _ => False) true s ⟨rfl, fun _ z => z⟩ (fun _ z => z.elim) (fun _ z => z.elim) (.refl fun b z => z.elim id False.elim))⟩
theorem jts_one {X : Cx} {c : Expr} (h : PT X c (tT g W cnd)) : PTs X [c] (tT g W cnd) := pts_one h
/-- what a turn finds, where the items are lists of their own -/
structure LcAtL (g : Gi) (σ : L2.St) (F1 : Addr → Prop) (As1 : Nat → Addr → Prop) (H1 : Hp) (e1 : Env) (vs : List Nat) (d : Addr) (F : Addr → Prop) (As : Nat → Addr → Prop) (H : Hp) (e : Env) (acc : List Addr) (ys : List (List PV)) : Prop where
  sim : Sim g F H (L2.wipe σ vs) (wipeE e vs) As
  len : e.length = e1.length
  keep : Keep F1 H1 F H
  dl : Dl F1 (Ow As1) H1 F (Ow As) H
  hd : H d = some (.lst (acc.map V.ref))
  rep : RepLL g F H acc ys
  na : ∀ b, b = d ∨ b ∈ acc → ¬Ow As b
  nf : ∀ b, b = d ∨ b ∈ acc → ¬F b
  nod : (d :: acc).Nodup
  old : ∀ b ∈ acc, Ow As1 b ∨ H1 b = none
theorem RepLL.app : ∀ {as bs : List Addr} {xss yss : List (List PV)}, RepLL g F H as xss → RepLL g F H bs yss → RepLL g F H (as ++ bs) (xss ++ yss)
  | _, _, _, _, .nil, s => s
  | _, _, _, _, .cons h r t, s => .cons h r (RepLL.app t s)
theorem RepLL.length : ∀ {as : List Addr} {xss : List (List PV)}, RepLL g F H as xss → as.length = xss.length
  | _, _, .nil => rfl
  | _, _, .cons _ _ t => by rw [List.length_cons, List.length_cons, RepLL.length t]
theorem tE_lcL {vs : List Nat} {Q : VK} {σ : L2.St} {H : Hp} (h : tE g W (compSL src t cnd fe vs) σ H Q) : tLc (tI g W src) (tG g (fun i => !vs.contains i) t) (tT g W0 cnd) (tE g W0 fe) vs σ H Q := by
  obtain ⟨F0, e0, As0, s0, h⟩ := h
  refine ⟨F0, e0, As0, s0, Post.later (C := fun _ => False) s0 (.refl fun b z => z.elim id False.elim) h fun xs e1 _ F1 H1 As1 B1 J s1 r1 n1 m1 d1 h1 => ?_⟩
  obtain ⟨jok, _⟩ := r1
  have d1 := d1.less (B := Ow As1) fun b z => .inl z
  have h1 : Post g W σ (RepR g σ) F0 As0 H (if noOwn e1 vs then
    match compLL t cnd fe vs xs [] e1 with
    | .ok ys e2 => .ok (.v (.ll ys)) (backE e1 (wipeE e2 vs) vs)
    | _ => .bad
    else .bad) Q := h1
  split at h1
  case isFalse => exact h1.elim
  rename_i now
  intro d hd
  obtain ⟨Aw, sw, aw, _⟩ := (s1.ext (ExtH.upd (o := .lst []) hd)).wipe vs
  have nd : ¬Ow As1 d := fun z => by obtain ⟨o, q⟩ := (s1.kind z).live; rw [hd] at q; cases q
  have fd : ¬F1 d := fun z => by obtain ⟨o, q⟩ := s1.fl d z; rw [hd] at q; cases q
  have start : LcAtL g σ F1 As1 H1 e1 vs d F1 Aw (upd H1 d (.lst [])) e1 [] [] := ⟨sw, rfl, (ExtH.upd hd).keep, (ExtH.upd hd).dl fun b z => .inl (aw b z), upd_same, .nil, (fun b hb z => by rcases hb with hb | hb; rw [hb] at z; exact nd (aw d z); cases hb), (fun b hb z => by rcases hb with hb | hb; rw [hb] at z; exact fd z; cases hb), by simp, fun b hb => nomatch hb⟩
  refine ⟨fun i m H' => m = xs.length - i ∧ i ≤ xs.length ∧ ∃ F e As acc ys, LcAtL g σ F1 As1 H1 e1 vs d F As H' e acc ys ∧ Post g W σ (RepR g σ) F0 As0 H (match compLL t cnd fe vs (xs.drop i) ys e with
    | .ok ys e2 => .ok (.v (.ll ys)) (backE e1 (wipeE e2 vs) vs)
    | _ => .bad) Q, ⟨_, rfl, Nat.zero_le _, F1, e1, Aw, [], [], start, h1⟩, ?_⟩
  rintro i m H2 ⟨rfl, hi, F, e, As, acc, ys, L, h2⟩
  by_cases hlt : i < xs.length
  · obtain ⟨p, hp⟩ : ∃ p, xs[i]? = some p := ⟨xs[i], List.getElem?_eq_getElem hlt⟩
    obtain ⟨go, yl⟩ := (jok F H2 L.keep i).2 p hp
    have ed : xs.drop i = p :: xs.drop (i + 1) := by
      rw [List.drop_eq_getElem_cons hlt]
      have : xs[i] = p := Option.some.inj ((List.getElem?_eq_getElem hlt).symm.trans hp)
      rw [this]
    rw [ed] at h2
    refine .inr ⟨go, fun H' => ∃ F e As acc ys, LcAtL g σ F1 As1 H1 e1 vs d F As H' e acc ys ∧ Post g W σ (RepR g σ) F0 As0 H (match compLL t cnd fe vs (xs.drop (i + 1)) ys e with
      | .ok ys e2 => .ok (.v (.ll ys)) (backE e1 (wipeE e2 vs) vs)
      | _ => .bad) Q, fun H' q => ⟨_, by omega, rfl, by omega, q⟩, fun x H3 y => ?_⟩
    obtain ⟨x3, rx⟩ := yl x H3 y
    have s3 := L.sim.ext x3
    have d3 : Dl F (Ow As) H2 F (Ow As) H3 := x3.dl fun b z => .inl z
    refine ⟨F, wipeE e vs, As, p, s3, rx, ?_⟩
    have ecl : compLL t cnd fe vs (p :: xs.drop (i + 1)) ys e = (match t p (wipeE e vs) with
      | .nx e1 => match cnd e1 with
        | .ok false e2 => compLL t cnd fe vs (xs.drop (i + 1)) ys e2
        | .ok true e2 => match fe e2 with
          | .ok (.v (.ls q)) e4 => if ys.length < lnX then compLL t cnd fe vs (xs.drop (i + 1)) (ys ++ [q]) e4 else .bad
          | _ => .bad
        | _ => .bad
      | _ => .bad) := rfl
    rw [ecl] at h2
    have apd : Apart (fun b => b = d ∨ b ∈ acc) F (Ow As) H2 := ⟨L.na, L.nf, fun b z => by
      rcases z with z | z
      · rw [z]; exact ⟨_, L.hd⟩
      · obtain ⟨w, q⟩ := L.rep.live b z; exact ⟨_, q⟩⟩
    cases q : t p (wipeE e vs) with
    | nx e4 =>
      rw [q] at h2
      dsimp only at h2 ⊢
      intro F4 H4 σ4 As4 s4 p4 d4
      have wq := wipe_eq_of p4
      refine ⟨wq, F4, e4, As4, s4, ?_⟩
      have d4' := d3.trans d4
      have ap4 := apd.step d4'
      have k4 : Keep F H2 F4 H4 := d4'.toKeep L.sim.nfA
      have len4 : e4.length = e1.length := by
        have a1 := s4.len
        have a2 := p4.len
        have a3 := L.sim.len
        have a4 := L.len
        rw [wipe_length] at a2 a3
        rw [wipeE_len] at a3
        omega
      cases q2 : cnd e4 with
      | ok bb e5 =>
        rw [q2] at h2
        intro F5 H5 As5 B5 y5 s5 r5 n5 m5 d5
        obtain ⟨rfl, _⟩ := r5
        have d5 := d5.less (B := Ow As5) fun b z => .inl z
        have ap5 := ap4.step d5
        have k5 : Keep F H2 F5 H5 := k4.trans (d5.toKeep s4.nfA)
        have d5' := d4'.trans d5
        have hd5 : H5 d = some (.lst (acc.map V.ref)) := d5'.keep d _ L.hd (L.na d (.inl rfl))
        have len5 : e5.length = e1.length := by rw [← len4]; exact (s5.len.symm.trans s4.len)
        cases y5 with
        | false =>
          rw [if_neg Bool.false_ne_true]
          dsimp only at h2
          obtain ⟨A6, s6, a6, _⟩ := s5.wipe vs
          rw [wq] at s6
          exact ⟨F5, e5, A6, acc, ys, ⟨s6, len5, L.keep.trans k5, (L.dl.trans d5').less a6, hd5, L.rep.stay k5 (fun b o hb q => d5'.keep b o q (L.na b (.inr hb))), (fun b hb z => ap5.a b hb (a6 b z)), ap5.f, L.nod, L.old⟩, h2⟩
        | true =>
          rw [if_pos rfl]
          dsimp only at h2
          refine ⟨F5, e5, As5, s5, ?_⟩
          cases q3 : fe e5 with
          | ok r e6 =>
            rw [q3] at h2
            intro F6 H6 As6 B6 y6 s6 r6 n6 m6 d6
            cases r with
            | b _ => exact h2.elim
            | v o6 =>
              cases o6 with
              | val _ => exact h2.elim
              | dc _ => exact h2.elim
              | ll _ => exact h2.elim
              | ls pq =>
                dsimp only at h2
                by_cases hlen : ys.length < lnX
                case neg => rw [if_neg hlen] at h2; exact h2.elim
                rw [if_pos hlen] at h2
                obtain ⟨nb, ws, ey, hw, rw6, hB6⟩ : RepO g F6 H6 y6 (.ls pq) B6 := r6
                have hb6 : B6 nb := (hB6 nb).mpr rfl
                have ap6 := ap5.step d6
                have nbS : ¬(nb = d ∨ nb ∈ acc) := fun z => ap6.a nb z (.inr hb6)
                have nbd : nb ≠ d := fun z => nbS (.inl z)
                have nba : nb ∉ acc := fun z => nbS (.inr z)
                have k6 : Keep F H2 F6 H6 := k5.trans (d6.toKeep s5.nfA)
                have d6' := d5'.trans d6
                have hd6 : H6 d = some (.lst (acc.map V.ref)) := d6'.keep d _ L.hd (L.na d (.inl rfl))
                obtain ⟨A8, s8, a8, _⟩ := s6.wipe vs
                rw [wq] at s8
                have na8 : ∀ b, b = d ∨ b ∈ acc → ¬Ow A8 b := fun b hb z => ap6.a b hb (.inl (a8 b z))
                have nd8 : ¬Ow A8 d := na8 d (.inl rfl)
                have s9 := s8.updL (ys := (acc.map V.ref) ++ [y6]) hd6 (ap6.f d (.inl rfl)) nd8
                have k9 := Keep.updL (H := H6) (ys := (acc.map V.ref) ++ [y6]) hd6 (ap6.f d (.inl rfl))
                have len6 : e6.length = e1.length := by rw [← len5]; exact (s6.len.symm.trans s5.len)
                have dl6 := L.dl.trans d6'
                have em : (acc.map V.ref) ++ [y6] = (acc ++ [nb]).map V.ref := by rw [List.map_append, ey]; rfl
                have lacc : (acc.map V.ref).length = ys.length := by rw [List.length_map]; exact L.rep.length
                refine ⟨acc.map V.ref, hd6, by rw [lacc, sizeLine_eq]; exact hlen, F6, e6, A8, acc ++ [nb], ys ++ [pq], ⟨s9, len6, (L.keep.trans k6).trans k9, ?_, by rw [upd_same, em], ?_, ?_, ?_, ?_, ?_⟩, h2⟩
                · refine ⟨dl6.mono, fun b o e n => ?_, fun b e => ?_, fun b z => dl6.own b (.inl (a8 b z)), dl6.fz, fun b xs e => k9.tup b xs (dl6.tup b xs e), fun b o u e => k9.frz b o u (dl6.frz b o u e)⟩
                  · have hb : b ≠ d := fun z => by rw [z, hd] at e; cases e
                    rw [upd_ne hb]
                    exact dl6.keep b o e n
                  · by_cases hb : b = d
                    · rw [hb]; exact hd
                    · rw [upd_ne hb] at e
                      exact dl6.live b e
                · have r1 := (L.rep.stay k6 fun b o hb q => d6'.keep b o q (L.na b (.inr hb))).app (.cons hw rw6 .nil)
                  refine r1.stay k9 fun b o hb q => ?_
                  have : b ≠ d := by
                    rcases List.mem_append.mp hb with hb | hb
                    · intro z
                      have := (List.nodup_cons.mp L.nod).1
                      rw [z] at hb; exact this hb
                    · rw [List.mem_singleton.mp hb]; exact nbd
                  rw [upd_ne this]; exact q
                · intro b hb z
                  rcases hb with hb | hb
                  · exact na8 b (.inl hb) z
                  · rcases List.mem_append.mp hb with hb | hb
                    · exact na8 b (.inr hb) z
                    · rw [List.mem_singleton.mp hb] at z; exact n6 nb hb6 (a8 nb z)
                · intro b hb z
                  rcases hb with hb | hb
                  · exact ap6.f b (.inl hb) z
                  · rcases List.mem_append.mp hb with hb | hb
                    · exact ap6.f b (.inr hb) z
                    · rw [List.mem_singleton.mp hb] at z; exact m6 nb hb6 z
                · have hn := List.nodup_cons.mp L.nod
                  refine List.nodup_cons.mpr ⟨fun z => ?_, ?_⟩
                  · rcases List.mem_append.mp z with z | z
                    · exact hn.1 z
                    · exact nbd (List.mem_singleton.mp z).symm
                  · refine List.nodup_append.mpr ⟨hn.2, by simp, fun x hx y hy e => ?_⟩
                    rw [List.mem_singleton.mp hy] at e
                    rw [e] at hx
                    exact nba hx
                · intro b hb
                  rcases List.mem_append.mp hb with hb | hb
                  · exact L.old b hb
                  · rw [List.mem_singleton.mp hb]
                    exact dl6.own nb (.inr hb6)
          | exc x e6 => rw [q3] at h2; exact h2.elim
          | bad => rw [q3] at h2; exact h2.elim
      | exc x e5 => rw [q2] at h2; exact h2.elim
      | bad => rw [q2] at h2; exact h2.elim
    | _ => rw [q] at h2; exact h2.elim
  · have e' : i = xs.length := by omega
    subst e'
    rw [List.drop_length] at h2
    refine .inl ⟨(jok F H2 L.keep _).1 (Nat.le_refl _), ?_⟩
    have s9 : Sim g F H2 σ (backE e1 (wipeE e vs) vs) As := Sim.back s1 now L.keep L.sim L.len
    refine h2 F H2 As (fun b => b = d ∨ b ∈ acc) (.ref d) s9 ⟨d, acc, rfl, L.hd, L.rep, L.nod, fun b => Iff.rfl⟩ L.na L.nf ?_
    have dd := d1.trans L.dl
    refine ⟨dd.mono, dd.keep, dd.live, fun b z => ?_, dd.fz, dd.tup, dd.frz⟩
    rcases z with z | z | z
    · exact dd.own b z
    · rw [z]; exact .inr (d1.live d hd)
    · rcases L.old b z with q | q
      · exact d1.own b q
      · exact .inr (d1.live b q)
theorem tE_lc {vs : List Nat} {Q : VK} {σ : L2.St} {H : Hp} (h : tE g W (compS src t cnd fe vs) σ H Q) : tLc (tI g W src) (tG g (fun i => !vs.contains i) t) (tT g W0 cnd) (tE g W0 fe) vs σ H Q := by
  obtain ⟨F0, e0, As0, s0, h⟩ := h
  refine ⟨F0, e0, As0, s0, Post.later (C := fun _ => False) s0 (.refl fun b z => z.elim id False.elim) h fun xs e1 _ F1 H1 As1 B1 J s1 r1 n1 m1 d1 h1 => ?_⟩
  obtain ⟨jok, _⟩ := r1
  have d1 := d1.less (B := Ow As1) fun b z => .inl z
  have h1 : Post g W σ (RepR g σ) F0 As0 H (if noOwn e1 vs then
    match compL t cnd fe vs xs [] e1 with
    | .ok ys e2 => .ok (.v (.ls ys)) (backE e1 (wipeE e2 vs) vs)
    | _ => .bad
    else .bad) Q := h1
  split at h1
  case isFalse => exact h1.elim
  rename_i now
  intro d hd
  obtain ⟨Aw, sw, aw, _⟩ := (s1.ext (ExtH.upd (o := .lst []) hd)).wipe vs
  have nd : ¬Ow As1 d := fun z => by obtain ⟨o, q⟩ := (s1.kind z).live; rw [hd] at q; cases q
  have fd : ¬F1 d := fun z => by obtain ⟨o, q⟩ := s1.fl d z; rw [hd] at q; cases q
  have start : LcAt g σ F1 As1 H1 e1 vs d F1 Aw (upd H1 d (.lst [])) e1 [] [] := ⟨sw, rfl, (ExtH.upd hd).keep, (ExtH.upd hd).dl fun b z => .inl (aw b z), upd_same, .nil, fun z => nd (aw d z), fd⟩
  refine ⟨fun i m H' => m = xs.length - i ∧ i ≤ xs.length ∧ ∃ F e As acc ys, LcAt g σ F1 As1 H1 e1 vs d F As H' e acc ys ∧ Post g W σ (RepR g σ) F0 As0 H (match compL t cnd fe vs (xs.drop i) ys e with
    | .ok ys e2 => .ok (.v (.ls ys)) (backE e1 (wipeE e2 vs) vs)
    | _ => .bad) Q, ⟨_, rfl, Nat.zero_le _, F1, e1, Aw, [], [], start, h1⟩, ?_⟩
  rintro i m H2 ⟨rfl, hi, F, e, As, acc, ys, L, h2⟩
  by_cases hlt : i < xs.length
  · obtain ⟨p, hp⟩ : ∃ p, xs[i]? = some p := ⟨xs[i], List.getElem?_eq_getElem hlt⟩
    obtain ⟨go, yl⟩ := (jok F H2 L.keep i).2 p hp
    have ed : xs.drop i = p :: xs.drop (i + 1) := by
      rw [List.drop_eq_getElem_cons hlt]
      have : xs[i] = p := Option.some.inj ((List.getElem?_eq_getElem hlt).symm.trans hp)
      rw [this]
    rw [ed] at h2
    refine .inr ⟨go, fun H' => ∃ F e As acc ys, LcAt g σ F1 As1 H1 e1 vs d F As H' e acc ys ∧ Post g W σ (RepR g σ) F0 As0 H (match compL t cnd fe vs (xs.drop (i + 1)) ys e with
      | .ok ys e2 => .ok (.v (.ls ys)) (backE e1 (wipeE e2 vs) vs)
      | _ => .bad) Q, fun H' q => ⟨_, by omega, rfl, by omega, q⟩, fun x H3 y => ?_⟩
    obtain ⟨x3, rx⟩ := yl x H3 y
    have s3 := L.sim.ext x3
    have d3 : Dl F (Ow As) H2 F (Ow As) H3 := x3.dl fun b z => .inl z
    refine ⟨F, wipeE e vs, As, p, s3, rx, ?_⟩
    have ecl : compL t cnd fe vs (p :: xs.drop (i + 1)) ys e = (match t p (wipeE e vs) with
      | .nx e1 => match cnd e1 with
        | .ok false e2 => compL t cnd fe vs (xs.drop (i + 1)) ys e2
        | .ok true e2 => match fe e2 with
          | .ok r e3 => match Mv.esc r e3 with
            | .ok q e4 => if ys.length < lnX then compL t cnd fe vs (xs.drop (i + 1)) (ys ++ [q]) e4 else .bad
            | _ => .bad
          | _ => .bad
        | _ => .bad
      | _ => .bad) := rfl
    rw [ecl] at h2
    have apd : Apart (fun b => b = d) F (Ow As) H2 := ⟨fun b z => by rw [z]; exact L.na, fun b z => by rw [z]; exact L.nf, fun b z => by rw [z]; exact ⟨_, L.hd⟩⟩
    cases q : t p (wipeE e vs) with
    | nx e4 =>
      rw [q] at h2
      dsimp only at h2 ⊢
      intro F4 H4 σ4 As4 s4 p4 d4
      have wq := wipe_eq_of p4
      refine ⟨wq, F4, e4, As4, s4, ?_⟩
      have d4' := d3.trans d4
      have ap4 := apd.step d4'
      have k4 : Keep F H2 F4 H4 := d4'.toKeep L.sim.nfA
      have len4 : e4.length = e1.length := by
        have a1 := s4.len
        have a2 := p4.len
        have a3 := L.sim.len
        have a4 := L.len
        rw [wipe_length] at a2 a3
        rw [wipeE_len] at a3
        omega
      cases q2 : cnd e4 with
      | ok bb e5 =>
        rw [q2] at h2
        intro F5 H5 As5 B5 y5 s5 r5 n5 m5 d5
        obtain ⟨rfl, _⟩ := r5
        have d5 := d5.less (B := Ow As5) fun b z => .inl z
        have ap5 := ap4.step d5
        have k5 : Keep F H2 F5 H5 := k4.trans (d5.toKeep s4.nfA)
        have d5' := d4'.trans d5
        have hd5 : H5 d = some (.lst acc) := d5'.keep d _ L.hd L.na
        have len5 : e5.length = e1.length := by rw [← len4]; exact (s5.len.symm.trans s4.len)
        cases y5 with
        | false =>
          rw [if_neg Bool.false_ne_true]
          dsimp only at h2
          obtain ⟨A6, s6, a6, _⟩ := s5.wipe vs
          rw [wq] at s6
          exact ⟨F5, e5, A6, acc, ys, ⟨s6, len5, L.keep.trans k5, (L.dl.trans d5').less a6, hd5, L.rep.keep k5, fun z => ap5.a d rfl (a6 d z), ap5.f d rfl⟩, h2⟩
        | true =>
          rw [if_pos rfl]
          dsimp only at h2
          refine ⟨F5, e5, As5, s5, ?_⟩
          cases q3 : fe e5 with
          | ok r e6 =>
            rw [q3] at h2
            dsimp only at h2
            intro F6 H6 As6 B6 y6 s6 r6 n6 m6 d6
            cases q4 : Mv.esc r e6 with
            | ok pq e7 =>
              rw [q4] at h2
              dsimp only at h2
              by_cases hlen : ys.length < lnX
              case neg => rw [if_neg hlen] at h2; exact h2.elim
              rw [if_pos hlen] at h2
              obtain ⟨F7, As7, s7, r7, d7⟩ := esc_ok q4 s6 r6 n6 m6
              have ap7 := (ap5.step d6).step d7
              have k7 : Keep F H2 F7 H6 := k5.trans ((d6.trans d7).toKeep s5.nfA)
              have d7' := d5'.trans (d6.trans d7)
              have hd7 : H6 d = some (.lst acc) := d7'.keep d _ L.hd L.na
              obtain ⟨A8, s8, a8, _⟩ := s7.wipe vs
              rw [wq] at s8
              have na8 : ¬Ow A8 d := fun z => ap7.a d rfl (a8 d z)
              have s9 := s8.updL (ys := acc ++ [y6]) hd7 (ap7.f d rfl) na8
              have k9 := Keep.updL (H := H6) (ys := acc ++ [y6]) hd7 (ap7.f d rfl)
              have len7 : e7.length = e1.length := by rw [← len5]; exact (s7.len.symm.trans s5.len)
              have dl7 := L.dl.trans d7'
              refine ⟨acc, hd7, by rw [(L.rep.length), sizeLine_eq]; exact hlen, F7, e7, A8, acc ++ [y6], ys ++ [pq], ⟨s9, len7, (L.keep.trans k7).trans k9, ?_, upd_same, ((L.rep.keep k7).app (.cons r7 .nil)).keep k9, na8, ap7.f d rfl⟩, h2⟩
              refine ⟨dl7.mono, fun b o e n => ?_, fun b e => ?_, fun b z => dl7.own b (a8 b z), dl7.fz, fun b xs e => k9.tup b xs (dl7.tup b xs e), fun b o u e => k9.frz b o u (dl7.frz b o u e)⟩
              · have hb : b ≠ d := fun z => by rw [z, hd] at e; cases e
                rw [upd_ne hb]
                exact dl7.keep b o e n
              · by_cases hb : b = d
                · rw [hb]; exact hd
                · rw [upd_ne hb] at e
                  exact dl7.live b e
            | exc x e7 => rw [q4] at h2; exact h2.elim
            | bad => rw [q4] at h2; exact h2.elim
          | exc x e6 => rw [q3] at h2; exact h2.elim
          | bad => rw [q3] at h2; exact h2.elim
      | exc x e5 => rw [q2] at h2; exact h2.elim
      | bad => rw [q2] at h2; exact h2.elim
    | _ => rw [q] at h2; exact h2.elim
  · have e' : i = xs.length := by omega
    subst e'
    rw [List.drop_length] at h2
    refine .inl ⟨(jok F H2 L.keep _).1 (Nat.le_refl _), ?_⟩
    have s9 : Sim g F H2 σ (backE e1 (wipeE e vs) vs) As := Sim.back s1 now L.keep L.sim L.len
    refine h2 F H2 As (fun b => b = d) (.ref d) s9 ⟨d, acc, rfl, L.hd, L.rep, fun b => Iff.rfl⟩ (fun b z => by rw [z]; exact L.na) (fun b z => by rw [z]; exact L.nf) ?_
    have dd := d1.trans L.dl
    refine ⟨dd.mono, dd.keep, dd.live, fun b z => ?_, dd.fz, dd.tup, dd.frz⟩
    rcases z with z | z
    · exact dd.own b z
    · rw [z]; exact .inr (d1.live d hd)
theorem je_lc (hc : X.calm = true) (hN : X.N.Nodup) (hi : PI X tg iter (tI g W src)) (ok : BlkOk X.N X.env.scope scope own)
    (hg : ∀ (s : Shared) (H : Hp) (C : Addr) (cl : List (Str × Addr)) (fp : List Addr), PG (X.blk s H scope (compEnvC scope cl C X.env) fp) tg (tG g (fun i => !(own.map (·.2)).contains i) t))
    (ht : ∀ (s : Shared) (H : Hp) (C : Addr) (cl : List (Str × Addr)) (fp : List Addr), PTs (X.blk s H scope (compEnvC scope cl C X.env) fp) ifs (tT g W0 cnd))
    (he : ∀ (s : Shared) (H : Hp) (C : Addr) (cl : List (Str × Addr)) (fp : List Addr), PE (X.blk s H scope (compEnvC scope cl C X.env) fp) elt (tE g W0 fe)) (hs : ∀ x, foldedSetIterable iter X.env x = pure x := by intro _; rfl) :
    PE X (.ListComp elt [⟨tg, iter, ifs, 0⟩] scope pos) (tE g W (compS src t cnd fe (own.map (·.2)))) := by
  exact pe_imp (pe_lc hc hN hi ok hg ht he hs) fun σ H Q h => tE_lc h
theorem js_setLc {pins : Nat → Bool} {i : Nat} {y : Str} {py spos : Pos} (hc : X.calm = true) (hN : X.N.Nodup) (hy : X.N[i]? = some y) (hyl : X.env.scope.names.lookup y = some .local) (hi : PI X tg iter (tI g W src)) (ok : BlkOk X.N X.env.scope scope own)
    (hg : ∀ (s : Shared) (H : Hp) (C : Addr) (cl : List (Str × Addr)) (fp : List Addr), PG (X.blk s H scope (compEnvC scope cl C X.env) fp) tg (tG g (fun i => !(own.map (·.2)).contains i) t))
    (ht : ∀ (s : Shared) (H : Hp) (C : Addr) (cl : List (Str × Addr)) (fp : List Addr), PTs (X.blk s H scope (compEnvC scope cl C X.env) fp) ifs (tT g W0 cnd))
    (he : ∀ (s : Shared) (H : Hp) (C : Addr) (cl : List (Str × Addr)) (fp : List Addr), PE (X.blk s H scope (compEnvC scope cl C X.env) fp) elt (tE g W0 fe)) (hp : pins i = false := by rfl)
    (hsw : swapsWith (.ListComp elt [⟨tg, iter, ifs, 0⟩] scope pos) (some (.Name y py)) spos.line X.env = pure true := by rfl) (hs : ∀ x, foldedSetIterable iter X.env x = pure x := by intro _; rfl) :
    PS X (.Assign [.Name y py] (.ListComp elt [⟨tg, iter, ifs, 0⟩] scope pos) spos) (tS g W pins (asgS i (compS src t cnd fe (own.map (·.2))))) := by
  refine ps_imp (ps_setLc hc hN hy hyl hsw hi ok hg ht he hs) fun D σ H h => tE_lc (sE_later h fun F As r e1 F1 H1 As1 B1 x s1 r1 n1 m1 d1 h1 => ?_)
  obtain ⟨o, e3, F3, As3, B3, h3, s3, r3, _, n3, m3, d3⟩ := h1.hold s1 r1 n1 m1
  obtain ⟨As4, s4, a4⟩ := s3.put r3 n3 m3 i
  exact h3 F3 H1 _ As4 s4 (PinsEq.set hp) ((d1.trans d3).less fun b z => a4 b z)
theorem je_lcL (hc : X.calm = true) (hN : X.N.Nodup) (hi : PI X tg iter (tI g W src)) (ok : BlkOk X.N X.env.scope scope own)
    (hg : ∀ (s : Shared) (H : Hp) (C : Addr) (cl : List (Str × Addr)) (fp : List Addr), PG (X.blk s H scope (compEnvC scope cl C X.env) fp) tg (tG g (fun i => !(own.map (·.2)).contains i) t))
    (ht : ∀ (s : Shared) (H : Hp) (C : Addr) (cl : List (Str × Addr)) (fp : List Addr), PTs (X.blk s H scope (compEnvC scope cl C X.env) fp) ifs (tT g W0 cnd))
    (he : ∀ (s : Shared) (H : Hp) (C : Addr) (cl : List (Str × Addr)) (fp : List Addr), PE (X.blk s H scope (compEnvC scope cl C X.env) fp) elt (tE g W0 fe)) (hs : ∀ x, foldedSetIterable iter X.env x = pure x := by intro _; rfl) :
    PE X (.ListComp elt [⟨tg, iter, ifs, 0⟩] scope pos) (tE g W (compSL src t cnd fe (own.map (·.2)))) := by
  exact pe_imp (pe_lc hc hN hi ok hg ht he hs) fun σ H Q h => tE_lcL h
theorem js_setLcL {pins : Nat → Bool} {i : Nat} {y : Str} {py spos : Pos} (hc : X.calm = true) (hN : X.N.Nodup) (hy : X.N[i]? = some y) (hyl : X.env.scope.names.lookup y = some .local) (hi : PI X tg iter (tI g W src)) (ok : BlkOk X.N X.env.scope scope own)
    (hg : ∀ (s : Shared) (H : Hp) (C : Addr) (cl : List (Str × Addr)) (fp : List Addr), PG (X.blk s H scope (compEnvC scope cl C X.env) fp) tg (tG g (fun i => !(own.map (·.2)).contains i) t))
    (ht : ∀ (s : Shared) (H : Hp) (C : Addr) (cl : List (Str × Addr)) (fp : List Addr), PTs (X.blk s H scope (compEnvC scope cl C X.env) fp) ifs (tT g W0 cnd))
    (he : ∀ (s : Shared) (H : Hp) (C : Addr) (cl : List (Str × Addr)) (fp : List Addr), PE (X.blk s H scope (compEnvC scope cl C X.env) fp) elt (tE g W0 fe)) (hp : pins i = false := by rfl)
    (hsw : swapsWith (.ListComp elt [⟨tg, iter, ifs, 0⟩] scope pos) (some (.Name y py)) spos.line X.env = pure true := by rfl) (hs : ∀ x, foldedSetIterable iter X.env x = pure x := by intro _; rfl) :
    PS X (.Assign [.Name y py] (.ListComp elt [⟨tg, iter, ifs, 0⟩] scope pos) spos) (tS g W pins (asgS i (compSL src t cnd fe (own.map (·.2))))) := by
  refine ps_imp (ps_setLc hc hN hy hyl hsw hi ok hg ht he hs) fun D σ H h => tE_lcL (sE_later h fun F As r e1 F1 H1 As1 B1 x s1 r1 n1 m1 d1 h1 => ?_)
  obtain ⟨o, e3, F3, As3, B3, h3, s3, r3, _, n3, m3, d3⟩ := h1.hold s1 r1 n1 m1
  obtain ⟨As4, s4, a4⟩ := s3.put r3 n3 m3 i
  exact h3 F3 H1 _ As4 s4 (PinsEq.set hp) ((d1.trans d3).less fun b z => a4 b z)
end
end Mv
end
/-! file MvC -/
section
set_option linter.all false
set_option autoImplicit false
set_option maxRecDepth 100000
/-! Mv, part C: calls, defs. -/
namespace Mv
open PySem PySem.Spec PyProof.Rows L2

section
variable {g : Gi} {W : WX} {pins : Nat → Bool} {F F1 F2 : Addr → Prop} {H H1 H2 : Hp} {σ σ1 : L2.St} {e e1 e2 : Env} {As As1 As2 : Nat → Addr → Prop} {B B1 B2 C : Addr → Prop} {X : Cx} {D : Ends}

def PostF (g : Gi) (F : Addr → Prop) (Bs : Nat → Addr → Prop) (H : Hp) (vs : List V) (res : FR) (Q : VK) (E : XK) : Prop :=
  match res with
  | .ret o outs => ∀ F' H' Bs' B v, Sim g F' H' (vs.map some) (outs.map some) Bs' → RepO g F' H' v o B → (∀ b, B b → ¬Ow Bs' b) → (∀ b, B b → ¬F' b) → Dl F (Ow Bs) H F' (fun b => Ow Bs' b ∨ B b) H' → Q v H'
  | .exc x outs => ∀ F' H' Bs' cls d, Sim g F' H' (vs.map some) (outs.map some) Bs' → Dl F (Ow Bs) H F' (Ow Bs') H' → ExcR g x cls d H' → E cls d H'
  | .bad => False
/-- a def's promise: it hands back what the function says -/
def spF (g : Gi) (n : Nat) (G : FN) : Sp := fun vs H Q E => vs.length = n ∧ ∃ F os Bs, Sim g F H (vs.map some) (os.map some) Bs ∧ PostF g F Bs H vs (G os) Q E

/-! the results' own sets by place -/
theorem RepRs.fn : ∀ {rs : List RV} {vs : List V} {B : Addr → Prop}, RepRs g σ F H vs rs B → ∃ Ts : Nat → Addr → Prop, (∀ (k : Nat) (r : RV), rs[k]? = some r → ∃ v, vs[k]? = some v ∧ RepR g σ F H v r (Ts k)) ∧ (∀ k k' b, Ts k b → Ts k' b → k = k') ∧ (∀ b, B b ↔ ∃ k, Ts k b) ∧ ∀ k, rs.length ≤ k → ∀ b, ¬Ts k b
  | [], vs, B, h => by
    cases h with
    | nil nb => exact ⟨fun _ _ => False, fun k r q => (by simp at q), fun _ _ _ z => z.elim, fun b => ⟨fun z => (nb b z).elim, fun ⟨_, z⟩ => z.elim⟩, fun _ _ _ z => z⟩
  | r :: rs, vs, B, h => by
    cases h with
    | @cons v vs _ _ _ B1 B2 h1 h2 d12 eB =>
      obtain ⟨Ts, a, b, c, d⟩ := RepRs.fn h2
      refine ⟨fun k => match k with | 0 => B1 | k + 1 => Ts k, fun k r' q => ?_, fun k k' x z z' => ?_, fun x => ⟨fun z => ?_, fun ⟨k, z⟩ => ?_⟩, fun k hk x z => ?_⟩
      · cases k with
        | zero => cases q; exact ⟨v, rfl, h1⟩
        | succ k => exact a k r' (by simpa using q)
      · cases k with
        | zero =>
          cases k' with
          | zero => rfl
          | succ k' => exact absurd ((c x).mpr ⟨k', z'⟩) (d12 x z)
        | succ k =>
          cases k' with
          | zero => exact absurd ((c x).mpr ⟨k, z⟩) (d12 x z')
          | succ k' => rw [b k k' x z z']
      · rcases (eB x).mp z with z | z
        · exact ⟨0, z⟩
        · obtain ⟨k, z⟩ := (c x).mp z
          exact ⟨k + 1, z⟩
      · cases k with
        | zero => exact (eB x).mpr (.inl z)
        | succ k => exact (eB x).mpr (.inr ((c x).mpr ⟨k, z⟩))
      · cases k with
        | zero => simp at hk
        | succ k => exact d k (by simpa using hk) x z
theorem derefs_at : ∀ {rs : List RV} {os : List OV} {k : Nat}, derefs rs e = some os → os.length = rs.length ∧ ∀ r, rs[k]? = some r → ∃ o, os[k]? = some o ∧ deref r e = some o
  | [], os, k, h => by
    cases h
    exact ⟨rfl, fun r q => by simp at q⟩
  | r :: rs, os, k, h => by
    unfold derefs at h
    cases q : deref r e with
    | none => rw [q] at h; cases h
    | some o =>
      cases q2 : derefs rs e with
      | none => rw [q, q2] at h; cases h
      | some os' =>
        rw [q, q2] at h
        cases h
        obtain ⟨l, _⟩ := derefs_at (k := 0) q2
        refine ⟨by rw [List.length_cons, List.length_cons, l], fun r' hr => ?_⟩
        cases k with
        | zero => cases hr; exact ⟨o, rfl, q⟩
        | succ k =>
          obtain ⟨o', h1, h2⟩ := (derefs_at (k := k) q2).2 r' (by simpa using hr)
          exact ⟨o', by simpa using h1, h2⟩
theorem refs_mem : ∀ {rs : List RV} {i : Nat}, i ∈ refs rs ↔ ∃ k : Nat, rs[k]? = some (RV.b i)
  | [], i => by simp [refs]
  | .v o :: rs, i => by
    unfold refs
    rw [refs_mem (rs := rs)]
    refine ⟨fun ⟨k, h⟩ => ⟨k + 1, by simpa using h⟩, fun ⟨k, h⟩ => ?_⟩
    cases k with
    | zero => cases h
    | succ k => exact ⟨k, by simpa using h⟩
  | .b j :: rs, i => by
    unfold refs
    rw [List.mem_cons, refs_mem (rs := rs)]
    refine ⟨fun h => ?_, fun ⟨k, h⟩ => ?_⟩
    · rcases h with h | ⟨k, h⟩
      · exact ⟨0, by rw [h]; rfl⟩
      · exact ⟨k + 1, by simpa using h⟩
    · cases k with
      | zero => cases h; exact .inl rfl
      | succ k => exact .inr ⟨k, by simpa using h⟩
theorem refs_inj : ∀ {rs : List RV} {i k k' : Nat}, nodupN (refs rs) = true → rs[k]? = some (RV.b i) → rs[k']? = some (RV.b i) → k = k'
  | [], i, k, k', _, h, _ => by simp at h
  | .v o :: rs, i, k, k', n, h, h' => by
    cases k with
    | zero => cases h
    | succ k =>
      cases k' with
      | zero => cases h'
      | succ k' => exact congrArg Nat.succ (refs_inj (rs := rs) (i := i) (k := k) (k' := k') n (by simpa using h) (by simpa using h'))
  | .b j :: rs, i, k, k', n, h, h' => by
    unfold refs nodupN at n
    rw [Bool.and_eq_true, Bool.not_eq_true'] at n
    have nm : ∀ {k : Nat}, rs[k]? = some (RV.b j) → False := fun {k} q => by
      have := List.contains_iff_mem.mpr (refs_mem.mpr ⟨k, q⟩)
      rw [n.1] at this; cases this
    cases k with
    | zero =>
      cases h
      cases k' with
      | zero => rfl
      | succ k' => exact (nm (by simpa using h')).elim
    | succ k =>
      cases k' with
      | zero => cases h'; exact (nm (by simpa using h)).elim
      | succ k' => exact congrArg Nat.succ (refs_inj (rs := rs) (i := i) (k := k) (k' := k') n.2 (by simpa using h) (by simpa using h'))
theorem putBack_len : ∀ (rs : List RV) (os : List OV) (e : Env), (putBack rs os e).length = e.length
  | [], os, e => by unfold putBack; rfl
  | .b i :: rs, [], e => by unfold putBack; rfl
  | .v o :: rs, [], e => by unfold putBack; rfl
  | .b i :: rs, o :: os, e => by unfold putBack; rw [putBack_len rs os, List.length_set]
  | .v o' :: rs, o :: os, e => by unfold putBack; rw [putBack_len rs os]
theorem putBack_out : ∀ {rs : List RV} {os : List OV} {e : Env} {j : Nat}, j ∉ refs rs → (putBack rs os e)[j]? = e[j]?
  | [], os, e, j, h => by unfold putBack; rfl
  | .b i :: rs, [], e, j, h => by unfold putBack; rfl
  | .v o :: rs, [], e, j, h => by unfold putBack; rfl
  | .b i :: rs, o :: os, e, j, h => by
    unfold refs at h
    rw [List.mem_cons, not_or] at h
    unfold putBack
    rw [putBack_out h.2, List.getElem?_set_ne (Ne.symm h.1)]
  | .v o' :: rs, o :: os, e, j, h => by unfold putBack; exact putBack_out h
theorem putBack_in : ∀ {rs : List RV} {os : List OV} {e : Env} {j k : Nat}, nodupN (refs rs) = true → rs.length = os.length → rs[k]? = some (RV.b j) → j < e.length → ∃ o, os[k]? = some o ∧ (putBack rs os e)[j]? = some (some o)
  | [], os, e, j, k, n, l, h, hl => by simp at h
  | .b i :: rs, [], e, j, k, n, l, h, hl => by simp at l
  | .v o :: rs, [], e, j, k, n, l, h, hl => by simp at l
  | .b i :: rs, o :: os, e, j, k, n, l, h, hl => by
    have n' := n
    unfold refs nodupN at n
    rw [Bool.and_eq_true, Bool.not_eq_true'] at n
    unfold putBack
    cases k with
    | zero =>
      cases h
      refine ⟨o, rfl, ?_⟩
      rw [putBack_out fun q => by rw [List.contains_iff_mem.mpr q] at n; exact Bool.noConfusion n.1, List.getElem?_set_self hl]
    | succ k =>
      obtain ⟨o', h1, h2⟩ := putBack_in (rs := rs) (os := os) (e := e.set i (some o)) (j := j) (k := k) n.2 (by simpa using l) (by simpa using h) (by rw [List.length_set]; exact hl)
      exact ⟨o', by simpa using h1, h2⟩
  | .v o' :: rs, o :: os, e, j, k, n, l, h, hl => by
    unfold putBack
    cases k with
    | zero => cases h
    | succ k =>
      obtain ⟨o2, h1, h2⟩ := putBack_in (rs := rs) (os := os) (e := e) (j := j) (k := k) n (by simpa using l) (by simpa using h) hl
      exact ⟨o2, by simpa using h1, h2⟩

/-- the callee's end, put back into the caller's names -/
theorem back_sim {rs : List RV} {outs : List OV} {vs : List V} {Bs' : Nat → Addr → Prop} {Rs : Addr → Prop} (nd : nodupN (refs rs) = true) (s1 : Sim g F1 H1 σ e1 As1) (hv : ∀ (k i : Nat), rs[k]? = some (RV.b i) → ∃ v, vs[k]? = some v ∧ σ[i]? = some (some v)) (lrs : rs.length = vs.length)
    (sF : Sim g F2 H2 (vs.map some) (outs.map some) Bs') (k : Keep F1 H1 F2 H2) (hR : ∀ i b, i ∉ refs rs → As1 i b → Rs b) (ap : Apart Rs F2 (Ow Bs') H2) (st : ∀ b o, Rs b → H1 b = some o → H2 b = some o) :
    Sim g F2 H2 σ (putBack rs outs e1) (fun j b => (∃ k : Nat, rs[k]? = some (RV.b j) ∧ j < e1.length ∧ Bs' k b) ∨ (j ∉ refs rs ∧ As1 j b)) := by
  have lo : rs.length = outs.length := by
    have := sF.len
    rw [List.length_map, List.length_map] at this
    omega
  refine ⟨by rw [putBack_len]; exact s1.len, fun j o q => ?_, fun j q b z => ?_, fun i j b z y => ?_, fun j b z f => ?_, sF.fl⟩
  · by_cases hj : j ∈ refs rs
    · obtain ⟨kk, hk⟩ := refs_mem.mp hj
      have hl : j < e1.length := by
        have := (List.getElem?_eq_some_iff.mp q).1
        rwa [putBack_len] at this
      obtain ⟨o', ho, hp⟩ := putBack_in nd lo hk hl
      rw [hp] at q
      cases q
      obtain ⟨v, hv1, hv2⟩ := hv kk j hk
      obtain ⟨v', hv', r⟩ := sF.slot kk o (by rw [List.getElem?_map, ho]; rfl)
      rw [List.getElem?_map, hv1] at hv'
      cases hv'
      refine ⟨v, hv2, ?_⟩
      have e3 : (fun b => (∃ k : Nat, rs[k]? = some (RV.b j) ∧ j < e1.length ∧ Bs' k b) ∨ (j ∉ refs rs ∧ As1 j b)) = Bs' kk := by
        funext b
        refine propext ⟨fun z => ?_, fun z => .inl ⟨kk, hk, hl, z⟩⟩
        rcases z with ⟨k2, h2, _, z⟩ | ⟨z, _⟩
        · rw [refs_inj nd hk h2]; exact z
        · exact absurd hj z
      rw [e3]
      exact r
    · rw [putBack_out hj] at q
      obtain ⟨v, hv, r⟩ := s1.slot j o q
      refine ⟨v, hv, ?_⟩
      have e3 : (fun b => (∃ k : Nat, rs[k]? = some (RV.b j) ∧ j < e1.length ∧ Bs' k b) ∨ (j ∉ refs rs ∧ As1 j b)) = As1 j := by
        funext b
        refine propext ⟨fun z => ?_, fun z => .inr ⟨hj, z⟩⟩
        rcases z with ⟨k2, h2, _, z⟩ | ⟨_, z⟩
        · exact absurd (refs_mem.mpr ⟨k2, h2⟩) hj
        · exact z
      rw [e3]
      exact r.stay k fun b o z q => st b o (hR j b hj z) q
  · rcases z with ⟨kk, hk, hl, z⟩ | ⟨hj, z⟩
    · obtain ⟨o', ho, hp⟩ := putBack_in (e := e1) nd lo hk hl
      exact q o' hp
    · exact s1.off j (fun o' q' => q o' (by rw [putBack_out hj]; exact q')) b z
  · rcases z with ⟨k1, h1, _, z⟩ | ⟨hi, z⟩
    · rcases y with ⟨k2, h2, _, y⟩ | ⟨hj, y⟩
      · have := sF.dis k1 k2 b z y
        subst this
        rw [h1] at h2
        cases h2
        rfl
      · exact absurd ⟨k1, z⟩ (ap.a b (hR j b hj y))
    · rcases y with ⟨k2, h2, _, y⟩ | ⟨hj, y⟩
      · exact absurd ⟨k2, y⟩ (ap.a b (hR i b hi z))
      · exact s1.dis i j b z y
  · rcases z with ⟨k1, h1, _, z⟩ | ⟨hi, z⟩
    · exact sF.nf k1 b z f
    · exact ap.f b (hR j b hi z) f

theorem call_core {G : FN} {rs : List RV} {xs : List V} {Q : VK} (h : Post g W σ (RepR g σ) F As H (callRs G rs e1) Q) (s1 : Sim g F1 H1 σ e1 As1) (r1 : RepRs g σ F1 H1 xs rs B1) (n1 : ∀ b, B1 b → ¬Ow As1 b) (m1 : ∀ b, B1 b → ¬F1 b)
    (d1 : Dl F (Ow As) H F1 (fun b => Ow As1 b ∨ B1 b) H1) : spF g rs.length G xs H1 Q (WE W σ) := by
  have lx : xs.length = rs.length := r1.length
  refine ⟨lx, ?_⟩
  unfold callRs at h
  split at h
  case isFalse => exact h.elim
  rename_i nd
  split at h
  case h_2 => exact h.elim
  rename_i os hos
  obtain ⟨Ts, ta, tb, tc, td⟩ := r1.fn
  have lo : os.length = rs.length := (derefs_at (k := 0) hos).1
  -- the callee's own sets: temporaries, the caller's things lent
  let Bs : Nat → Addr → Prop := fun k b => Ts k b ∨ ∃ i, rs[k]? = some (RV.b i) ∧ As1 i b
  have hBs : ∀ k b, Bs k b → Ow As1 b ∨ B1 b := fun k b z => by
    rcases z with z | ⟨i, _, z⟩
    · exact .inr ((tc b).mpr ⟨k, z⟩)
    · exact .inl ⟨i, z⟩
  have sF : Sim g F1 H1 (xs.map some) (os.map some) Bs := by
    refine ⟨by rw [List.length_map, List.length_map]; omega, fun k o q => ?_, fun k q b z => ?_, fun k k' b z y => ?_, fun k b z f => ?_, s1.fl⟩
    · rw [List.getElem?_map] at q
      cases qo : os[k]? with
      | none => rw [qo] at q; cases q
      | some o' =>
        rw [qo] at q
        cases q
        have hk : k < rs.length := by rw [← lo]; exact (List.getElem?_eq_some_iff.mp qo).1
        obtain ⟨r, hr⟩ : ∃ r, rs[k]? = some r := ⟨rs[k], List.getElem?_eq_getElem hk⟩
        obtain ⟨v, hv, rr⟩ := ta k r hr
        obtain ⟨o2, ho2, dr⟩ := (derefs_at (k := k) hos).2 r hr
        rw [qo] at ho2
        cases ho2
        refine ⟨v, by rw [List.getElem?_map, hv]; rfl, ?_⟩
        cases r with
        | v o3 =>
          cases dr
          have e3 : Bs k = Ts k := by
            funext b
            refine propext ⟨fun z => ?_, fun z => .inl z⟩
            rcases z with z | ⟨i, z, _⟩
            · exact z
            · rw [hr] at z; cases z
          rw [e3]
          exact rr
        | b i =>
          obtain ⟨hvi, nb⟩ : σ[i]? = some (some v) ∧ ∀ b, ¬Ts k b := rr
          unfold deref at dr
          dsimp only at dr
          split at dr
          · rename_i o4 q4
            cases dr
            obtain ⟨v', hv', r'⟩ := s1.slot i _ q4
            rw [hvi] at hv'
            cases hv'
            have e3 : Bs k = As1 i := by
              funext b
              refine propext ⟨fun z => ?_, fun z => .inr ⟨i, hr, z⟩⟩
              rcases z with z | ⟨i', z, z2⟩
              · exact (nb b z).elim
              · rw [hr] at z; cases z; exact z2
            rw [e3]
            exact r'
          · cases dr
    · have hk : rs.length ≤ k := by
        apply Nat.le_of_not_lt
        intro hk
        have : k < os.length := by omega
        exact q _ (by rw [List.getElem?_map, List.getElem?_eq_getElem this]; rfl)
      rcases z with z | ⟨i, z, _⟩
      · exact td k hk b z
      · rw [List.getElem?_eq_none hk] at z; cases z
    · rcases z with z | ⟨i, zi, z⟩
      · rcases y with y | ⟨j, yj, y⟩
        · exact tb k k' b z y
        · exact absurd ⟨j, y⟩ (n1 b ((tc b).mpr ⟨k, z⟩))
      · rcases y with y | ⟨j, yj, y⟩
        · exact absurd ⟨i, z⟩ (n1 b ((tc b).mpr ⟨k', y⟩))
        · have := s1.dis i j b z y
          subst this
          exact refs_inj nd zi yj
    · rcases z with z | ⟨i, _, z⟩
      · exact m1 b ((tc b).mpr ⟨k, z⟩) f
      · exact s1.nf i b z f
  refine ⟨F1, os, Bs, sF, ?_⟩
  -- what is not lent stands aside
  let Rs : Addr → Prop := fun b => ∃ i, i ∉ refs rs ∧ As1 i b
  have apR : Apart Rs F1 (Ow Bs) H1 := ⟨fun b ⟨i, hi, z⟩ ⟨k, y⟩ => by
    rcases y with y | ⟨j, yj, y⟩
    · exact n1 b ((tc b).mpr ⟨k, y⟩) ⟨i, z⟩
    · have := s1.dis i j b z y
      subst this
      exact hi (refs_mem.mpr ⟨k, yj⟩), fun b ⟨i, _, z⟩ => s1.nf i b z, fun b ⟨i, _, z⟩ => (s1.kind ⟨i, z⟩).live⟩
  have hv : ∀ (k i : Nat), rs[k]? = some (RV.b i) → ∃ v, xs[k]? = some v ∧ σ[i]? = some (some v) := fun k i q => by
    obtain ⟨v, h1, h2⟩ := ta k _ q
    exact ⟨v, h1, h2.1⟩
  have sub : ∀ b, (Ow Bs b ∨ Rs b) → Ow As1 b ∨ B1 b := fun b z => by
    rcases z with ⟨k, z⟩ | ⟨i, _, z⟩
    · exact hBs k b z
    · exact .inl ⟨i, z⟩
  have sub' : ∀ b, Ow As1 b ∨ B1 b → Ow Bs b ∨ Rs b := fun b z => by
    rcases z with ⟨i, z⟩ | z
    · by_cases hi : i ∈ refs rs
      · obtain ⟨k, hk⟩ := refs_mem.mp hi
        exact .inl ⟨k, .inr ⟨i, hk, z⟩⟩
      · exact .inr ⟨i, hi, z⟩
    · obtain ⟨k, z⟩ := (tc b).mp z
      exact .inl ⟨k, .inl z⟩
  have d1' : Dl F (Ow As) H F1 (fun b => Ow Bs b ∨ Rs b) H1 := d1.less sub
  cases q : G os with
  | ret o outs =>
    rw [q] at h
    intro F2 H2 Bs' B v s2 ro nb nf d2
    have ap2 := apR.step d2
    have k2 : Keep F1 H1 F2 H2 := d2.toKeep sF.nfA
    have s3 := back_sim nd s1 hv (lx.symm) s2 k2 (fun i b hi z => ⟨i, hi, z⟩) (ap2.less fun b z => .inl z) fun b o z q => apR.same d2 z q
    refine h F2 H2 _ B v s3 ro (fun b z y => ?_) nf (d1'.trans ((d2.frame (B := Rs)).less fun b z => ?_))
    · obtain ⟨j, y⟩ := y
      rcases y with ⟨k, _, _, y⟩ | ⟨hj, y⟩
      · exact nb b z ⟨k, y⟩
      · exact ap2.a b ⟨j, hj, y⟩ (.inr z)
    · rcases z with ⟨j, z⟩ | z
      · rcases z with ⟨k, _, _, z⟩ | ⟨hj, z⟩
        · exact .inl (.inl ⟨k, z⟩)
        · exact .inr ⟨j, hj, z⟩
      · exact .inl (.inr z)
  | exc x outs =>
    rw [q] at h
    intro F2 H2 Bs' cls dd s2 d2 rx
    have ap2 := apR.step d2
    have k2 : Keep F1 H1 F2 H2 := d2.toKeep sF.nfA
    have s3 := back_sim nd s1 hv (lx.symm) s2 k2 (fun i b hi z => ⟨i, hi, z⟩) ap2 fun b o z q => apR.same d2 z q
    refine h F2 H2 _ cls dd s3 (d1'.trans ((d2.frame (B := Rs)).less fun b z => ?_)) rx
    obtain ⟨j, z⟩ := z
    rcases z with ⟨k, _, _, z⟩ | ⟨hj, z⟩
    · exact .inl ⟨k, z⟩
    · exact .inr ⟨j, hj, z⟩
  | bad => rw [q] at h; exact h.elim

/-! ### the call -/
variable {a : Expr} {es : List Expr} {p pos : Pos} {fs : List (SE RV)} {x : Str} {f : Addr} {fd : FuncData} {ps ks : List Str} {kws : List Keyword} {G : FN} {k n : Nat}
theorem tE_call {Q : VK} (h : tE g W (callF G fs) σ H Q) : tCallS (spF g fs.length G) (WE W) (tA g W (args fs)) σ H Q :=
  tA_later h fun F As rs e1 F1 H1 As1 B1 xs hn s1 r1 n1 m1 d1 h1 => by rw [← hn]; exact call_core h1 s1 r1 n1 m1 d1
theorem je_call (Fn : FnOk X.prog X.w X.K X.mg X.base (L2.CX X.prog X.w) k f fd ps (spF g n G)) (hr : Room k X.A) (hm : X.mg x = some (.ref f)) (hk : PySem.W.keepIn X.K (.ref f) = true) (hb : Binds X.K fd ps []) (tk : Takes X W)
    (ha : PA X (a :: es) (tA g W (args fs))) (hn : fs.length = n := by rfl) (hg : Gl X x := by rfl) (hdb : (x == ("__debug__" : Str)) = false := by decide) (he : starEach (a :: es) X.env = (false, eval a X.env) :: starEach es X.env := by rfl) (hpl : (backTo pos (starEach es X.env)).any (·.1) = false := by rfl) :
    PE X (.Call (.Name x p) (a :: es) [] pos) (tE g W (callF G fs)) := by
  subst hn
  exact pe_imp (pe_callS Fn hr hg hm hk hb (passAt tk) ha hdb he hpl) fun σ H Q h => tE_call h
theorem je_call0 (Fn : FnOk X.prog X.w X.K X.mg X.base (L2.CX X.prog X.w) k f fd ps (spF g 0 G)) (hr : Room k X.A) (hm : X.mg x = some (.ref f)) (hk : PySem.W.keepIn X.K (.ref f) = true) (hb : Binds X.K fd ps []) (tk : Takes X W)
    (hg : Gl X x := by rfl) (hdb : (x == ("__debug__" : Str)) = false := by decide) : PE X (.Call (.Name x p) [] [] pos) (tE g W (callF G [])) := by
  refine ⟨fun pins s σ H Q I h => ?_⟩
  have h2 := tE_call h
  have h3 := (ja_nil (g := g) (W := W) (X := X)).run pos pins s σ H _ I h2
  refine wpAny_Call_Name_kw (ld_glob I hg hm ?_ hdb)
  obtain ⟨F, e, As, s0, h⟩ := h
  have h4 : spF g 0 G [] H Q (WE W σ) := call_core (rs := []) (xs := []) h s0 (B1 := fun _ => False) (.nil fun _ z => z) (fun _ z => z.elim) (fun _ z => z.elim) (.refl fun b z => z.elim id False.elim)
  exact PySem.W.callWith_K0 I.kIn hk (run_fnS (us := []) Fn hr hb (passAt tk σ) I .nil h4)
/-- keywords alone, in the parameters' order -/
theorem run_fnKS {pins : List (Addr × Obj)} {σ : L2.St} {H : Hp} {s : Shared} {Q : VK} {ws : List Value} {zs : List V} {sp : Sp} {E : L2.St → XK} (Fn : FnOk X.prog X.w X.K X.mg X.base (L2.CX X.prog X.w) k f fd ps sp) (hr : Room k X.A)
    (hb : ∀ (s : Shared) (ws : List Value), X.K.In s.heap → ws.length = ps.length → BindsTo s fd ⟨[], ps.zip ws⟩ (ps.zip ws)) (hx : PassesAt (L2.CX X.prog X.w) X σ (E σ))
    (I : Inv X pins σ H s) (rz : Vals zs ws) (h : sp zs H Q (E σ)) : wpAny (model X.prog X.w) X.A (call (.ref f) [] (ps.zip ws)) (EP X pins σ Q) X.xe s := by
  have hl : ws.length = ps.length := by rw [← rz.length]; exact Fn.len _ _ _ _ h
  refine wpAny_call (codeAny_mono (Fn.run X.A X.stack s H ⟨[], ps.zip ws⟩ ws zs Q (E σ) hr I.env0 (hb s ws I.kIn hl) rz h) fun r s' hq => ?_)
  cases r with
  | error e => exact hx pins H s e s' I hq
  | ok fl =>
    cases fl with
    | ret u => exact I.after hq
    | next => exact False.elim hq
    | brk => exact False.elim hq
    | cont => exact False.elim hq
theorem pk_imp {X : Cx} {e : List Keyword} {t t' : TA} (h : PK X e t) (i : ∀ σ H Q, t' σ H Q → t σ H Q) : PK X e t' := ⟨fun pos pins s σ H Q I q => h.run pos pins s σ H Q I (i σ H Q q)⟩
theorem jk_nil : PK X [] (tA g W (args [])) := pk_imp pk_nil fun σ H Q h => by
  obtain ⟨F, e, As, s, h⟩ := h
  exact h F H As (fun _ => False) [] s (.nil fun _ z => z) (fun _ z => z.elim) (fun _ z => z.elim) (.refl fun b z => z.elim id False.elim)
theorem jk_cons {fa : SE RV} {nm : Option Str} {kpos : Pos} (ha : PE X a (tE g W fa)) (hr : PK X kws (tA g W (args fs))) : PK X (⟨nm, a, kpos⟩ :: kws) (tA g W (args (fa :: fs))) := by
  refine pk_imp (pk_cons ha hr) fun σ H Q h => ?_
  obtain ⟨F, e, As, s, h⟩ := h
  refine ⟨F, e, As, s, Post.later (C := fun _ => False) s (.refl fun b z => z.elim id False.elim) h fun ra e1 _ F1 H1 As1 B1 x s1 r1 n1 m1 d1 h1 => ?_⟩
  have ap := r1.apart n1 m1
  have d1' : Dl F (Ow As) H F1 (fun b => Ow As1 b ∨ B1 b) H1 := (Dl.refl (A := Ow As) (A' := Ow As) (fun b z => z)).trans d1
  refine ⟨F1, e1, As1, s1, Post.later (C := B1) s1 d1' h1 fun rs e2 _ F2 H2 As2 B2 y s2 r2 n2 m2 d2 h2 => ?_⟩
  have r1' : RepR g σ F2 H2 x ra B1 := r1.stay (d2.toKeep s1.nfA) fun b o c q => ap.same d2 c q
  have ap2 := ap.step d2
  have dd := d1'.trans (d2.frame (B := B1))
  refine h2 F2 H2 As2 (fun b => B1 b ∨ B2 b) (x :: y) s2 (.cons r1' r2 (fun b z y => ap2.a b z (.inr y)) fun b => Iff.rfl) (fun b z => ?_) (fun b z => ?_) (dd.less fun b z => ?_)
  · rcases z with z | z
    · exact fun y => ap2.a b z (.inl y)
    · exact n2 b z
  · rcases z with z | z
    · exact ap2.f b z
    · exact m2 b z
  · rcases z with z | z | z
    · exact .inl (.inl z)
    · exact .inr z
    · exact .inl (.inr z)
theorem je_callK (Fn : FnOk X.prog X.w X.K X.mg X.base (L2.CX X.prog X.w) k f fd ps (spF g n G)) (hr : Room k X.A) (hm : X.mg x = some (.ref f)) (hk : PySem.W.keepIn X.K (.ref f) = true)
    (hb : ∀ (s : Shared) (ws : List Value), X.K.In s.heap → ws.length = ps.length → BindsTo s fd ⟨[], ps.zip ws⟩ (ps.zip ws)) (tk : Takes X W)
    (hkw : PK X kws (tA g W (args fs))) (hn : fs.length = n := by rfl) (hg : Gl X x := by rfl) (hall : (backToKw pos (keywordEach kws X.env)).all (·.1.isSome) = true := by rfl) (hks : (backToKw pos (keywordEach kws X.env)).filterMap (·.1) = ps := by rfl) (hdb : (x == ("__debug__" : Str)) = false := by decide)
    (hpl : ((backTo pos (starEach [] X.env)).any (·.1) || (backToKw pos (keywordEach kws X.env)).any (·.1.isNone)) = false := by rfl) :
    PE X (.Call (.Name x p) [] kws pos) (tE g W (callF G fs)) := by
  subst hn
  refine ⟨fun pins s σ H Q I h => ?_⟩
  refine wpAny_Call_Name_kw (ld_glob I hg hm ?_ hdb)
  refine PySem.W.callWith_KW0 (h₀ := X.base) I.ok.mod.kin hk hall ?_ hpl
  refine thn (hkw.run pos pins s σ H _ I (tE_call h)) fun ws s2 ⟨zs, H2, I2, rz, q2⟩ => ⟨I2.kIn, ?_⟩
  rw [hks]
  exact run_fnKS Fn hr hb (passAt tk σ) I2 rz q2

/-! ### a def -/
theorem outsOf_at : ∀ {ps : List Bool} {os outs : List OV} {e : Env}, outsOf ps os e = some outs → outs.length = ps.length ∧ ∀ k : Nat, (ps[k]? = some true → ∃ o, e[k]? = some (some o) ∧ outs[k]? = some o) ∧ (ps[k]? = some false → outs[k]? = os[k]?)
  | [], [], outs, e, h => by
    cases h
    exact ⟨rfl, fun k => ⟨fun q => by simp at q, fun q => by simp at q⟩⟩
  | [], _ :: _, outs, e, h => by cases h
  | true :: ps, [], outs, e, h => by cases h
  | false :: ps, [], outs, e, h => by cases h
  | true :: ps, o :: os, outs, [], h => by cases h
  | true :: ps, o :: os, outs, none :: e, h => by cases h
  | true :: ps, o :: os, outs, some o' :: e, h => by
    have h' : (outsOf ps os e).map (o' :: ·) = some outs := h
    obtain ⟨r, h1, h2⟩ := Option.map_eq_some_iff.mp h'
    subst h2
    obtain ⟨l, a⟩ := outsOf_at h1
    refine ⟨by rw [List.length_cons, List.length_cons, l], fun k => ?_⟩
    cases k with
    | zero => exact ⟨fun _ => ⟨o', rfl, rfl⟩, fun q => by cases q⟩
    | succ k => simpa using a k
  | false :: ps, o :: os, outs, [], h => by cases h
  | false :: ps, o :: os, outs, x :: e, h => by
    have h' : (outsOf ps os e).map (o :: ·) = some outs := by cases x <;> exact h
    obtain ⟨r, h1, h2⟩ := Option.map_eq_some_iff.mp h'
    subst h2
    obtain ⟨l, a⟩ := outsOf_at h1
    refine ⟨by rw [List.length_cons, List.length_cons, l], fun k => ?_⟩
    cases k with
    | zero => exact ⟨fun q => (by cases q), fun _ => rfl⟩
    | succ k => simpa using a k
theorem frzUn_at : ∀ {ps : List Bool} {os : List OV}, os.length = ps.length → (frzUn ps os).length = ps.length ∧ ∀ k : Nat, (ps[k]? = some true → (frzUn ps os)[k]? = os[k]?) ∧ (ps[k]? = some false → ∃ o, os[k]? = some o ∧ (frzUn ps os)[k]? = some (.val o.frz))
  | [], [], _ => ⟨rfl, fun k => ⟨fun q => by simp at q, fun q => by simp at q⟩⟩
  | [], _ :: _, h => by simp at h
  | _ :: _, [], h => by simp at h
  | true :: ps, o :: os, h => by
    obtain ⟨l, a⟩ := frzUn_at (ps := ps) (os := os) (by simpa using h)
    refine ⟨by unfold frzUn; rw [List.length_cons, List.length_cons, l], fun k => ?_⟩
    unfold frzUn
    cases k with
    | zero => exact ⟨fun _ => rfl, fun q => by cases q⟩
    | succ k => simpa using a k
  | false :: ps, o :: os, h => by
    obtain ⟨l, a⟩ := frzUn_at (ps := ps) (os := os) (by simpa using h)
    refine ⟨by unfold frzUn; rw [List.length_cons, List.length_cons, l], fun k => ?_⟩
    unfold frzUn
    cases k with
    | zero => exact ⟨fun q => (by cases q), fun _ => ⟨o, rfl, rfl⟩⟩
    | succ k => simpa using a k
theorem start_at {N : List Str} {vs : List V} {k : Nat} (h : k < vs.length) : (L2.start N vs)[k]? = some (vs[k]?) := by
  unfold L2.start
  rw [List.getElem?_append_left (by simpa using h), List.getElem?_map, List.getElem?_eq_getElem h]
  rfl
theorem start_len {N : List Str} {vs : List V} (h : vs.length ≤ N.length) : (L2.start N vs).length = N.length := by
  unfold L2.start
  rw [List.length_append, List.length_map, List.length_replicate]
  omega

/-- the body's wish from the def's -/
theorem fn_body {N : List Str} {vs : List V} {Q : VK} {E : XK} {pn : List Bool} {bf : SS} {np : Nat} (hnp : pn.length = np) (h : spF g np (mkF N.length pn bf) vs H Q E) : tS g (fun cls d _ H => E cls d H) (fun i => pn.getD i false) bf { nx := fun _ H' => Q .non H', rt := Q } (L2.start N vs) H := by
  subst hnp
  obtain ⟨hl, F, os0, Bs, sF, h⟩ := h
  unfold mkF at h
  split at h
  case isFalse => exact h.elim
  rename_i hc
  obtain ⟨hos, hN⟩ := hc
  dsimp only at h
  obtain ⟨fl, fa⟩ := frzUn_at hos
  generalize hq : frzUn pn os0 = os at h fl fa
  have ol : os.length = vs.length := by omega
  -- the start
  let F1 : Addr → Prop := fun b => F b ∨ ∃ k : Nat, pn[k]? = some false ∧ Bs k b
  let As1 : Nat → Addr → Prop := fun k b => pn[k]? = some true ∧ Bs k b
  have kp : Keep F H F1 H := ⟨fun _ => .inl, fun _ _ e => e, fun _ _ _ e => e, fun _ _ _ e => e⟩
  have cs : ∀ k : Nat, k < pn.length → pn[k]? = some true ∨ pn[k]? = some false := fun k hk => by
    rw [List.getElem?_eq_getElem hk]
    cases pn[k]
    · exact .inr rfl
    · exact .inl rfl
  have rep : ∀ (k : Nat) (o : OV), os[k]? = some o → ∃ v, vs[k]? = some v ∧ RepO g F1 H v o (As1 k) := fun k o q => by
    have hk : k < pn.length := by rw [← fl]; exact (List.getElem?_eq_some_iff.mp q).1
    rcases cs k hk with z | z
    · have q0 := (fa k).1 z
      rw [q] at q0
      obtain ⟨v, hv, r⟩ := sF.slot k o (by rw [List.getElem?_map, ← q0]; rfl)
      rw [List.getElem?_map] at hv
      cases hv' : vs[k]? with
      | none => rw [hv'] at hv; cases hv
      | some v' =>
        rw [hv'] at hv
        cases hv
        refine ⟨v, rfl, ?_⟩
        have e3 : As1 k = Bs k := by
          funext b
          exact propext ⟨fun x => x.2, fun x => ⟨z, x⟩⟩
        rw [e3]
        exact r.stay kp fun _ _ _ e => e
    · obtain ⟨o0, q0, q1⟩ := (fa k).2 z
      rw [q] at q1
      cases q1
      obtain ⟨v, hv, r⟩ := sF.slot k o0 (by rw [List.getElem?_map, q0]; rfl)
      rw [List.getElem?_map] at hv
      cases hv' : vs[k]? with
      | none => rw [hv'] at hv; cases hv
      | some v' =>
        rw [hv'] at hv
        cases hv
        refine ⟨v, rfl, r.frz.keep ⟨fun b x => ?_, fun _ _ e => e, fun _ _ _ e => e, fun _ _ _ e => e⟩, fun b x => ?_⟩
        · rcases x with x | x
          · exact .inl x
          · exact .inr ⟨k, z, x⟩
        · have x1 := x.1
          rw [z] at x1
          cases x1
  have s1 : Sim g F1 H (L2.start N vs) (os.map some ++ List.replicate (N.length - pn.length) none) As1 := by
    refine ⟨?_, fun k o q => ?_, fun k q b z => ?_, fun k k' b z y => sF.dis k k' b z.2 y.2, fun k b z f => ?_, fun b f => ?_⟩
    · unfold L2.start
      rw [List.length_append, List.length_append, List.length_map, List.length_map, List.length_replicate, List.length_replicate]
      omega
    · by_cases hk : k < os.length
      · rw [List.getElem?_append_left (by simpa using hk), List.getElem?_map] at q
        cases qo : os[k]? with
        | none => rw [qo] at q; cases q
        | some o' =>
          rw [qo] at q
          cases q
          obtain ⟨v, hv, r⟩ := rep k o qo
          exact ⟨v, by rw [start_at (by omega), hv], r⟩
      · rw [List.getElem?_append_right (by simpa using hk), List.getElem?_replicate] at q
        split at q <;> cases q
    · have hk : k < os.length := by
        have := (List.getElem?_eq_some_iff.mp z.1).1
        omega
      exact q os[k] (by rw [List.getElem?_append_left (by simpa using hk), List.getElem?_map, List.getElem?_eq_getElem hk]; rfl)
    · rcases f with f | ⟨k', z', f⟩
      · exact sF.nf k b z.2 f
      · have := sF.dis k k' b z.2 f
        subst this
        have z1 := z.1
        rw [z'] at z1
        cases z1
    · rcases f with f | ⟨k', _, f⟩
      · exact sF.fl b f
      · exact (sF.kind ⟨k', f⟩).live
  have d0 : Dl F (Ow Bs) H F1 (Ow As1) H := ⟨kp.mono, fun _ _ e _ => e, fun _ e => e, fun b ⟨k, z⟩ => .inl ⟨k, z.2⟩, fun b z => z.imp id (fun ⟨k, _, z⟩ => .inl ⟨k, z⟩), fun _ _ e => e, fun _ _ _ e => e⟩
  -- the ends
  have fin : ∀ {F' : Addr → Prop} {H' : Hp} {σ' : L2.St} {As' : Nat → Addr → Prop} {e' : Env} {outs : List OV}, Sim g F' H' σ' e' As' → PinsEq (fun i => pn.getD i false) (L2.start N vs) σ' → Dl F1 (Ow As1) H F' (Ow As') H' → outsOf pn os e' = some outs →
      Sim g F' H' (vs.map some) (outs.map some) (fun k b => pn[k]? = some true ∧ As' k b) := fun {F' H' σ' As' e' outs} s' p d ho => by
    obtain ⟨hlen, hat⟩ := outsOf_at ho
    refine ⟨by rw [List.length_map, List.length_map]; omega, fun k o q => ?_, fun k q b z => ?_, fun k k' b z y => s'.dis k k' b z.2 y.2, fun k b z => s'.nf k b z.2, s'.fl⟩
    · rw [List.getElem?_map] at q
      cases qo : outs[k]? with
      | none => rw [qo] at q; cases q
      | some o' =>
        rw [qo] at q
        cases q
        have hk : k < pn.length := by rw [← hlen]; exact (List.getElem?_eq_some_iff.mp qo).1
        rcases cs k hk with z | z
        · obtain ⟨o2, h1, h2⟩ := (hat k).1 z
          rw [qo] at h2
          cases h2
          obtain ⟨v', hv', r⟩ := s'.slot k o h1
          have hp := p.eq k (by show pn.getD k false = true; rw [List.getD_eq_getElem?_getD, z]; rfl)
          rw [hv', start_at (by omega)] at hp
          have hv2 : vs[k]? = some v' := (Option.some.inj hp).symm
          refine ⟨v', by rw [List.getElem?_map, hv2]; rfl, ?_⟩
          have e3 : (fun b => pn[k]? = some true ∧ As' k b) = As' k := by
            funext b
            exact propext ⟨fun x => x.2, fun x => ⟨z, x⟩⟩
          rw [e3]
          exact r
        · have h2 := (hat k).2 z
          rw [qo] at h2
          obtain ⟨o0, q0, q1⟩ := (fa k).2 z
          rw [← h2] at q1
          cases q1
          obtain ⟨v, hv, r⟩ := rep k _ h2.symm
          refine ⟨v, by rw [List.getElem?_map, hv]; rfl, r.1.keep (d.toKeep s1.nfA), fun b x => ?_⟩
          have x1 := x.1
          rw [z] at x1
          cases x1
    · have hk : k < outs.length := by
        have := (List.getElem?_eq_some_iff.mp z.1).1
        omega
      exact q outs[k] (by rw [List.getElem?_map, List.getElem?_eq_getElem hk]; rfl)
  refine ⟨F1, _, As1, s1, ?_⟩
  cases qb : bf (os.map some ++ List.replicate (N.length - pn.length) none) with
  | nx e' =>
    rw [qb] at h
    intro F' H' σ' As' s' p d
    dsimp only at h
    unfold endF at h
    split at h
    case h_2 => exact h.elim
    rename_i outs ho
    refine h F' H' _ (fun _ => False) .non (fin s' p d ho) ⟨.non, fun _ z => z⟩ (fun _ z => z.elim) (fun _ z => z.elim) ((d0.trans d).less fun b z => ?_)
    rcases z with ⟨k, z⟩ | z
    · exact ⟨k, z.2⟩
    · exact z.elim
  | rt r e' =>
    rw [qb] at h
    cases r with
    | v o =>
      intro F' H' σ' As' B v s' p r n m d
      dsimp only at h
      unfold endF at h
      split at h
      case h_2 => exact h.elim
      rename_i outs ho
      have d' := d.less (B := Ow As') fun b z => .inl z
      refine h F' H' _ B v (fin s' p d' ho) r (fun b z ⟨k, y⟩ => n b z ⟨k, y.2⟩) m ((d0.trans d).less fun b z => ?_)
      rcases z with ⟨k, z⟩ | z
      · exact .inl ⟨k, z.2⟩
      · exact .inr z
    | b i =>
      intro F' H' σ' As' B v s' p r n m d
      obtain ⟨hvi, nb⟩ : σ'[i]? = some (some v) ∧ ∀ b, ¬B b := r
      have d' := d.less (B := Ow As') fun b z => .inl z
      dsimp only at h
      split at h
      case h_2 => exact h.elim
      rename_i o qo
      by_cases hpi : pn[i]? = some true
      · rw [if_pos hpi] at h
        unfold endF at h
        split at h
        case h_2 => exact h.elim
        rename_i outs ho
        obtain ⟨s3, r3⟩ := s'.give qo hvi
        have d3 : Dl F1 (Ow As1) H (fun b => F' b ∨ As' i b) (Ow fun j b => j ≠ i ∧ As' j b) H' := by
          refine d'.trans ⟨fun _ => .inl, fun _ _ e _ => e, fun _ e => e, fun b z => ?_, fun b z => ?_, fun _ _ e => e, fun _ _ _ e => e⟩
          · obtain ⟨j, z⟩ := z
            exact .inl ⟨j, z.2⟩
          · rcases z with z | z
            · exact .inl z
            · exact .inr (.inl ⟨i, z⟩)
        refine h _ H' _ (fun _ => False) v (fin s3 p d3 ho) ⟨r3, fun _ z => z⟩ (fun _ z => z.elim) (fun _ z => z.elim) ((d0.trans d3).less fun b z => ?_)
        rcases z with ⟨k, z⟩ | z
        · exact ⟨k, z.2⟩
        · exact z.elim
      · rw [if_neg hpi] at h
        unfold endF at h
        split at h
        case h_2 => exact h.elim
        rename_i outs ho
        obtain ⟨v', hv', ro⟩ := s'.slot i o qo
        rw [hvi] at hv'
        cases hv'
        have s3 := s'.drop i
        have p3 : PinsEq (fun i => pn.getD i false) (L2.start N vs) (σ'.set i none) := by
          refine p.trans (PinsEq.set ?_)
          show pn.getD i false = false
          rw [List.getD_eq_getElem?_getD]
          cases qq : pn[i]? with
          | none => rfl
          | some bb =>
            cases bb with
            | false => rfl
            | true => exact absurd qq hpi
        have d3 : Dl F1 (Ow As1) H F' (Ow fun j b => j ≠ i ∧ As' j b) H' := d'.less fun b ⟨j, z⟩ => ⟨j, z.2⟩
        refine h F' H' _ (As' i) v (fin s3 p3 d3 ho) ro (fun b z ⟨k, y⟩ => y.2.1 (s'.dis i k b z y.2.2).symm) (fun b z => s'.nf i b z) ((d0.trans d').less fun b z => ?_)
        rcases z with ⟨k, z⟩ | z
        · exact ⟨k, z.2.2⟩
        · exact ⟨i, z⟩
  | exc x e' =>
    rw [qb] at h
    intro F' H' σ' As' cls dd s' p d r
    dsimp only at h
    unfold endX at h
    split at h
    case h_2 => exact h.elim
    rename_i outs ho
    exact h F' H' _ cls dd (fin s' p d ho) ((d0.trans d).less fun b ⟨k, z⟩ => ⟨k, z.2⟩) r
  | bk e' => rw [qb] at h; exact h.elim
  | ct e' => rw [qb] at h; exact h.elim
  | bad => rw [qb] at h; exact h.elim
theorem fn_ok {P : Program} {K : PySem.W.Frag} {mg : Str → Option Value} {base : Heap} {qual : Str} {params : Arguments} {body : List Stmt} {scope : Scope} {N : List Str} {kws : List (Str × V)} {w : World} {bf : SS}
    (Fd : FunD K x qual params body scope [] kws f fd) (S : FnScope N ps scope) (pn : List Bool) (hpn : pn.length = ps.length)
    (hb : ∀ (cdv : Value) (A : Around) (outer : List PySem.Env) (s : Shared) (H : Hp) (E : XK), Room k (A.deeper (envOfC qual scope s.heap.objs.size f cdv)) →
      PSs (cxOf (L2.CX P w) P w K mg base N qual scope f cdv A outer s H E) body (tS g (fun cls d _ H => E cls d H) (fun i => pn.getD i false) bf)) :
    FnOk P w K mg base (L2.CX P w) (k + 1) f fd ps (spF g ps.length (mkF N.length pn bf)) :=
  Fd.ok S (fun vs H Q E h => h.1) fun cdv A outer s H vs Q E hr h => ⟨_, hb cdv A outer s H E hr, fn_body hpn h⟩
end
end Mv
end
/-! file MvB -/
section
set_option linter.all false
set_option autoImplicit false
set_option maxRecDepth 100000
/-! Mv, part B: the built-in operations are those of the model. -/
namespace Mv
open PySem PySem.Spec PyProof.Rows L2

section
variable {g : Gi} {W : WX} {F F1 F2 : Addr → Prop} {H H1 H2 : Hp} {X : Cx}

theorem S2.or {r r' : R2} {op : PV → PV → Option OV} (h : ∀ F H x y p q o Q, RepV g F H x p → RepV g F H y q → op p q = some o → Fin g F H o Q → r x y H Q ∨ r' x y H Q) : S2 g (fun x y H Q => r x y H Q ∨ r' x y H Q) op := h

/-! ### ints -/
theorem s_sub : S2 g (rI0 fun i j => .int (i - j)) subP := fun F H x y p q o Q hx hy e f => by
  unfold subP at e
  split at e
  · cases e; exact ⟨_, _, hx.int, hy.int, f.val (.int _)⟩
  · cases e
theorem s_fdiv : S2 g (rI CDiv fun i j => .int (i / j)) fdivP := fun F H x y p q o Q hx hy e f => by
  unfold fdivP at e
  split at e
  · split at e
    · rename_i i j hc
      cases e; exact ⟨_, _, hx.int, hy.int, hc, f.val (.int _)⟩
    · cases e
  · cases e
theorem s_mod : S2 g (rI (fun _ j => 0 < j) fun i j => .int (i % j)) modP := fun F H x y p q o Q hx hy e f => by
  unfold modP at e
  split at e
  · split at e
    · rename_i i j hc
      cases e; exact ⟨_, _, hx.int, hy.int, hc, f.val (.int _)⟩
    · cases e
  · cases e
theorem s_pow : S2 g (rI CPow fun i j => .int (i ^ j.toNat)) powP := fun F H x y p q o Q hx hy e f => by
  unfold powP at e
  split at e
  · split at e
    · rename_i i j hc
      cases e; exact ⟨_, _, hx.int, hy.int, hc, f.val (.int _)⟩
    · cases e
  · cases e
theorem s_neg : S1 g (rU fun i => .int (-i)) negP := fun F H x p o Q hx e f => by
  unfold negP at e
  split at e
  · cases e; exact ⟨_, hx.int, f.val (.int _)⟩
  · cases e
theorem s_cmp {f : PV → PV → Option Bool} {k : Int → Int → Bool} (h : ∀ p q b, f p q = some b → ∃ i j, p = .int i ∧ q = .int j ∧ b = k i j) : S2 g (rI0 fun i j => .bl (k i j)) fun p q => (f p q).map fun b => .val (.bl b) := fun F H x y p q o Q hx hy e ff => by
  obtain ⟨b, e1, e2⟩ := Option.map_eq_some_iff.mp e
  obtain ⟨i, j, rfl, rfl, rfl⟩ := h p q b e1
  subst e2
  exact ⟨_, _, hx.int, hy.int, ff.val (.bl _)⟩
theorem s_lt : S2 g (rI0 fun i j => .bl (decide (i < j))) fun p q => (ltB p q).map fun b => .val (.bl b) := s_cmp fun p q b e => by
  unfold ltB at e; split at e <;> cases e; exact ⟨_, _, rfl, rfl, rfl⟩
theorem s_le : S2 g (rI0 fun i j => .bl (decide (i ≤ j))) fun p q => (leB p q).map fun b => .val (.bl b) := s_cmp fun p q b e => by
  unfold leB at e; split at e <;> cases e; exact ⟨_, _, rfl, rfl, rfl⟩
theorem s_gt : S2 g (rI0 fun i j => .bl (decide (j < i))) fun p q => (gtB p q).map fun b => .val (.bl b) := s_cmp fun p q b e => by
  unfold gtB at e; split at e <;> cases e; exact ⟨_, _, rfl, rfl, rfl⟩
theorem s_ge : S2 g (rI0 fun i j => .bl (decide (j ≤ i))) fun p q => (geB p q).map fun b => .val (.bl b) := s_cmp fun p q b e => by
  unfold geB at e; split at e <;> cases e; exact ⟨_, _, rfl, rfl, rfl⟩
theorem RepV.isN {x : V} {p : PV} (hx : RepV g F H x p) : decide (x = V.non) = isNon p := by
  cases p with
  | non => rw [hx.non]; rfl
  | bl b => rw [hx.bl]; rfl
  | int b => rw [hx.int]; rfl
  | str b => rw [hx.str]; rfl
  | tup b => obtain ⟨a, vs, rfl, _⟩ := hx.tup; rfl
  | lst b => obtain ⟨a, vs, rfl, _⟩ := hx.lst; rfl
  | dic b => obtain ⟨a, vs, rfl, _⟩ := hx.dic; rfl
  | fn b => obtain ⟨a, rfl, _⟩ := hx.fn; rfl
  | ty b => rw [hx.ty]; rfl
  | scr b => obtain ⟨a, rfl, _⟩ := hx.scr; rfl
theorem s_isN : S2 g (fun x y H Q => y = .non ∧ Q (.bl (decide (x = .non))) H) isNP := fun F H x y p q o Q hx hy e f => by
  unfold isNP at e
  split at e
  · cases e
    refine ⟨hy.non, ?_⟩
    rw [hx.isN]
    exact f.val (.bl _)
  · cases e
theorem s_notN : S2 g (fun x y H Q => y = .non ∧ Q (.bl (!decide (x = .non))) H) notNP := fun F H x y p q o Q hx hy e f => by
  unfold notNP at e
  split at e
  · cases e
    refine ⟨hy.non, ?_⟩
    rw [hx.isN]
    exact f.val (.bl _)
  · cases e

/-! ### +, * of tuples, lists, texts -/
/-- list + list, read alone -/
def rCatL : R2 := fun x y H Q => ∃ l b xs zs, x = .ref l ∧ y = .ref b ∧ Rd H l (.lst xs) ∧ Rd H b (.lst zs) ∧ xs.length + zs.length ≤ sizeLine ∧ ∀ p, H p = none → Q (.ref p) (upd H p (.lst (xs ++ zs)))
theorem op_catL : OpR X (binaryOp .Add) rCatL := by
  intro pins s σ H x y v u Q I rx ry h
  obtain ⟨l, b, xs, zs, rfl, rfl, hH, hB, hz, q⟩ := h
  cases rx
  cases ry
  obtain ⟨z, its, n, r, e⟩ := hH.ok I.hok
  obtain ⟨z2, its2, n2, r2, e2⟩ := hB.ok I.hok
  have hl := r.length
  have hl2 := r2.length
  refine PySem.P.add_list e e2 ?_ (by rw [List.size_toArray, List.size_toArray]; omega)
  have ea : its.toArray ++ its2.toArray = (its ++ its2).toArray := by simp
  rw [ea]
  exact ⟨.ref _, _, I.lnew (t' := s.toks) (r.append r2) (by rw [List.length_append]; omega), rfl, q _ I.fresh⟩
def rAddA (K : PySem.W.Frag) : R2 := fun x y H Q => ((rI0 fun i j => V.int (i + j)) x y H Q ∨ rCatA K x y H Q) ∨ (rCatL x y H Q ∨ (∃ i j, x = V.str i ∧ y = V.str j ∧ i.length + j.length ≤ sizeLine ∧ Q (.str (i ++ j)) H))
theorem op_addA : OpR X (binaryOp .Add) (rAddA X.K) := (op_add.or op_catA).or (op_catL.or op_add_str)
theorem RepPs.nil_iff {vs : List V} {xs : List PV} (r : RepPs g F H vs xs) : vs = [] ↔ xs = [] := by
  cases r with
  | nil => simp
  | cons _ _ => simp
theorem s_add (hK : X.K = g.K) : S2 g (rAddA X.K) addP := fun F H x y p q o Q hx hy e f => by
  unfold addP at e
  split at e
  · cases e; exact .inl (.inl ⟨_, _, hx.int, hy.int, f.val (.int _)⟩)
  · split at e
    · rename_i xs ys hl
      cases e
      obtain ⟨a, vs, rfl, h1, r1⟩ := hx.tup
      obtain ⟨b, us, rfl, h2, r2⟩ := hy.tup
      refine .inl (.inr ⟨a, b, vs, us, rfl, rfl, by rw [hK]; exact h1, by rw [hK]; exact h2, by rw [r1.length, r2.length, sizeLine_eq]; exact hl, fun z => ?_, fun z z' => ?_, fun z z' p hp => f.newT (r1.app r2) hp⟩)
      · have e1 := r1.nil_iff.mp z
        subst e1
        exact f.val (.tup h2 r2)
      · have e1 := r2.nil_iff.mp z'
        subst e1
        rw [List.append_nil] at f
        exact f.val (.tup h1 r1)
    · cases e
  · split at e
    · rename_i xs ys hl
      cases e
      obtain ⟨a, vs, rfl, h1, r1⟩ := hx.lst
      obtain ⟨b, us, rfl, h2, r2⟩ := hy.lst
      exact .inr (.inl ⟨a, b, vs, us, rfl, rfl, h1, h2, by rw [r1.length, r2.length, sizeLine_eq]; exact hl, fun p hp => f.new (r1.app r2) hp⟩)
    · cases e
  · split at e
    · rename_i s t hl
      cases e
      exact .inr (.inr ⟨_, _, hx.str, hy.str, by rw [sizeLine_eq]; exact hl, f.val (.str _)⟩)
    · cases e
  · cases e
/-- a list times an int -/
def rRepL : R2 := fun x y H Q => ∃ l k xs, x = .ref l ∧ y = .int k ∧ Rd H l (.lst xs) ∧ -(2 ^ 63) ≤ k ∧ k < 2 ^ 63 ∧ xs.length * k.toNat ≤ sizeLine ∧
  ∀ p, H p = none → Q (.ref p) (upd H p (.lst (List.replicate k.toNat xs).flatten))
theorem op_repL : OpR X (binaryOp .Mult) rRepL := by
  intro pins s σ H x y v u Q I rx ry ⟨l, k, xs, ex, ey, hH, h1, h2, hz, q⟩
  subst ex; subst ey
  cases rx
  obtain ⟨t, rfl⟩ := ry
  obtain ⟨z, its, n, r, e⟩ := hH.ok I.hok
  have hl := r.length
  have len : its.toArray.size * k.toNat ≤ sizeLine := by rw [List.size_toArray, ← hl]; exact hz
  have cap : ¬ its.toArray.size * k.toNat > (2 ^ 63 - 1) / 8 := Nat.not_lt.mpr (Nat.le_trans len (by decide))
  have fit : ¬ (!Builtin.List.listFitsIndex k) = true := by rw [fitsIndex_both h1 h2]; decide
  have long : ¬ Builtin.List.listTooLong (its.toArray.size * k.toNat) = true := by rw [notLongL len]; decide
  have f0 : ∀ m : Nat, List.foldl (fun x1 x2 => x1 ++ x2) #[] (List.replicate m its.toArray) = (List.replicate m its).flatten.toArray := fun m => by
    have q := foldl_rep its m []
    rwa [List.nil_append] at q
  have new : List.foldl (fun x1 x2 => x1 ++ x2) #[] (List.replicate (if its.toArray.isEmpty = true then 0 else k.toNat) its.toArray) = (List.replicate k.toNat its).flatten.toArray := by
    rw [f0]
    cases its with
    | nil => simp
    | cons a b => simp
  refine wpAny_binaryOp_repeat_ref (T := "list") (U := "int") (by decide) ⟨_, e, rfl⟩ (fun s' => typeIs_int s' k t) noFill_list_mul F.fills_int_mul F.slot_int_rmul repeat_list F.slot_int_index.lookup
    (call_meets F.slot_int_rmul (typeIs_int s k t) F.entry_int_rmul (F.args_int_rmul_2 _ _) (int___rmul___int_list k t l its.toArray n) ⟨e, rfl, ⟨_, e, rfl⟩,
      call_meets F.slot_list_mul ⟨_, e, rfl⟩ F.entry_list_mul (F.args_list_mul_2 _ _) (AutoListH.list___mul___list_int_3 l its.toArray n k t fit cap long) ⟨e, ?_⟩⟩)
  rw [new]
  exact ⟨.ref _, _, I.lnew (t' := s.toks) (r.rep k.toNat) (by rw [PyProof.Rows.lm_len_rep_flat, Nat.mul_comm]; exact hz), rfl, q _ I.fresh⟩
def rMulA (K : PySem.W.Frag) : R2 := fun x y H Q => (rI CMul (fun i j => V.int (i * j))) x y H Q ∨ (rRepT K x y H Q ∨ rRepL x y H Q)
theorem op_mulA : OpR X (binaryOp .Mult) (rMulA X.K) := op_mul.or (op_repT.or op_repL)
theorem RepPs.rep {vs : List V} {xs : List PV} (r : RepPs g F H vs xs) : ∀ k : Nat, RepPs g F H (List.replicate k vs).flatten (List.replicate k xs).flatten
  | 0 => .nil
  | k + 1 => by
    rw [List.replicate_succ, List.replicate_succ, List.flatten_cons, List.flatten_cons]
    exact r.app (RepPs.rep r k)
theorem s_mul (hK : X.K = g.K) : S2 g (rMulA X.K) mulP := fun F H x y p q o Q hx hy e f => by
  unfold mulP at e
  split at e
  · split at e
    · rename_i i j hc
      cases e
      refine .inl ⟨i, j, hx.int, hy.int, ?_, f.val (.int _)⟩
      rw [Bool.or_eq_true] at hc
      exact hc.imp (fun z => of_decide_eq_true z) fun z => of_decide_eq_true z
    · cases e
  · split at e
    · rename_i xs k hc
      cases e
      obtain ⟨a, vs, rfl, h1, r1⟩ := hx.tup
      exact .inr (.inl ⟨a, k, vs, rfl, hy.int, by rw [hK]; exact h1, fun z => hc.1 (r1.nil_iff.mp z), hc.2.1, hc.2.2.1, by rw [r1.length]; exact hc.2.2.2, fun p hp => f.newT (r1.rep _) hp⟩)
    · cases e
  · split at e
    · rename_i xs k hc
      cases e
      obtain ⟨a, vs, rfl, h1, r1⟩ := hx.lst
      exact .inr (.inr ⟨a, k, vs, rfl, hy.int, h1, hc.1, hc.2.1, by rw [r1.length, sizeLine_eq]; exact hc.2.2, fun p hp => f.new (r1.rep _) hp⟩)
    · cases e
  · cases e

/-! ### equality, membership -/
def toD : PV → PyData
  | .non => .none
  | .bl b => .bool b
  | .int i => .int i
  | .str s => .str s
  | .tup xs => .tuple (toDs xs)
  | .lst xs => .list (toDs xs)
  | _ => .none
where toDs : List PV → List PyData
  | [] => []
  | x :: xs => toD x :: toDs xs
theorem okD_ok : ∀ (n : Nat) (p : PV), okD n p = true → (toD p).canLay0 = true ∧ (toD p).depth ≤ n := by
  have all : ∀ (n : Nat), (∀ p : PV, okD n p = true → (toD p).canLay0 = true ∧ (toD p).depth ≤ n) → ∀ xs : List PV, xs.all (okD n) = true → PyData.canLayAll0 (toD.toDs xs) = true ∧ PyData.depthAll (toD.toDs xs) ≤ n := fun n ih xs => by
    induction xs with
    | nil => exact fun _ => ⟨rfl, Nat.zero_le _⟩
    | cons x xs ihx =>
      intro h
      rw [List.all_cons, Bool.and_eq_true] at h
      obtain ⟨a1, a2⟩ := ih x h.1
      obtain ⟨b1, b2⟩ := ihx h.2
      unfold toD.toDs
      unfold PyData.canLayAll0 PyData.depthAll
      exact ⟨by rw [a1, b1]; rfl, Nat.max_le.mpr ⟨a2, b2⟩⟩
  intro n
  induction n with
  | zero =>
    intro p h
    cases p with
    | non => exact ⟨by simp [toD, PyData.canLay0], by simp [toD, PyData.depth]⟩
    | bl b => exact ⟨by simp [toD, PyData.canLay0], by simp [toD, PyData.depth]⟩
    | int i => exact ⟨by simp [toD, PyData.canLay0], by simp [toD, PyData.depth]⟩
    | str s => exact ⟨by simp only [toD, PyData.canLay0]; exact h, by simp [toD, PyData.depth]⟩
    | _ => cases h
  | succ n ih =>
    intro p h
    cases p with
    | non => exact ⟨by simp [toD, PyData.canLay0], by simp [toD, PyData.depth]⟩
    | bl b => exact ⟨by simp [toD, PyData.canLay0], by simp [toD, PyData.depth]⟩
    | int i => exact ⟨by simp [toD, PyData.canLay0], by simp [toD, PyData.depth]⟩
    | str s => exact ⟨by simp only [toD, PyData.canLay0]; exact h, by simp [toD, PyData.depth]⟩
    | tup xs =>
      obtain ⟨a, b⟩ := all n ih xs h
      exact ⟨by simp only [toD, PyData.canLay0]; exact a, by simp only [toD, PyData.depth]; omega⟩
    | lst xs =>
      obtain ⟨a, b⟩ := all n ih xs h
      exact ⟨by simp only [toD, PyData.canLay0]; exact a, by simp only [toD, PyData.depth]; omega⟩
    | _ => cases h
theorem okDs_ok {n : Nat} {xs : List PV} (h : xs.all (okD n) = true) : PyData.canLayAll0 (toD.toDs xs) = true ∧ PyData.depthAll (toD.toDs xs) ≤ n := by
  have := okD_ok (n + 1) (.tup xs) h
  simp only [toD, PyData.canLay0, PyData.depth] at this
  exact ⟨this.1, by omega⟩
theorem okD_shaped {p : PV} (h : okD 64 p = true) : SeqAt.shaped (toD p) = true := by
  obtain ⟨a, b⟩ := okD_ok 64 p h
  unfold SeqAt.shaped
  rw [a, decide_eq_true b]
  rfl
/-- no dict, no def, no type within -/
def pure : PV → Bool
  | .dic _ => false
  | .fn _ => false
  | .ty _ => false
  | .scr _ => false
  | .tup xs => pures xs
  | .lst xs => pures xs
  | _ => true
where pures : List PV → Bool
  | [] => true
  | x :: xs => pure x && pures xs
theorem okD_pure : ∀ (n : Nat) (p : PV), okD n p = true → Mv.pure p = true := by
  have all : ∀ (n : Nat), (∀ p : PV, okD n p = true → Mv.pure p = true) → ∀ xs : List PV, xs.all (okD n) = true → Mv.pure.pures xs = true := fun n ih xs => by
    induction xs with
    | nil => exact fun _ => rfl
    | cons x xs ihx =>
      intro h
      rw [List.all_cons, Bool.and_eq_true] at h
      unfold Mv.pure.pures
      rw [ih x h.1, ihx h.2]
      rfl
  intro n
  induction n with
  | zero => intro p h; cases p <;> first | rfl | cases h
  | succ n ih =>
    intro p h
    cases p with
    | tup xs => exact all n ih xs h
    | lst xs => exact all n ih xs h
    | _ => first | rfl | cases h
mutual
theorem peq_eqv : ∀ (p q : PV), Mv.pure p = true → Mv.pure q = true → PyData.eqv (toD p) (toD q) = peq p q
  | .non, q, _, hq => by cases q <;> first | rfl | cases hq | simp [toD, PyData.eqv, peq]
  | .bl a, q, _, hq => by cases q <;> first | rfl | cases hq | simp [toD, PyData.eqv, peq]
  | .int i, q, _, hq => by cases q <;> first | rfl | cases hq | simp [toD, PyData.eqv, peq]
  | .str x, q, _, hq => by cases q <;> first | rfl | cases hq | simp [toD, PyData.eqv, peq]
  | .tup xs, q, hp, hq => by
    cases q with
    | tup ys => simp only [toD, PyData.eqv, peq]; exact peqs_eqv xs ys hp hq
    | _ => first | rfl | cases hq | simp [toD, PyData.eqv, peq]
  | .lst xs, q, hp, hq => by
    cases q with
    | lst ys => simp only [toD, PyData.eqv, peq]; exact peqs_eqv xs ys hp hq
    | _ => first | rfl | cases hq | simp [toD, PyData.eqv, peq]
  | .dic _, _, hp, _ => by cases hp
  | .fn _, _, hp, _ => by cases hp
  | .ty _, _, hp, _ => by cases hp
  | .scr _, _, hp, _ => by cases hp
theorem peqs_eqv : ∀ (xs ys : List PV), Mv.pure.pures xs = true → Mv.pure.pures ys = true → PyData.eqvAll (toD.toDs xs) (toD.toDs ys) = peqs xs ys
  | [], ys, _, _ => by cases ys <;> simp [toD.toDs, PyData.eqvAll, peqs]
  | x :: xs, [], _, _ => by simp [toD.toDs, PyData.eqvAll, peqs]
  | x :: xs, y :: ys, hp, hq => by
    have hp' : (Mv.pure x && Mv.pure.pures xs) = true := hp
    have hq' : (Mv.pure y && Mv.pure.pures ys) = true := hq
    rw [Bool.and_eq_true] at hp' hq'
    simp only [toD.toDs, PyData.eqvAll, peqs]
    rw [peq_eqv x y hp'.1 hq'.1, peqs_eqv xs ys hp'.2 hq'.2]
end
mutual
theorem RepP.dp : ∀ {v : V} {p : PV}, RepP g F H v p → Mv.pure p = true → Dp g.K H v (toD p)
  | _, _, .non, _ => .non
  | _, _, .bl b, _ => .bl b
  | _, _, .int i, _ => .int i
  | _, _, .str s, _ => .str s
  | _, _, .tup h r, hp => .tup h (RepPs.dp r hp)
  | _, _, .lst f h r, hp => .lst (.inl h) (RepPs.dp r hp)
  | _, _, .dic _ _ _ _, hp => by cases hp
  | _, _, .fn _, hp => by cases hp
  | _, _, .ty _, hp => by cases hp
  | _, _, .scr _, hp => by cases hp
theorem RepPs.dp : ∀ {vs : List V} {xs : List PV}, RepPs g F H vs xs → Mv.pure.pures xs = true → DpAll g.K H vs (toD.toDs xs)
  | _, _, .nil, _ => .nil
  | _, _, .cons h r, hp => by
    have hp' : (Mv.pure _ && Mv.pure.pures _) = true := hp
    rw [Bool.and_eq_true] at hp'
    exact .cons (RepP.dp h hp'.1) (RepPs.dp r hp'.2)
end
theorem RepV.dp {v : V} {p : PV} (h : RepV g F H v p) (hp : Mv.pure p = true) : Dp g.K H v (toD p) := by
  obtain ⟨o, B, e, r⟩ := h
  cases o with
  | val p => cases e; exact r.1.dp hp
  | ls xs => cases e; obtain ⟨a, vs, rfl, h, r, _⟩ := r; exact .lst (.inl (.inl h)) (r.dp hp)
  | dc kvs => cases e; cases hp
  | ll xss => cases e
theorem s_eq (hK : X.K = g.K) : S2 g (rEqD X.K) fun p q => (eqB p q).map fun b => .val (.bl b) := fun F H x y p q o Q hx hy e f => by
  obtain ⟨b, e1, rfl⟩ := Option.map_eq_some_iff.mp e
  unfold eqB at e1
  split at e1
  · rename_i h
    rw [Bool.and_eq_true] at h
    cases e1
    refine ⟨_, _, by rw [hK]; exact hx.dp (okD_pure _ _ h.1), by rw [hK]; exact hy.dp (okD_pure _ _ h.2), okD_shaped h.1, okD_shaped h.2, ?_⟩
    rw [peq_eqv p q (okD_pure _ _ h.1) (okD_pure _ _ h.2)]
    exact f.val (.bl _)
  · cases e1
theorem s_ne (hK : X.K = g.K) : S2 g (rNeD X.K) fun p q => (neB p q).map fun b => .val (.bl b) := fun F H x y p q o Q hx hy e f => by
  obtain ⟨b, e1, rfl⟩ := Option.map_eq_some_iff.mp e
  unfold neB at e1
  split at e1
  · rename_i h
    rw [Bool.and_eq_true] at h
    cases e1
    refine ⟨_, _, by rw [hK]; exact hx.dp (okD_pure _ _ h.1), by rw [hK]; exact hy.dp (okD_pure _ _ h.2), okD_shaped h.1, okD_shaped h.2, ?_⟩
    rw [peq_eqv p q (okD_pure _ _ h.1) (okD_pure _ _ h.2)]
    exact f.val (.bl _)
  · cases e1
/-- x in t, a tuple -/
def rInTD (K : PySem.W.Frag) : R2 := fun x y H Q => ∃ d ds, Dp K H x d ∧ Dp K H y (.tuple ds) ∧ SeqAt.shaped d = true ∧ SeqAt.shaped (.tuple ds) = true ∧ Q (.bl (ds.any fun z => PyData.eqv z d)) H
def rNotInTD (K : PySem.W.Frag) : R2 := fun x y H Q => ∃ d ds, Dp K H x d ∧ Dp K H y (.tuple ds) ∧ SeqAt.shaped d = true ∧ SeqAt.shaped (.tuple ds) = true ∧ Q (.bl (!ds.any fun z => PyData.eqv z d)) H
theorem room_in_shapedT {A : Around} {d : PyData} {ds : List PyData} (h : SeqAt.shaped d = true) (hu : A.units + 65 < cLine) : A.units + 1 + min (PyData.depthAll ds) d.depth < cLine := by
  have h1 := SeqAt.depth_of_shaped h
  have h2 : min (PyData.depthAll ds) d.depth ≤ d.depth := Nat.min_le_right _ _
  omega
theorem op_inTD (hu : X.A.units + 65 < cLine) : OpR X (compareOp .In) (rInTD X.K) := by
  intro pins s σ H x y v u Q I rx ry ⟨d, ds, hd, he, sd, se, q⟩
  obtain ⟨as, r1⟩ := Dp.reads I d x v hd rx
  obtain ⟨bs, r2⟩ := Dp.reads I (.tuple ds) y u he ry
  exact SeqAt.in_tuple_reads r2 r1 (SeqAt.canLay_of_shaped se) (SeqAt.canLay_of_shaped sd) (room_in_shapedT sd hu) ⟨.bl _, H, I, rfl, q⟩
theorem op_notInTD (hu : X.A.units + 65 < cLine) : OpR X (compareOp .NotIn) (rNotInTD X.K) := by
  intro pins s σ H x y v u Q I rx ry ⟨d, ds, hd, he, sd, se, q⟩
  obtain ⟨as, r1⟩ := Dp.reads I d x v hd rx
  obtain ⟨bs, r2⟩ := Dp.reads I (.tuple ds) y u he ry
  exact SeqAt.notIn_tuple_reads r2 r1 (SeqAt.canLay_of_shaped se) (SeqAt.canLay_of_shaped sd) (room_in_shapedT sd hu) ⟨.bl _, H, I, rfl, q⟩
theorem any_eqv {p : PV} (hp : Mv.pure p = true) : ∀ {xs : List PV}, Mv.pure.pures xs = true → ((toD.toDs xs).any fun z => PyData.eqv z (toD p)) = memB p xs
  | [], _ => rfl
  | x :: xs, h => by
    have h' : (Mv.pure x && Mv.pure.pures xs) = true := h
    rw [Bool.and_eq_true] at h'
    unfold toD.toDs memB
    rw [List.any_cons, List.any_cons, peq_eqv x p h'.1 hp, any_eqv hp h'.2]
    rfl
end
end Mv
end
/-! file MvB2 -/
section
set_option linter.all false
set_option autoImplicit false
set_option maxRecDepth 100000
/-! Mv, part B2: places, slices, built-ins by name. -/
namespace Mv
open PySem PySem.Spec PyProof.Rows L2

section
variable {g : Gi} {W : WX} {F F1 F2 : Addr → Prop} {H H1 H2 : Hp} {X : Cx}

/-! ### places -/
theorem ixP_eq (n : Nat) (i : Int) : ixP n i = ixN n i := rfl
theorem s_ixV {vs : List V} {xs : List PV} {i : Int} {p : PV} (r : RepPs g F H vs xs) (h : ((ixP xs.length i).bind fun j => xs[j]?) = some p) : ∃ v, atI vs i = some v ∧ RepP g F H v p := by
  obtain ⟨j, h1, h2⟩ := Option.bind_eq_some_iff.mp h
  obtain ⟨v, hv, rv⟩ := r.get h2
  refine ⟨v, ?_, rv⟩
  unfold atI
  rw [r.length, ← ixP_eq, h1]
  exact hv
def rIxA (K : PySem.W.Frag) : R2 := fun x y H Q => rIxL K x y H Q ∨ (rIxT K x y H Q ∨ rIxS x y H Q)
theorem ix_A : IxR X (rIxA X.K) := ix_list.or (ix_tup.or ix_str)

/-! ### slices -/
def tO (g : Gi) (W : WX) (f : SE (Option Int)) : TO := tX g W (fun _ _ _ y a B => y = a ∧ ∀ b, ¬B b) f
theorem po_imp {e : Option Expr} {t t' : TO} (h : PO X e t) (i : ∀ σ H Q, t' σ H Q → t σ H Q) : PO X e t' := ⟨fun pins s σ H Q I q => h.run pins s σ H Q I (i σ H Q q)⟩
variable {a b : Expr} {pos p2 : Pos} {fa : SE RV} {lo hi : Option Expr} {fl fh : SE (Option Int)}
theorem jo_none : PO X none (tO g W noP) := po_imp po_none fun σ H Q h => by
  obtain ⟨F, e, As, s, h⟩ := h
  exact h F H As (fun _ => False) none s ⟨rfl, fun _ z => z⟩ (fun _ z => z.elim) (fun _ z => z.elim) (.refl fun b z => z.elim id False.elim)
theorem jo_some (ha : PE X a (tE g W fa)) : PO X (some a) (tO g W (prtP fa)) := by
  refine po_imp (po_some ha) fun σ H Q h => tE_later h fun F As r e1 F1 H1 As1 B1 x s1 r1 n1 m1 d1 h1 => ?_
  obtain ⟨p, hp, h1⟩ := h1.vw
  cases p with
  | int i => exact ⟨i, (view_rep r1 s1 hp).int, h1 F1 H1 As1 (fun _ => False) (some i) s1 ⟨rfl, fun _ z => z⟩ (fun _ z => z.elim) (fun _ z => z.elim) (d1.less fun b z => z.elim .inl False.elim)⟩
  | _ => exact h1.elim
def SL (g : Gi) (r : V → Option Int → Option Int → Hp → VK → Prop) : Prop := ∀ F H x p l u o Q, RepV g F H x p → slP p l u = some o → Fin g F H o Q → r x l u H Q
theorem je_sl {r : V → Option Int → Option Int → Hp → VK → Prop} (hr : SlR X r) (hs : SL g r) (ha : PE X a (tE g W fa)) (hl : PO X lo (tO g W fl)) (hu : PO X hi (tO g W fh)) : PE X (.Subscript a (.Slice lo hi none p2) pos) (tE g W (slE fa fl fh)) := by
  refine pe_imp (pe_slice hr ha hl hu) fun σ H Q h => tE_later h fun F As ra e1 F1 H1 As1 B1 x s1 r1 n1 m1 d1 h1 => ?_
  have ap := r1.apart n1 m1
  refine ⟨F1, e1, As1, s1, Post.later (C := B1) s1 d1 h1 fun l e2 _ F2 H2 As2 B2 y s2 r2 n2 m2 d2 h2 => ?_⟩
  obtain ⟨rfl, _⟩ := r2
  have d2 := d2.less (B := Ow As2) fun b z => .inl z
  have ap2 := ap.step d2
  have r12 : RepR g σ F2 H2 x ra B1 := r1.stay (d2.toKeep s1.nfA) fun b o c q => ap.same d2 c q
  have dd := d1.trans (d2.frame (B := B1))
  refine ⟨F2, e2, As2, s2, Post.later (C := B1) s2 dd h2 fun u e3 _ F3 H3 As3 B3 z s3 r3 n3 m3 d3 h3 => ?_⟩
  obtain ⟨rfl, _⟩ := r3
  have d3 := d3.less (B := Ow As3) fun b z => .inl z
  have r13 : RepR g σ F3 H3 x ra B1 := r12.stay (d3.toKeep s2.nfA) fun b o c q => ap2.same d3 c q
  obtain ⟨p, hp, h3⟩ := h3.vw
  obtain ⟨o, ho, h3⟩ := h3.ofO
  exact hs F3 H3 x p _ _ o Q (view_rep r13 s3 hp) ho fun v H' B x' r' n' => h3.fin (C := B1) s3 (dd.trans (d3.frame (B := B1))) x' r' n'
def rSlP (K : PySem.W.Frag) : V → Option Int → Option Int → Hp → VK → Prop := fun x lo hi H Q => rSlL K x lo hi H Q ∨ rSlA K x lo hi H Q
theorem sl_A : SlR X (rSlP X.K) := sl_list.or sl_tupA
theorem sIxP_eq (n d : Nat) (o : Option Int) : sIxP n d o = HT.sIx n d o := by cases o <;> rfl
theorem cut_rep {vs : List V} {xs : List PV} (r : RepPs g F H vs xs) (lo hi : Option Int) : RepPs g F H (cutV vs lo hi) (cutP xs lo hi) := by
  unfold cutV cutP
  rw [sIxP_eq, sIxP_eq, ← r.length]
  exact (r.drop _).take _
theorem cut_whole {xs : List PV} {lo hi : Option Int} (h : HT.sIx xs.length 0 lo = 0 ∧ HT.sIx xs.length xs.length hi = xs.length) : cutP xs lo hi = xs := by
  unfold cutP
  rw [sIxP_eq, sIxP_eq, h.1, h.2]
  simp
theorem reps_ints : ∀ ns : List Int, RepPs g F H (ns.map V.int) (ns.map PV.int)
  | [] => .nil
  | n :: ns => .cons (.int n) (reps_ints ns)
theorem s_sl (hK : X.K = g.K) : SL g (rSlP X.K) := fun F H x p l u o Q hx e f => by
  unfold slP at e
  split at e
  · cases e
    obtain ⟨a, vs, rfl, h1, r1⟩ := hx.tup
    refine .inr ⟨a, vs, rfl, by rw [hK]; exact h1, fun z => ?_, fun z p hp => f.newT (cut_rep r1 l u) hp⟩
    rw [r1.length] at z
    rw [cut_whole z] at f
    exact f.val (.tup h1 r1)
  · cases e
    obtain ⟨a, vs, rfl, h1, r1⟩ := hx.lst
    exact .inl ⟨a, vs, rfl, .inl h1, fun p hp => f.new (cut_rep r1 l u) hp⟩
  · rename_i ns
    cases e
    obtain ⟨a, rfl, h1⟩ := hx.scr
    have r1 : RepPs g F H (ns.map V.int) (ns.map PV.int) := reps_ints ns
    exact .inl ⟨a, _, rfl, by rw [hK]; exact h1.sqL, fun p hp => f.new (cut_rep r1 l u) hp⟩
  · cases e
theorem je_rev (hK : X.K = g.K := by rfl) {k : Nat} {q1 q2 q3 : Pos} (ha : PE X a (tE g W fa)) : PE X (.Subscript a (.Slice none none (some (.UnaryOp .USub (.Constant (.int 1) k q1) q2)) q3) pos) (tE g W (op1 revP fa)) := by
  refine pe_imp (pe_revL ha) fun σ H Q h => tE_later h fun F As r e1 F1 H1 As1 B1 x s1 r1 n1 m1 d1 h1 => ?_
  obtain ⟨p, hp, h1⟩ := h1.vw
  obtain ⟨o, ho, h1⟩ := h1.ofO
  have rv := view_rep r1 s1 hp
  unfold revP at ho
  split at ho
  · cases ho
    obtain ⟨a, vs, rfl, h2, r2⟩ := rv.lst
    refine ⟨a, vs, rfl, .inl h2, fun p hp => ?_⟩
    exact Fin.new (F := F1) (fun v H' B x' r' n' => h1.fin (C := B1) s1 d1 x' r' n') r2.rev hp
  · cases ho

/-! ### built-ins by name -/
theorem je_blt {id : String} {x : Str} {r : List V → Hp → VK → Prop} {op : List PV → Option OV} {es : List Expr} {fs : List (SE RV)} {p : Pos} (hc : CallR X (.builtin id) r) (hs : SN g r op) (hm : X.mg x = none) (hv : bootBuiltins x = some (.builtin id)) (ha : PA X (a :: es) (tA g W (args fs)))
    (hg : Gl X x := by rfl) (hn : x ≠ "__name__" := by decide) (hdb : (x == ("__debug__" : Str)) = false := by decide) (he : starEach (a :: es) X.env = (false, eval a X.env) :: starEach es X.env := by rfl) (hpl : (backTo pos (starEach es X.env)).any (·.1) = false := by rfl) :
    PE X (.Call (.Name x p) (a :: es) [] pos) (tE g W (opN op fs)) :=
  pe_imp (pe_callB hc hg hm hv ha hn hdb he hpl) fun σ H Q h => tE_opN hs h
theorem je_typ {T : String} {x : Str} {r : List V → Hp → VK → Prop} {op : List PV → Option OV} {es : List Expr} {fs : List (SE RV)} {p : Pos} (hc : CallR X (.type T) r) (hs : SN g r op) (hm : X.mg x = none) (hv : bootBuiltins x = some (.type T)) (ha : PA X (a :: es) (tA g W (args fs)))
    (hg : Gl X x := by rfl) (hn : x ≠ "__name__" := by decide) (hdb : (x == ("__debug__" : Str)) = false := by decide) (he : starEach (a :: es) X.env = (false, eval a X.env) :: starEach es X.env := by rfl) (hpl : (backTo pos (starEach es X.env)).any (·.1) = false := by rfl) :
    PE X (.Call (.Name x p) (a :: es) [] pos) (tE g W (opN op fs)) :=
  pe_imp (pe_callTy hc hg hm hv ha hn hdb he hpl) fun σ H Q h => tE_opN hs h
theorem RepVs.one {xs : List V} {p : PV} (h : RepVs g F H xs [p]) : ∃ x, xs = [x] ∧ RepV g F H x p := by
  cases h with
  | cons h r => cases r; exact ⟨_, rfl, h⟩
theorem RepVs.two {xs : List V} {p q : PV} (h : RepVs g F H xs [p, q]) : ∃ x y, xs = [x, y] ∧ RepV g F H x p ∧ RepV g F H y q := by
  cases h with
  | cons h r => cases r with | cons h' r => cases r; exact ⟨_, _, rfl, h, h'⟩
theorem CallR.or {f : Value} {r r' : List V → Hp → VK → Prop} (h : CallR X f r) (h' : CallR X f r') : CallR X f (fun xs H Q => r xs H Q ∨ r' xs H Q) := by
  intro pins s σ H xs us Q I rs q
  rcases q with q | q
  · exact h pins s σ H xs us Q I rs q
  · exact h' pins s σ H xs us Q I rs q
abbrev rLenS : List V → Hp → VK → Prop := fun xs H Q => ∃ z, xs = [V.str z] ∧ z.length ≤ sizeLine ∧ Q (.int z.length) H
abbrev rLenQ (K : PySem.W.Frag) : List V → Hp → VK → Prop := fun xs H Q => ∃ p ys, xs = [V.ref p] ∧ (SqL K H p ys ∨ SqT K H p ys) ∧ Q (.int ys.length) H
theorem c_len : CallR X (.builtin "len") (fun xs H Q => rLenQ X.K xs H Q ∨ rLenS xs H Q) := CallR.or call_len_seq call_len_str
theorem s_len (hK : X.K = g.K) : SN g (fun xs H Q => rLenQ X.K xs H Q ∨ rLenS xs H Q) lenP := fun F H xs ps o Q hx e f => by
  unfold lenP at e
  split at e
  · cases e
    obtain ⟨x, rfl, h⟩ := hx.one
    obtain ⟨a, vs, rfl, h1, r1⟩ := h.tup
    exact .inl ⟨a, vs, rfl, .inr (by rw [hK]; exact h1), by rw [r1.length]; exact f.val (.int _)⟩
  · cases e
    obtain ⟨x, rfl, h⟩ := hx.one
    obtain ⟨a, vs, rfl, h1, r1⟩ := h.lst
    exact .inl ⟨a, vs, rfl, .inl (.inl h1), by rw [r1.length]; exact f.val (.int _)⟩
  · split at e
    · rename_i s hl
      cases e
      obtain ⟨x, rfl, h⟩ := hx.one
      exact .inr ⟨s, by rw [h.str], by rw [sizeLine_eq]; exact hl, f.val (.int _)⟩
    · cases e
  · cases e
theorem s_abs : SN g (fun xs H Q => ∃ i, xs = [V.int i] ∧ Q (.int (if i < 0 then -i else i)) H) absP := fun F H xs ps o Q hx e f => by
  unfold absP at e
  split at e
  · cases e
    obtain ⟨x, rfl, h⟩ := hx.one
    exact ⟨_, by rw [h.int], f.val (.int _)⟩
  · cases e
theorem s_int : SN g (fun xs H Q => (∃ i, xs = [V.int i] ∧ Q (.int i) H) ∨ ∃ k, xs = [V.bl k] ∧ Q (.int (if k then 1 else 0)) H) intP := fun F H xs ps o Q hx e f => by
  unfold intP at e
  split at e
  · cases e
    obtain ⟨x, rfl, h⟩ := hx.one
    exact .inl ⟨_, by rw [h.int], f.val (.int _)⟩
  · cases e
    obtain ⟨x, rfl, h⟩ := hx.one
    exact .inr ⟨_, by rw [h.bl], f.val (.int _)⟩
  · cases e
theorem s_tuple (hK : X.K = g.K) : SN g (fun xs H Q => ∃ p ys, xs = [V.ref p] ∧ ((SqL X.K H p ys ∧ ∀ l, H l = none → Q (.ref l) (upd H l (.tup ys))) ∨ (SqT X.K H p ys ∧ Q (.ref p) H))) tupleP := fun F H xs ps o Q hx e f => by
  unfold tupleP at e
  split at e
  · cases e
    obtain ⟨x, rfl, h⟩ := hx.one
    obtain ⟨a, vs, rfl, h1, r1⟩ := h.tup
    exact ⟨a, vs, rfl, .inr ⟨by rw [hK]; exact h1, f.val (.tup h1 r1)⟩⟩
  · cases e
    obtain ⟨x, rfl, h⟩ := hx.one
    obtain ⟨a, vs, rfl, h1, r1⟩ := h.lst
    exact ⟨a, vs, rfl, .inl ⟨.inl h1, fun p hp => f.newT r1 hp⟩⟩
  · cases e
theorem s_list (hK : X.K = g.K) : SN g (fun xs H Q => ∃ p ys, xs = [V.ref p] ∧ (SqL X.K H p ys ∨ SqT X.K H p ys) ∧ ∀ l, H l = none → Q (.ref l) (upd H l (.lst ys))) listP := fun F H xs ps o Q hx e f => by
  unfold listP at e
  split at e
  · cases e
    obtain ⟨x, rfl, h⟩ := hx.one
    obtain ⟨a, vs, rfl, h1, r1⟩ := h.tup
    exact ⟨a, vs, rfl, .inr (by rw [hK]; exact h1), fun p hp => f.new r1 hp⟩
  · cases e
    obtain ⟨x, rfl, h⟩ := hx.one
    obtain ⟨a, vs, rfl, h1, r1⟩ := h.lst
    exact ⟨a, vs, rfl, .inl (.inl h1), fun p hp => f.new r1 hp⟩
  · cases e
theorem ints_rep : ∀ {xs : List PV} {vs : List V} {ns : List Int}, RepPs g F H vs xs → intsOf xs = some ns → vs = ns.map V.int
  | [], _, _, r, h => by cases r; cases h; rfl
  | .int i :: xs, _, _, r, h => by
    obtain ⟨ns, h1, rfl⟩ := Option.map_eq_some_iff.mp (show (intsOf xs).map (i :: ·) = some _ from h)
    cases r with
    | cons h r => cases h; rw [ints_rep r h1]; rfl
  | .non :: xs, _, _, _, h => by cases h
  | .bl _ :: xs, _, _, _, h => by cases h
  | .str _ :: xs, _, _, _, h => by cases h
  | .tup _ :: xs, _, _, _, h => by cases h
  | .lst _ :: xs, _, _, _, h => by cases h
  | .dic _ :: xs, _, _, _, h => by cases h
  | .fn _ :: xs, _, _, _, h => by cases h
  | .ty _ :: xs, _, _, _, h => by cases h
  | .scr _ :: xs, _, _, _, h => by cases h
theorem bls_rep : ∀ {xs : List PV} {vs : List V} {ns : List Bool}, RepPs g F H vs xs → blsOf xs = some ns → vs = ns.map V.bl
  | [], _, _, r, h => by cases r; cases h; rfl
  | .bl i :: xs, _, _, r, h => by
    obtain ⟨ns, h1, rfl⟩ := Option.map_eq_some_iff.mp (show (blsOf xs).map (i :: ·) = some _ from h)
    cases r with
    | cons h r => cases h; rw [bls_rep r h1]; rfl
  | .non :: xs, _, _, _, h => by cases h
  | .int _ :: xs, _, _, _, h => by cases h
  | .str _ :: xs, _, _, _, h => by cases h
  | .tup _ :: xs, _, _, _, h => by cases h
  | .lst _ :: xs, _, _, _, h => by cases h
  | .dic _ :: xs, _, _, _, h => by cases h
  | .fn _ :: xs, _, _, _, h => by cases h
  | .ty _ :: xs, _, _, _, h => by cases h
  | .scr _ :: xs, _, _, _, h => by cases h
theorem s_all (hK : X.K = g.K) : SN g (rAll X.K) allP := fun F H xs ps o Q hx e f => by
  unfold allP at e
  split at e
  · obtain ⟨bs, h1, rfl⟩ := Option.map_eq_some_iff.mp e
    obtain ⟨x, rfl, h⟩ := hx.one
    obtain ⟨a, vs, rfl, h2, r1⟩ := h.lst
    exact ⟨a, bs, rfl, by rw [← bls_rep r1 h1]; exact .inl h2, f.val (.bl _)⟩
  · cases e
theorem s_any (hK : X.K = g.K) : SN g (rAny X.K) anyP := fun F H xs ps o Q hx e f => by
  unfold anyP at e
  split at e
  · obtain ⟨bs, h1, rfl⟩ := Option.map_eq_some_iff.mp e
    obtain ⟨x, rfl, h⟩ := hx.one
    obtain ⟨a, vs, rfl, h2, r1⟩ := h.lst
    exact ⟨a, bs, rfl, by rw [← bls_rep r1 h1]; exact .inl h2, f.val (.bl _)⟩
  · cases e

/-! ### isinstance -/
theorem tyx {x : V} {p : PV} {t : String} (h : RepV g F H x p) (e : tyP p = some t) : TyX g.K H x (.type t) := by
  cases p with
  | non => cases e; rw [h.non]; exact .base .non
  | bl b => cases e; rw [h.bl]; exact .base (.bl _)
  | int b => cases e; rw [h.int]; exact .base (.int _)
  | str b => cases e; rw [h.str]; exact .base (.str _)
  | tup xs =>
    cases e
    obtain ⟨a, vs, rfl, h1, _⟩ := h.tup
    rcases h1 with (h1 | ⟨o, h1⟩) | ⟨o, its, n, hk, hc, _⟩
    · exact .base (.tup h1)
    · exact .fTuple h1
    · exact .kTuple hk hc
  | lst xs =>
    cases e
    obtain ⟨a, vs, rfl, h1, _⟩ := h.lst
    rcases h1 with h1 | ⟨o, h1⟩
    · exact .base (.lst h1)
    · exact .base (.frz h1)
  | dic kvs => cases e
  | fn n => cases e
  | ty n => cases e
  | scr n => cases e
end
end Mv
end
/-! file MvB3 -/
section
set_option linter.all false
set_option autoImplicit false
set_option maxRecDepth 100000
/-! Mv, part B3: isinstance, sums, greatest and least, sorted ints, ranges as lists and tuples. -/
namespace Mv
open PySem PySem.Spec PyProof.Rows L2

section
variable {g : Gi} {W : WX} {F F1 F2 : Addr → Prop} {H H1 H2 : Hp} {X : Cx}
variable {a b : Expr} {pos : Pos} {fa fb : SE RV}

/-! ### isinstance -/
def tyNames : List String := ["NoneType", "bool", "int", "str", "tuple", "list"]
theorem tyP_mem {p : PV} {t : String} (e : tyP p = some t) : t ∈ tyNames := by
  cases p <;> first | (cases e; decide) | cases e
def kitOk (T : String) : Bool := tyNames.all fun a => kitB a T == some (subT a T)
theorem kitOk_one {T a : String} (h : kitOk T = true) (m : a ∈ tyNames) : kitB a T = some (subT a T) := eq_of_beq (List.all_eq_true.mp h a m)
theorem kit_int : kitOk "int" = true := by decide +kernel
theorem kit_bool : kitOk "bool" = true := by decide +kernel
theorem kit_str : kitOk "str" = true := by decide +kernel
theorem kit_tuple : kitOk "tuple" = true := by decide +kernel
theorem kit_list : kitOk "list" = true := by decide +kernel
theorem boot_isi : bootBuiltins "isinstance" = some (.builtin "isinstance") := by decide +kernel
theorem boot_int : bootBuiltins "int" = some (.type "int") := by decide +kernel
theorem boot_bool : bootBuiltins "bool" = some (.type "bool") := by decide +kernel
theorem boot_str : bootBuiltins "str" = some (.type "str") := by decide +kernel
theorem s_isi (hK : X.K = g.K) {T : String} (hk : kitOk T = true) : S1 g (fun x H Q => rIsi X.K [x, .ty T] H Q) (isiS [T]) := fun F H x p o Q hx e f => by
  obtain ⟨t, e1, rfl⟩ := Option.map_eq_some_iff.mp e
  refine ⟨x, .ty T, .type t, .type T, subT t T, rfl, .ty T, by rw [hK]; exact tyx hx e1, kit_ty (kitOk_one hk (tyP_mem e1)), ?_⟩
  have e : [T].any (subT t) = subT t T := by simp
  rw [e] at f
  exact f.val (.bl _)
theorem pe_eq {op op' : PV → Option OV} {e : Expr} (h : op' = op) (p : PE X e (tE g W (op1 op fa))) : PE X e (tE g W (op1 op' fa)) := h ▸ p
theorem je_isi {T : String} {x : Str} {p q : Pos} (h0 : X.mg "isinstance" = none) (hm : X.mg x = none) (hb : bootBuiltins x = some (.type T)) (hk : kitOk T = true) (ha : PE X a (tE g W fa)) (hK : X.K = g.K := by rfl)
    (hg0 : Gl X "isinstance" := by rfl) (hg : Gl X x := by rfl) (hn : x ≠ "__name__" := by decide) (hdb : (x == ("__debug__" : Str)) = false := by decide)
    (he : starEach [a, .Name x q] X.env = (false, eval a X.env) :: starEach [.Name x q] X.env := by rfl) (he2 : starEach [.Name x q] X.env = (false, eval (.Name x q) X.env) :: starEach [] X.env := by rfl) (hpl : (backTo pos (starEach [.Name x q] X.env)).any (·.1) = false := by rfl) :
    PE X (.Call (.Name "isinstance" p) [a, .Name x q] [] pos) (tE g W (op1 (isiS [T]) fa)) :=
  pe_imp (pe_callB call_isi hg0 h0 boot_isi (pa_cons ha (pa_cons (pe_bltn (v := .ty T) hg hm hb rfl hn hdb) pa_nil he2) he) (by decide) (by decide) he hpl) fun σ H Q h => tE_un (s_isi hK hk) h
theorem s_isi2 (hK : X.K = g.K) {T U : String} (hk : kitOk T = true) (hk2 : kitOk U = true) : S1 g (fun x H Q => [V.ty T, V.ty U].length ≤ sizeLine ∧ ∀ p, H p = none → rIsiT X.K [x, .ref p] (upd H p (.tup [.ty T, .ty U])) Q) (isiS [T, U]) := fun F H x p o Q hx e f => by
  refine ⟨by show 2 ≤ sizeLine; decide, fun a ha => ?_⟩
  obtain ⟨t, e1, rfl⟩ := Option.map_eq_some_iff.mp e
  have hx' : RepV g F (upd H a (.tup [.ty T, .ty U])) x p := hx.ext (ExtH.upd ha)
  refine ⟨x, a, [.ty T, .ty U], .type t, [.type T, .type U], subT t T || subT t U, rfl, upd_same, .cons (.ty T) (.cons (.ty U) .nil), by rw [hK]; exact tyx hx' e1, ?_, ?_⟩
  · have k1 := kit_ty (K := X.K) (kitOk_one hk (tyP_mem e1))
    have k2 := kit_ty (K := X.K) (kitOk_one hk2 (tyP_mem e1))
    refine kitAny_cons k1 (fun z => ?_) (fun z => by rw [z]; rfl)
    rw [z, Bool.false_or]
    exact kitAny_cons k2 (fun z => by rw [z]; rfl) fun z => by rw [z]
  · have e : [T, U].any (subT t) = (subT t T || subT t U) := by simp
    rw [e] at f
    exact f _ _ (fun _ => False) (ExtH.upd ha) ⟨.bl _, fun _ z => z⟩ fun _ z => z.elim
theorem je_isi2 {T U : String} {x y : Str} {p q q' q2 : Pos} {k : Nat} (h0 : X.mg "isinstance" = none) (hm : X.mg x = none) (hm' : X.mg y = none) (hb : bootBuiltins x = some (.type T)) (hb' : bootBuiltins y = some (.type U)) (hk : kitOk T = true) (hk2 : kitOk U = true) (ha : PE X a (tE g W fa)) (hK : X.K = g.K := by rfl)
    (hg0 : Gl X "isinstance" := by rfl) (hg : Gl X x := by rfl) (hg' : Gl X y := by rfl) (hn : x ≠ "__name__" := by decide) (hdb : (x == ("__debug__" : Str)) = false := by decide) (hn' : y ≠ "__name__" := by decide) (hdb' : (y == ("__debug__" : Str)) = false := by decide)
    (he : starEach [a, .Tuple [.Name x q, .Name y q'] k q2] X.env = (false, eval a X.env) :: starEach [.Tuple [.Name x q, .Name y q'] k q2] X.env := by rfl)
    (he2 : starEach [.Tuple [.Name x q, .Name y q'] k q2] X.env = (false, eval (.Tuple [.Name x q, .Name y q'] k q2) X.env) :: starEach [] X.env := by rfl)
    (he3 : starEach [.Name x q, .Name y q'] X.env = (false, eval (.Name x q) X.env) :: starEach [.Name y q'] X.env := by rfl)
    (he4 : starEach [.Name y q'] X.env = (false, eval (.Name y q') X.env) :: starEach [] X.env := by rfl)
    (hpl : (backTo pos (starEach [.Tuple [.Name x q, .Name y q'] k q2] X.env)).any (·.1) = false := by rfl) :
    PE X (.Call (.Name "isinstance" p) [a, .Tuple [.Name x q, .Name y q'] k q2] [] pos) (tE g W (op1 (isiS [T, U]) fa)) :=
  pe_imp (pe_callB call_isiT hg0 h0 boot_isi (pa_cons ha (pa_cons (pe_tup (pa_cons (pe_bltn (v := .ty T) hg hm hb rfl hn hdb) (pa_cons (pe_bltn (v := .ty U) hg' hm' hb' rfl hn' hdb') pa_nil he4) he3)) pa_nil he2) he) (by decide) (by decide) he hpl) fun σ H Q h => tE_un (s_isi2 hK hk hk2) h
end
end Mv
end
/-! file MvD -/
section
set_option linter.all false
set_option autoImplicit false
set_option maxRecDepth 100000
/-! Mv, part D: dicts. -/
namespace Mv
open PySem PySem.Spec PyProof.Rows L2

/-! ### keys -/
def keyA : PV → Bool
  | .non => true
  | .bl _ => true
  | .int _ => true
  | .str _ => true
  | .tup xs => keyAs xs
  | _ => false
where keyAs : List PV → Bool
  | [] => true
  | x :: xs => keyA x && keyAs xs
theorem keyN_A : ∀ (n : Nat) (p : PV), keyN n p = true → keyA p = true ∧ (nk p).depth ≤ n := by
  have all : ∀ (n : Nat), (∀ p : PV, keyN n p = true → keyA p = true ∧ (nk p).depth ≤ n) → ∀ xs : List PV, xs.all (keyN n) = true → keyA.keyAs xs = true ∧ NestedKey.depthAll (nk.nks xs) ≤ n := fun n ih xs => by
    induction xs with
    | nil => exact fun _ => ⟨rfl, Nat.zero_le _⟩
    | cons x xs ihx =>
      intro h
      rw [List.all_cons, Bool.and_eq_true] at h
      obtain ⟨a1, a2⟩ := ih x h.1
      obtain ⟨b1, b2⟩ := ihx h.2
      unfold keyA.keyAs nk.nks NestedKey.depthAll
      exact ⟨by rw [a1, b1]; rfl, Nat.max_le.mpr ⟨a2, b2⟩⟩
  intro n
  induction n with
  | zero => intro p h; cases p <;> first | exact ⟨rfl, Nat.le_refl _⟩ | cases h
  | succ n ih =>
    intro p h
    cases p with
    | tup xs =>
      obtain ⟨a, b⟩ := all n ih xs h
      exact ⟨a, by show NestedKey.depthAll (nk.nks xs) + 1 ≤ n + 1; omega⟩
    | _ => first | exact ⟨rfl, Nat.zero_le _⟩ | cases h
theorem keyK_A {p : PV} (h : keyK p = true) : keyA p = true := by
  cases p with
  | tup xs => exact (keyN_A 8 (.tup xs) h).1
  | _ => first | rfl | cases h
theorem keyK_depth {p : PV} (h : keyK p = true) : (nk p).depth ≤ 8 := by
  cases p with
  | tup xs => exact (keyN_A 8 (.tup xs) h).2
  | _ => first | exact Nat.zero_le _ | cases h
mutual
theorem keyA_pure : ∀ p : PV, keyA p = true → Mv.pure p = true
  | .non, _ => rfl
  | .bl _, _ => rfl
  | .int _, _ => rfl
  | .str _, _ => rfl
  | .tup xs, h => keyAs_pure xs h
  | .lst _, h => by cases h
  | .dic _, h => by cases h
  | .fn _, h => by cases h
  | .ty _, h => by cases h
  | .scr _, h => by cases h
theorem keyAs_pure : ∀ xs : List PV, keyA.keyAs xs = true → Mv.pure.pures xs = true
  | [], _ => rfl
  | x :: xs, h => by
    have h' : (keyA x && keyA.keyAs xs) = true := h
    rw [Bool.and_eq_true] at h'
    show (Mv.pure x && Mv.pure.pures xs) = true
    rw [keyA_pure x h'.1, keyAs_pure xs h'.2]
    rfl
end
mutual
theorem peq_nk : ∀ p q : PV, keyA p = true → keyA q = true → NestedKey.beq (nk p) (nk q) = peq p q
  | .non, q, _, hq => by cases q <;> first | rfl | cases hq
  | .bl a, q, _, hq => by
    cases q with
    | bl b => cases a <;> cases b <;> rfl
    | int j => cases a <;> simp [nk, NestedKey.beq, peq] <;> rfl
    | _ => first | rfl | cases hq
  | .int i, q, _, hq => by
    cases q with
    | bl b => cases b <;> simp [nk, NestedKey.beq, peq] <;> rfl
    | int j => simp [nk, NestedKey.beq, peq]; rfl
    | _ => first | rfl | cases hq
  | .str x, q, _, hq => by
    cases q with
    | str y => show decide (x = y) = (x == y); by_cases h : x = y <;> simp [h]
    | _ => first | rfl | cases hq
  | .tup xs, q, hp, hq => by
    cases q with
    | tup ys => exact peqs_nk xs ys hp hq
    | _ => first | rfl | cases hq
  | .lst _, _, hp, _ => by cases hp
  | .dic _, _, hp, _ => by cases hp
  | .fn _, _, hp, _ => by cases hp
  | .ty _, _, hp, _ => by cases hp
  | .scr _, _, hp, _ => by cases hp
theorem peqs_nk : ∀ xs ys : List PV, keyA.keyAs xs = true → keyA.keyAs ys = true → NestedKey.beqAll (nk.nks xs) (nk.nks ys) = peqs xs ys
  | [], ys, _, _ => by cases ys <;> rfl
  | x :: xs, [], _, _ => rfl
  | x :: xs, y :: ys, hp, hq => by
    have hp' : (keyA x && keyA.keyAs xs) = true := hp
    have hq' : (keyA y && keyA.keyAs ys) = true := hq
    rw [Bool.and_eq_true] at hp' hq'
    show (NestedKey.beq (nk x) (nk y) && NestedKey.beqAll (nk.nks xs) (nk.nks ys)) = (peq x y && peqs xs ys)
    rw [peq_nk x y hp'.1 hq'.1, peqs_nk xs ys hp'.2 hq'.2]
end
theorem nk_dec {p q : PV} (hp : keyA p = true) (hq : keyA q = true) : decide (nk p = nk q) = peq p q := by rw [NestedKey.decide_eq, peq_nk p q hp hq]
theorem nk_iff {p q : PV} (hp : keyA p = true) (hq : keyA q = true) : nk p = nk q ↔ peq p q = true := by
  rw [← nk_dec hp hq]
  exact decide_eq_true_iff.symm
mutual
theorem reads_nk {h : Heap} : ∀ (p : PV) (v : Value) (as : List Addr), keyA p = true → Reads h v (toD p) as → NestedIs h (nk p) v
  | .non, _, _, _, r => by cases r; exact .none
  | .bl b, _, _, _, r => by cases r; exact .bool rfl
  | .int i, _, _, _, r => by cases r; exact .int _ _
  | .str i, _, _, _, r => by cases r; exact .text _ _
  | .tup xs, _, _, hp, r => by
    have r' : Reads h _ (.tuple (toD.toDs xs)) _ := r
    cases r' with
    | tuple h1 h2 h3 h4 => exact .tup h1 h2 h3 (readsAll_nk xs _ _ hp h4)
  | .lst _, _, _, hp, _ => by cases hp
  | .dic _, _, _, hp, _ => by cases hp
  | .fn _, _, _, hp, _ => by cases hp
  | .ty _, _, _, hp, _ => by cases hp
  | .scr _, _, _, hp, _ => by cases hp
theorem readsAll_nk {h : Heap} : ∀ (xs : List PV) (vs : List Value) (as : List Addr), keyA.keyAs xs = true → ReadsAll h vs (toD.toDs xs) as → NestedAll h (nk.nks xs) vs
  | [], _, _, _, r => by
    have r' : ReadsAll h _ [] _ := r
    cases r'; exact .nil
  | x :: xs, _, _, hp, r => by
    have hp' : (keyA x && keyA.keyAs xs) = true := hp
    rw [Bool.and_eq_true] at hp'
    have r' : ReadsAll h _ (toD x :: toD.toDs xs) _ := r
    cases r' with
    | cons h1 h2 => exact .cons (reads_nk x _ _ hp'.1 h1) (readsAll_nk xs _ _ hp'.2 h2)
end

/-! ### entries: what is found, what is put -/
def putM : List (Int × V × V) → List (PV × PV) → PV → V → List (Int × V × V)
  | e :: es, x :: kvs, k, v => (if peq x.1 k then (e.1, e.2.1, v) else e) :: putM es kvs k v
  | _, _, _, _ => []
theorem DK.nil : DK [] := ⟨(fun _ h => nomatch h), (fun _ h => nomatch h), List.Pairwise.nil⟩
theorem DK.tail {x : PV × PV} {kvs : List (PV × PV)} (d : DK (x :: kvs)) : DK kvs :=
  ⟨fun y h => d.key y (List.mem_cons_of_mem _ h), fun y h z h' => d.tup y (List.mem_cons_of_mem _ h) z (List.mem_cons_of_mem _ h'), (List.pairwise_cons.mp d.nod).2⟩
theorem look_none {k : PV} {kvs : List (PV × PV)} (h : (lookP kvs k).isSome = false) : ∀ x ∈ kvs, peq x.1 k = false := by
  intro x hx
  unfold lookP at h
  rw [Option.isSome_map] at h
  have := List.find?_eq_none.mp (Option.isSome_eq_false_iff.mp h |> Option.isNone_iff_eq_none.mp) x hx
  simpa using this
theorem putP_keys {k v : PV} {kvs : List (PV × PV)} : (kvs.map fun x => if peq x.1 k then (x.1, v) else x).map (·.1) = kvs.map (·.1) := by
  rw [List.map_map]
  refine List.map_congr_left fun x _ => ?_
  by_cases h : peq x.1 k = true <;> simp [h]
theorem DK.put {kvs : List (PV × PV)} {k v : PV} (d : DK kvs) (h : keyOk k kvs = true) : DK (putP kvs k v) := by
  unfold keyOk at h
  rw [Bool.and_eq_true] at h
  unfold putP
  split
  · have mem : ∀ x ∈ (kvs.map fun x => if peq x.1 k then (x.1, v) else x), ∃ y ∈ kvs, x.1 = y.1 := fun x hx => by
      have : x.1 ∈ kvs.map (·.1) := by rw [← putP_keys (k := k) (v := v)]; exact List.mem_map.mpr ⟨x, hx, rfl⟩
      obtain ⟨y, hy, e⟩ := List.mem_map.mp this
      exact ⟨y, hy, e.symm⟩
    refine ⟨fun x hx => ?_, fun x hx y hy => ?_, ?_⟩
    · obtain ⟨y, hy, e⟩ := mem x hx
      rw [e]; exact d.key y hy
    · obtain ⟨x', hx', e⟩ := mem x hx
      obtain ⟨y', hy', e'⟩ := mem y hy
      rw [e, e']; exact d.tup x' hx' y' hy'
    · have q : (kvs.map (·.1)).Pairwise fun x y => peq x y = false := List.pairwise_map.mpr d.nod
      rw [← putP_keys (k := k) (v := v)] at q
      exact List.pairwise_map.mp q
  · rename_i hn
    have hn := look_none (Bool.not_eq_true _ ▸ hn)
    have st : ∀ x ∈ kvs, isTup x.1 = isTup k := fun x hx => by
      cases kvs with
      | nil => cases hx
      | cons y ys =>
        have e : isTup y.1 = isTup k := eq_of_beq h.2
        rw [← e]
        exact d.tup x hx y List.mem_cons_self
    refine ⟨fun x hx => ?_, fun x hx y hy => ?_, ?_⟩
    · rcases List.mem_append.mp hx with hx | hx
      · exact d.key x hx
      · rw [List.mem_singleton.mp hx]; exact h.1
    · have one : ∀ x ∈ kvs ++ [(k, v)], isTup x.1 = isTup k := fun x hx => by
        rcases List.mem_append.mp hx with hx | hx
        · exact st x hx
        · rw [List.mem_singleton.mp hx]
      rw [one x hx, one y hy]
    · refine List.pairwise_append.mpr ⟨d.nod, List.pairwise_singleton _ _, fun x hx y hy => ?_⟩
      rw [List.mem_singleton.mp hy]
      exact hn x hx
section
variable {g : Gi} {F : Addr → Prop} {H : Hp}
theorem RepDs.length : ∀ {es : List (Int × V × V)} {kvs : List (PV × PV)}, RepDs g F H es kvs → es.length = kvs.length
  | _, _, .nil => rfl
  | _, _, .cons _ _ _ r => by rw [List.length_cons, List.length_cons, RepDs.length r]
theorem RepDs.app : ∀ {es es' : List (Int × V × V)} {kvs kvs' : List (PV × PV)}, RepDs g F H es kvs → RepDs g F H es' kvs' → RepDs g F H (es ++ es') (kvs ++ kvs')
  | _, _, _, _, .nil, s => s
  | _, _, _, _, .cons a b c r, s => .cons a b c (RepDs.app r s)
theorem RepDs.putM {k q : PV} {v : V} (hv : RepP g F H v q) : ∀ {es : List (Int × V × V)} {kvs : List (PV × PV)}, RepDs g F H es kvs → RepDs g F H (Mv.putM es kvs k v) (kvs.map fun x => if peq x.1 k then (x.1, q) else x)
  | _, _, .nil => .nil
  | _, _, .cons (p := p) a b c r => by
    rw [List.map_cons]
    unfold Mv.putM
    dsimp only
    by_cases h : peq p k = true
    · rw [if_pos h, if_pos h]; exact .cons a b hv (RepDs.putM hv r)
    · rw [if_neg h, if_neg h]; exact .cons a b c (RepDs.putM hv r)
theorem RepDs.look {k q : PV} : ∀ {es : List (Int × V × V)} {kvs : List (PV × PV)}, RepDs g F H es kvs → lookP kvs k = some q → ∃ v, RepP g F H v q
  | _, _, .nil, h => by cases h
  | _, _, .cons (p := p) (q := q') a b c r, h => by
    unfold lookP at h
    rw [List.find?_cons] at h
    split at h
    · cases h; exact ⟨_, c⟩
    · exact RepDs.look r h
end
end Mv
end
/-! file MvD2 -/
section
set_option linter.all false
set_option autoImplicit false
set_option maxRecDepth 100000
/-! Mv, part D2: dicts, the model's own. -/
namespace Mv
open PySem PySem.Spec PyProof.Rows L2

def EntP (x : Int × V × V) (d : DictEntry) : Prop := d.hash = x.1 ∧ RelV x.2.1 d.key ∧ RelV x.2.2 d.val
/-! ### keys that are tuples -/
inductive EntH (w : World) : List (Int × V × V) → List (PV × PV) → List (NestedKey × Addr × Value) → Prop
  | nil : EntH w [] [] []
  | cons {a : Addr} {vv : V} {u : Value} {p q : PV} {es : List (Int × V × V)} {kvs : List (PV × PV)} {xs : List (NestedKey × Addr × Value)} : RelV vv u → EntH w es kvs xs → EntH w ((hashP w p, .ref a, vv) :: es) ((p, q) :: kvs) ((nk p, a, u) :: xs)
theorem EntH.pair {P : Program} {w : World} : ∀ {es : List (Int × V × V)} {kvs : List (PV × PV)} {xs : List (NestedKey × Addr × Value)}, EntH w es kvs xs → Paired EntP es (xs.map (entryOfKey (nestedKind P w)))
  | _, _, _, .nil => .nil
  | _, _, _, .cons h t => .cons ⟨rfl, rfl, h⟩ t.pair
theorem EntH.len {w : World} : ∀ {es : List (Int × V × V)} {kvs : List (PV × PV)} {xs : List (NestedKey × Addr × Value)}, EntH w es kvs xs → xs.length = kvs.length
  | _, _, _, .nil => rfl
  | _, _, _, .cons h t => by rw [List.length_cons, List.length_cons, t.len]
theorem EntH.keys {w : World} : ∀ {es : List (Int × V × V)} {kvs : List (PV × PV)} {xs : List (NestedKey × Addr × Value)}, EntH w es kvs xs → xs.map (·.1) = kvs.map fun x => nk x.1
  | _, _, _, .nil => rfl
  | _, _, _, .cons h t => by rw [List.map_cons, List.map_cons, t.keys]
theorem EntH.app {w : World} : ∀ {es es' : List (Int × V × V)} {kvs kvs' : List (PV × PV)} {xs xs' : List (NestedKey × Addr × Value)}, EntH w es kvs xs → EntH w es' kvs' xs' → EntH w (es ++ es') (kvs ++ kvs') (xs ++ xs')
  | _, _, _, _, _, _, .nil, s => s
  | _, _, _, _, _, _, .cons h t, s => .cons h (t.app s)
theorem EntH.put {w : World} {k r : PV} {vv : V} {u : Value} (hk : keyA k = true) (hu : RelV vv u) : ∀ {es : List (Int × V × V)} {kvs : List (PV × PV)} {xs : List (NestedKey × Addr × Value)}, EntH w es kvs xs → (∀ x ∈ kvs, keyA x.1 = true) →
    EntH w (putM es kvs k vv) (kvs.map fun x => if peq x.1 k then (x.1, r) else x) (xs.map (PySem.putAt (nk k) u))
  | _, _, _, .nil, _ => .nil
  | _, _, _, .cons (p := p) (a := a) (u := u') h t, hA => by
    have ih := EntH.put (r := r) hk hu t (fun x hx => hA x (List.mem_cons_of_mem _ hx))
    have e := nk_iff (hA _ List.mem_cons_self) hk
    rw [List.map_cons, List.map_cons]
    unfold putM PySem.putAt
    dsimp only
    by_cases z : peq p k = true
    · rw [if_pos z, if_pos z, if_pos (e.mpr z)]
      exact .cons hu ih
    · rw [if_neg z, if_neg z, if_neg fun y => z (e.mp y)]
      exact .cons h ih
theorem look_cons (x : PV × PV) (kvs : List (PV × PV)) (k : PV) : lookP (x :: kvs) k = if peq x.1 k = true then some x.2 else lookP kvs k := by
  unfold lookP
  rw [List.find?_cons]
  by_cases h : peq x.1 k = true
  · rw [h, if_pos rfl]; rfl
  · rw [if_neg h]
    rw [Bool.not_eq_true] at h
    rw [h]
theorem atKey_cons (x : NestedKey × Addr × Value) (xs : List (NestedKey × Addr × Value)) (k : NestedKey) : atKey (x :: xs) k = if x.1 = k then some x.2 else atKey xs k := by
  unfold atKey
  rw [List.find?_cons]
  by_cases h : x.1 = k
  · rw [decide_eq_true h, if_pos h]; rfl
  · rw [decide_eq_false h, if_neg h]
theorem EntH.look {g : Gi} {w : World} {F : Addr → Prop} {H : Hp} {k : PV} (hk : keyA k = true) : ∀ {es : List (Int × V × V)} {kvs : List (PV × PV)} {xs : List (NestedKey × Addr × Value)}, EntH w es kvs xs → RepDs g F H es kvs → (∀ x ∈ kvs, keyA x.1 = true) →
    match lookP kvs k with
    | some q => ∃ a u vv, atKey xs (nk k) = some (a, u) ∧ RelV vv u ∧ RepP g F H vv q
    | none => atKey xs (nk k) = none
  | _, _, _, .nil, _, _ => rfl
  | _, _, _, .cons (p := p) (a := a) (u := u) (vv := vv) (q := q) h t, .cons _ _ r rr, hA => by
    have ih := EntH.look hk t rr (fun x hx => hA x (List.mem_cons_of_mem _ hx))
    have e := nk_iff (hA _ List.mem_cons_self) hk
    rw [look_cons, atKey_cons]
    dsimp only at e ⊢
    by_cases z : peq p k = true
    · rw [if_pos z, if_pos (e.mpr z)]
      exact ⟨a, u, vv, rfl, h, r⟩
    · rw [if_neg z, if_neg fun y => z (e.mp y)]
      exact ih
section
variable {g : Gi} {F : Addr → Prop} {X : Cx} {pins : List (Addr × Obj)} {s : Shared} {σ : L2.St} {H : Hp} {d : Addr} {es : List (Int × V × V)} {kvs : List (PV × PV)}
theorem RepP.nested (I : Inv X pins σ H s) (hK : X.K = g.K) {v : V} {p : PV} {u : Value} (r : RepP g F H v p) (h : RelV v u) (hp : keyA p = true) : NestedIs s.heap (nk p) u := by
  obtain ⟨as, q⟩ := Dp.reads I (toD p) v u (by rw [hK]; exact r.dp (keyA_pure p hp)) h
  exact reads_nk p u as hp q
theorem isTup_ref {v : V} {p : PV} (r : RepP g F H v p) (h : isTup p = true) : ∃ a, v = .ref a := by
  cases r with
  | tup _ _ => exact ⟨_, rfl⟩
  | _ => cases h
theorem ent_tup (I : Inv X pins σ H s) (hK : X.K = g.K) (hW : X.w = g.w) : ∀ {es : List (Int × V × V)} {kvs : List (PV × PV)} {ds : List DictEntry}, Paired EntP es ds → RepDs g F H es kvs → (∀ x ∈ kvs, keyK x.1 = true ∧ isTup x.1 = true) →
    ∃ xs, EntH X.w es kvs xs ∧ ds = xs.map (entryOfKey (nestedKind X.prog X.w)) ∧ ∀ x ∈ xs, (nestedKind X.prog X.w).is s.heap x.1 x.2.1
  | _, _, _, .nil, .nil, _ => ⟨[], .nil, rfl, fun _ h => nomatch h⟩
  | _, _, _, .cons (b := b) ⟨h1, h2, h3⟩ t, .cons (p := p) e rk rv rr, hA => by
    obtain ⟨k1, k2⟩ := hA _ List.mem_cons_self
    obtain ⟨a, rfl⟩ := isTup_ref rk k2
    obtain ⟨xs, x1, x2, x3⟩ := ent_tup I hK hW t rr fun x hx => hA x (List.mem_cons_of_mem _ hx)
    have hn := rk.nested I hK h2 (keyK_A k1)
    have h2' : b.key = .ref a := h2
    have e' : hashP X.w p = hashP g.w p := by rw [hW]
    subst e
    refine ⟨(nk p, a, b.val) :: xs, by rw [← e']; exact .cons h3 x1, ?_, fun x hx => ?_⟩
    · rw [List.map_cons, ← x2]
      congr 1
      obtain ⟨bh, bk, bv⟩ := b
      dsimp only at h1 h2'
      subst h1 h2'
      show _ = (⟨(nk p).hash X.w, _, _⟩ : DictEntry)
      rw [hW]
      rfl
    · rcases List.mem_cons.mp hx with rfl | hx
      · refine ⟨?_, keyK_depth k1⟩
        rw [h2'] at hn
        exact hn
      · exact x3 x hx
theorem dict_tup (I : Inv X pins σ H s) (hK : X.K = g.K) (hW : X.w = g.w) (h : H d = some (DictO d es)) (r : RepDs g F H es kvs) (n : DK kvs) (t : ∀ x ∈ kvs, isTup x.1 = true) :
    (d == sysModules) = false ∧ ∃ xs, s.heap.DictOfH (nestedKind X.prog X.w) d xs ∧ EntH X.w es kvs xs := by
  obtain ⟨⟨hd, o, arr, ep, ho, ex, hdat, pr⟩, _, _⟩ := I.hok d _ h
  obtain ⟨xs, x1, x2, x3⟩ := ent_tup I hK hW pr r fun x hx => ⟨n.key x hx, t x hx⟩
  refine ⟨hd, xs, ⟨o, arr, ep, ho, ex, hdat, x2, x3, ?_⟩, x1⟩
  rw [x1.keys]
  refine List.pairwise_map.mpr (n.nod.imp_of_mem fun {x y} hx hy z => ?_)
  rw [ne_eq, nk_iff (keyK_A (n.key x hx)) (keyK_A (n.key y hy)), z]
  decide
end
/-! ### keys that are ints and texts -/
def keyM : PV → Key
  | .int i => .inl i
  | .str s => .inr s
  | _ => .inl 0
theorem keyM_iff {p q : PV} (hp : keyK p = true) (hp' : isTup p = false) (hq : keyK q = true) (hq' : isTup q = false) : keyM p = keyM q ↔ peq p q = true := by
  cases p with
  | int i =>
    cases q with
    | int j => simp [keyM, peq]
    | str j => simp [keyM, peq]
    | tup _ => cases hq'
    | _ => cases hq
  | str i =>
    cases q with
    | int j => simp [keyM, peq]
    | str j => simp [keyM, peq]
    | tup _ => cases hq'
    | _ => cases hq
  | tup _ => cases hp'
  | _ => cases hp
inductive EntM (w : World) : List (Int × V × V) → List (PV × PV) → List (Key × Value) → Prop
  | nil : EntM w [] [] []
  | cons {vv : V} {u : Value} {p q : PV} {es : List (Int × V × V)} {kvs : List (PV × PV)} {xs : List (Key × Value)} : RelV vv u → EntM w es kvs xs → EntM w ((keyH w (keyM p), kV (keyM p), vv) :: es) ((p, q) :: kvs) ((keyM p, u) :: xs)
theorem EntM.pair {P : Program} {w : World} : ∀ {es : List (Int × V × V)} {kvs : List (PV × PV)} {xs : List (Key × Value)} {ds : List DictEntry}, EntM w es kvs xs → Pairs (mixKind P w) ds xs → (∀ e ∈ ds, ∃ k, (mixKind P w).is k e.key = true ∧ e.hash = (mixKind P w).hash k) → Paired EntP es ds
  | _, _, _, _, .nil, .nil, _ => .nil
  | _, _, _, _, .cons h t, .cons h1 h2 h3, hk => by
    obtain ⟨k, a, b⟩ := hk _ List.mem_cons_self
    have e := (mixKind P w).inj _ _ _ h1 a
    refine .cons ⟨?_, keyIs_rel h1, ?_⟩ (t.pair h3 fun e he => hk e (List.mem_cons_of_mem _ he))
    · rw [b, ← e]; rfl
    · rw [h2]; exact h
theorem EntM.len {w : World} : ∀ {es : List (Int × V × V)} {kvs : List (PV × PV)} {xs : List (Key × Value)}, EntM w es kvs xs → xs.length = kvs.length
  | _, _, _, .nil => rfl
  | _, _, _, .cons h t => by rw [List.length_cons, List.length_cons, t.len]
theorem EntM.keys {w : World} : ∀ {es : List (Int × V × V)} {kvs : List (PV × PV)} {xs : List (Key × Value)}, EntM w es kvs xs → xs.map (·.1) = kvs.map fun x => keyM x.1
  | _, _, _, .nil => rfl
  | _, _, _, .cons h t => by rw [List.map_cons, List.map_cons, t.keys]
theorem EntM.app {w : World} : ∀ {es es' : List (Int × V × V)} {kvs kvs' : List (PV × PV)} {xs xs' : List (Key × Value)}, EntM w es kvs xs → EntM w es' kvs' xs' → EntM w (es ++ es') (kvs ++ kvs') (xs ++ xs')
  | _, _, _, _, _, _, .nil, s => s
  | _, _, _, _, _, _, .cons h t, s => .cons h (t.app s)
def KN (p : PV) : Prop := keyK p = true ∧ isTup p = false
theorem EntM.put {w : World} {k r : PV} {vv : V} {u : Value} (hk : KN k) (hu : RelV vv u) : ∀ {es : List (Int × V × V)} {kvs : List (PV × PV)} {xs : List (Key × Value)}, EntM w es kvs xs → (∀ x ∈ kvs, KN x.1) →
    EntM w (putM es kvs k vv) (kvs.map fun x => if peq x.1 k then (x.1, r) else x) (xs.map fun kv => if kv.1 = keyM k then (kv.1, u) else kv)
  | _, _, _, .nil, _ => .nil
  | _, _, _, .cons (p := p) (u := u') h t, hA => by
    have ih := EntM.put (r := r) hk hu t (fun x hx => hA x (List.mem_cons_of_mem _ hx))
    obtain ⟨a1, a2⟩ := hA _ List.mem_cons_self
    have e := keyM_iff a1 a2 hk.1 hk.2
    rw [List.map_cons, List.map_cons]
    unfold putM
    dsimp only at e ⊢
    by_cases z : peq p k = true
    · rw [if_pos z, if_pos z, if_pos (e.mpr z)]
      exact .cons hu ih
    · rw [if_neg z, if_neg z, if_neg fun y => z (e.mp y)]
      exact .cons h ih
theorem valueAt_cons (x : Key × Value) (xs : List (Key × Value)) (k : Key) : valueAt (x :: xs) k = if x.1 = k then some x.2 else valueAt xs k := by
  unfold valueAt
  rw [List.find?_cons]
  by_cases h : x.1 = k
  · rw [decide_eq_true h, if_pos h]; rfl
  · rw [decide_eq_false h, if_neg h]
theorem EntM.look {g : Gi} {w : World} {F : Addr → Prop} {H : Hp} {k : PV} (hk : KN k) : ∀ {es : List (Int × V × V)} {kvs : List (PV × PV)} {xs : List (Key × Value)}, EntM w es kvs xs → RepDs g F H es kvs → (∀ x ∈ kvs, KN x.1) →
    match lookP kvs k with
    | some q => ∃ u vv, valueAt xs (keyM k) = some u ∧ RelV vv u ∧ RepP g F H vv q
    | none => valueAt xs (keyM k) = none
  | _, _, _, .nil, _, _ => rfl
  | _, _, _, .cons (p := p) (u := u) (vv := vv) (q := q) h t, .cons _ _ r rr, hA => by
    have ih := EntM.look hk t rr (fun x hx => hA x (List.mem_cons_of_mem _ hx))
    obtain ⟨a1, a2⟩ := hA _ List.mem_cons_self
    have e := keyM_iff a1 a2 hk.1 hk.2
    rw [look_cons, valueAt_cons]
    dsimp only at e ⊢
    by_cases z : peq p k = true
    · rw [if_pos z, if_pos (e.mpr z)]
      exact ⟨u, vv, rfl, h, r⟩
    · rw [if_neg z, if_neg fun y => z (e.mp y)]
      exact ih
section
variable {g : Gi} {F : Addr → Prop} {X : Cx} {pins : List (Addr × Obj)} {s : Shared} {σ : L2.St} {H : Hp} {d : Addr} {es : List (Int × V × V)} {kvs : List (PV × PV)}
theorem keyM_V {v : V} {p : PV} (r : RepP g F H v p) (h : KN p) : v = kV (keyM p) := by
  obtain ⟨h1, h2⟩ := h
  cases r with
  | int _ => rfl
  | str _ => rfl
  | tup _ _ => cases h2
  | _ => cases h1
theorem keyM_H {p : PV} {w : World} (h : KN p) : hashP w p = keyH w (keyM p) := by
  obtain ⟨h1, h2⟩ := h
  cases p with
  | int _ => rfl
  | str _ => rfl
  | tup _ => cases h2
  | _ => cases h1
theorem ent_mix (hW : X.w = g.w) : ∀ {es : List (Int × V × V)} {kvs : List (PV × PV)} {ds : List DictEntry}, Paired EntP es ds → RepDs g F H es kvs → (∀ x ∈ kvs, KN x.1) →
    ∃ xs, EntM X.w es kvs xs ∧ Pairs (mixKind X.prog X.w) ds xs ∧ ∀ e ∈ ds, ∃ k, (mixKind X.prog X.w).is k e.key = true ∧ e.hash = (mixKind X.prog X.w).hash k
  | _, _, _, .nil, .nil, _ => ⟨[], .nil, .nil, fun _ h => nomatch h⟩
  | _, _, _, .cons (b := b) ⟨h1, h2, h3⟩ t, .cons (p := p) e rk rv rr, hA => by
    have k1 := hA _ List.mem_cons_self
    obtain ⟨xs, x1, x2, x3⟩ := ent_mix hW t rr fun x hx => hA x (List.mem_cons_of_mem _ hx)
    have e1 := keyM_V rk k1
    have e2 : hashP g.w p = keyH X.w (keyM p) := by rw [← hW]; exact keyM_H k1
    subst e
    subst e1
    have ki := kV_is (P := X.prog) (w := X.w) h2
    refine ⟨(keyM p, b.val) :: xs, by rw [e2]; exact .cons h3 x1, .cons ki rfl x2, fun e he => ?_⟩
    rcases List.mem_cons.mp he with rfl | he
    · exact ⟨_, ki, by rw [h1]; exact e2⟩
    · exact x3 e he
theorem dict_mix (I : Inv X pins σ H s) (hW : X.w = g.w) (h : H d = some (DictO d es)) (r : RepDs g F H es kvs) (n : DK kvs) (t : ∀ x ∈ kvs, isTup x.1 = false) :
    (d == sysModules) = false ∧ ∃ xs, s.heap.DictOf (mixKind X.prog X.w) d xs ∧ EntM X.w es kvs xs := by
  obtain ⟨⟨hd, o, arr, ep, ho, ex, hdat, pr⟩, _, _⟩ := I.hok d _ h
  obtain ⟨xs, x1, x2, x3⟩ := ent_mix hW pr r fun x hx => ⟨n.key x hx, t x hx⟩
  refine ⟨hd, xs, ⟨o, arr, ep, ho, ex, hdat, fun e he => x3 e (by simpa using he), x2, ?_⟩, x1⟩
  rw [x1.keys]
  refine List.pairwise_map.mpr (n.nod.imp_of_mem fun {x y} hx hy z => ?_)
  rw [ne_eq, keyM_iff (n.key x hx) (t x hx) (n.key y hy) (t y hy), z]
  decide
end
end Mv
end
/-! file MvD3 -/
section
set_option linter.all false
set_option autoImplicit false
set_option maxRecDepth 100000
/-! Mv, part D3: dicts: d[k], k in d, d[k] = v. -/
namespace Mv
open PySem PySem.Spec PyProof.Rows L2

section
variable {g : Gi} {F : Addr → Prop} {X : Cx} {pins : List (Addr × Obj)} {s : Shared} {σ : L2.St} {H : Hp} {d : Addr} {es : List (Int × V × V)} {kvs : List (PV × PV)}
theorem keyT_all {k : PV} (n : DK kvs) (h : keyOk k kvs = true) : ∀ x ∈ kvs, isTup x.1 = isTup k := fun x hx => by
  unfold keyOk at h
  rw [Bool.and_eq_true] at h
  cases kvs with
  | nil => cases hx
  | cons y ys =>
    have e : isTup y.1 = isTup k := eq_of_beq h.2
    rw [← e]
    exact n.tup x hx y List.mem_cons_self
theorem keyOk_K {k : PV} (h : keyOk k kvs = true) : keyK k = true := by
  unfold keyOk at h
  rw [Bool.and_eq_true] at h
  exact h.1
theorem RepV.key {v : V} {p : PV} (h : RepV g F H v p) (k : keyK p = true) : RepP g F H v p := by
  obtain ⟨o, B, e, r⟩ := h
  cases o with
  | val p => cases e; exact r.1
  | ls xs => cases e; cases k
  | dc xs => cases e; cases k
  | ll xs => cases e
/-- a dict at d that holds kvs; a key in y -/
structure DcAt (g : Gi) (F : Addr → Prop) (H : Hp) (x y : V) (d : Addr) (es : List (Int × V × V)) (kvs : List (PV × PV)) (k : PV) : Prop where
  ref : x = .ref d
  obj : H d = some (DictO d es)
  rep : RepDs g F H es kvs
  ok : DK kvs
  key : RepP g F H y k
  kok : keyOk k kvs = true
/-- what the model says: one of two kinds -/
theorem DcAt.cases {x y : V} {k : PV} {P : Prop} (c : DcAt g F H x y d es kvs k) (I : Inv X pins σ H s) (hK : X.K = g.K) (hW : X.w = g.w) {u : Value} (ry : RelV y u) (hd : (d == sysModules) = false → P → P)
    (h1 : ∀ (a : Addr) (xs : List (NestedKey × Addr × Value)), u = .ref a → (nestedKind X.prog X.w).is s.heap (nk k) a → s.heap.DictOfH (nestedKind X.prog X.w) d xs → EntH X.w es kvs xs → (d == sysModules) = false → isTup k = true → y = .ref a → P)
    (h2 : ∀ (xs : List (Key × Value)), (mixKind X.prog X.w).is (keyM k) u = true → s.heap.DictOf (mixKind X.prog X.w) d xs → EntM X.w es kvs xs → (d == sysModules) = false → KN k → P) : P := by
  have kk := keyOk_K c.kok
  have al := keyT_all c.ok c.kok
  cases ht : isTup k with
  | true =>
    obtain ⟨hd, xs, a1, a2⟩ := dict_tup I hK hW c.obj c.rep c.ok fun x hx => by rw [al x hx, ht]
    obtain ⟨a, ea⟩ := isTup_ref c.key ht
    have hn := c.key.nested I hK ry (keyK_A kk)
    rw [ea] at ry
    have eu : u = .ref a := ry
    rw [eu] at hn
    exact h1 a xs eu ⟨hn, keyK_depth kk⟩ a1 a2 hd ht ea
  | false =>
    obtain ⟨hd, xs, a1, a2⟩ := dict_mix I hW c.obj c.rep c.ok fun x hx => by rw [al x hx, ht]
    have kn : KN k := ⟨kk, ht⟩
    have e := keyM_V c.key kn
    rw [e] at ry
    exact h2 xs (kV_is ry) a1 a2 hd kn
theorem DcAt.keysA {x y : V} {k : PV} (c : DcAt g F H x y d es kvs k) : ∀ x ∈ kvs, keyA x.1 = true := fun x hx => keyK_A (c.ok.key x hx)
theorem DcAt.keysN {x y : V} {k : PV} (c : DcAt g F H x y d es kvs k) (h : KN k) : ∀ x ∈ kvs, KN x.1 := fun x hx => ⟨c.ok.key x hx, (keyT_all c.ok c.kok x hx).trans h.2⟩
theorem dcTy {s : Shared} {xs : List (Key × Value)} (h : s.heap.DictOf (mixKind X.prog X.w) d xs) : s.TypeIs (.ref d) "dict" := let ⟨o, _, _, ho, hc, _⟩ := h; ⟨o, ho, hc.1⟩
def rGetD (g : Gi) : R2 := fun x y H Q => ∃ F d es kvs k q, DcAt g F H x y d es kvs k ∧ lookP kvs k = some q ∧ ∀ v, RepP g F H v q → Q v H
theorem ix_dc (hu : X.A.units + 9 < cLine) (hK : X.K = g.K) (hW : X.w = g.w) : IxR X (rGetD g) := by
  intro value slice pins s σ H x y v u Q I rx ry h hs
  obtain ⟨F, d, es, kvs, k, q, c, hq, fin⟩ := h
  rw [c.ref] at rx
  obtain rfl : v = Value.ref d := rx
  refine c.cases I hK hW ry (fun _ z => z) (fun a xs eu hk dd en hd ht ea => ?_) fun xs hk dd en hd kn => ?_
  · have l := EntH.look (keyK_A (keyOk_K c.kok)) en c.rep c.keysA
    rw [hq] at l
    obtain ⟨a', u', vv, e1, e2, e3⟩ := l
    rw [eu] at hs ⊢
    exact tail_any dd.typeIs slot_dict_getitem.lookup (wpAny_getItem_heap (show X.A.in1.units + 8 < cLine by show X.A.units + 1 + 8 < cLine; omega) hk dd e1 ⟨vv, H, I.tok _, e2, fin _ e3⟩) hs
  · have l := EntM.look kn en c.rep (c.keysN kn)
    rw [hq] at l
    obtain ⟨u', vv, e1, e2, e3⟩ := l
    exact tail_any (dcTy dd) slot_dict_getitem.lookup (wpAny_getItem_of hk dd.mapOf e1 ⟨vv, H, I.tok _, e2, fin _ e3⟩) hs
def rInDc (g : Gi) (n : Bool) : R2 := fun y x H Q => ∃ F d es kvs k, DcAt g F H x y d es kvs k ∧ Q (.bl (n != (lookP kvs k).isSome)) H
theorem op_inDc (hu : X.A.units + 9 < cLine) (hK : X.K = g.K) (hW : X.w = g.w) : OpR X (compareOp .In) (rInDc g false) := by
  intro pins s σ H y x u v Q I ry rx h
  obtain ⟨F, d, es, kvs, k, c, fin⟩ := h
  rw [c.ref] at rx
  obtain rfl : v = Value.ref d := rx
  rw [show (false != (lookP kvs k).isSome) = (lookP kvs k).isSome by simp] at fin
  refine c.cases I hK hW ry (fun _ z => z) (fun a xs eu hk dd en hd ht ea => ?_) fun xs hk dd en hd kn => ?_
  · have l := EntH.look (keyK_A (keyOk_K c.kok)) en c.rep c.keysA
    have e : (atKey xs (nk k)).isSome = (lookP kvs k).isSome := by
      cases hq : lookP kvs k with
      | none => rw [hq] at l; rw [l]; rfl
      | some q => rw [hq] at l; obtain ⟨_, _, _, l, _⟩ := l; rw [l]; rfl
    rw [eu]
    refine wpAny_in_heap (show X.A.in1.units + 8 < cLine by show X.A.units + 1 + 8 < cLine; omega) hk hd dd ?_
    rw [e]
    exact ⟨.bl _, H, I.tok _, rfl, fin⟩
  · have l := EntM.look kn en c.rep (c.keysN kn)
    have e : (valueAt xs (keyM k)).isSome = (lookP kvs k).isSome := by
      cases hq : lookP kvs k with
      | none => rw [hq] at l; rw [l]; rfl
      | some q => rw [hq] at l; obtain ⟨_, _, l, _⟩ := l; rw [l]; rfl
    refine wpAny_in_of hk hd dd.mapOf ?_
    rw [e]
    exact ⟨.bl _, H, I.tok _, rfl, fin⟩
theorem op_ninDc (hu : X.A.units + 9 < cLine) (hK : X.K = g.K) (hW : X.w = g.w) : OpR X (compareOp .NotIn) (rInDc g true) := by
  intro pins s σ H y x u v Q I ry rx h
  obtain ⟨F, d, es, kvs, k, c, fin⟩ := h
  rw [c.ref] at rx
  obtain rfl : v = Value.ref d := rx
  rw [show (true != (lookP kvs k).isSome) = !(lookP kvs k).isSome by simp] at fin
  refine c.cases I hK hW ry (fun _ z => z) (fun a xs eu hk dd en hd ht ea => ?_) fun xs hk dd en hd kn => ?_
  · have l := EntH.look (keyK_A (keyOk_K c.kok)) en c.rep c.keysA
    have e : (atKey xs (nk k)).isSome = (lookP kvs k).isSome := by
      cases hq : lookP kvs k with
      | none => rw [hq] at l; rw [l]; rfl
      | some q => rw [hq] at l; obtain ⟨_, _, _, l, _⟩ := l; rw [l]; rfl
    rw [eu]
    refine wpAny_notIn_heap (show X.A.in1.units + 8 < cLine by show X.A.units + 1 + 8 < cLine; omega) hk hd dd ?_
    rw [e]
    exact ⟨.bl _, H, I.tok _, rfl, fin⟩
  · have l := EntM.look kn en c.rep (c.keysN kn)
    have e : (valueAt xs (keyM k)).isSome = (lookP kvs k).isSome := by
      cases hq : lookP kvs k with
      | none => rw [hq] at l; rw [l]; rfl
      | some q => rw [hq] at l; obtain ⟨_, _, l, _⟩ := l; rw [l]; rfl
    refine wpAny_notIn_of hk hd dd.mapOf ?_
    rw [e]
    exact ⟨.bl _, H, I.tok _, rfl, fin⟩
def rSetDc (g : Gi) : TSet := fun x y v H Q => ∃ F d es kvs k q, DcAt g F H x y d es kvs k ∧ kvs.length < lnX ∧ RepP g F H v q ∧ ∀ es', RepDs g F H es' (putP kvs k q) → Q (upd H d (DictO d es'))
theorem any_look (k : PV) : ∀ kvs : List (PV × PV), (kvs.any fun x => peq x.1 k) = (lookP kvs k).isSome
  | [] => rfl
  | x :: kvs => by
    rw [look_cons, List.any_cons, any_look k kvs]
    by_cases h : peq x.1 k = true
    · rw [h, if_pos rfl]; rfl
    · rw [if_neg h]
      rw [Bool.not_eq_true] at h
      rw [h, Bool.false_or]
theorem dictWrite {es es' : List (Int × V × V)} {h' : Heap} {t : Nat} (I : Inv X pins σ H s) (ho : H d = some (DictO d es)) (hd : (d == sysModules) = false) (hs : Heap.SameBut d s.heap h') {o : Obj} {arr : Array DictEntry} {ep : Nat} (h1 : h'.get? d = some o) (h2 : o.ExactDict) (h3 : o.data = .dict arr ep)
    (p : Paired EntP es' arr.toList) : Inv X pins σ (upd H d (DictO d es')) { s with heap := h', toks := t } := by
  refine I.write (x := d) (e := d) (by rw [ho]; exact True.intro) (.inl rfl) (fun b u hb hu => (hs.2 b hb).trans hu) ⟨o, h1⟩ ?_
  refine ⟨⟨hd, o, arr, ep, h1, h2, h3, p⟩, ⟨o, h1⟩, ?_⟩
  rintro g1 g2 ⟨q1, o1, arr1, ep1, q2, q3, q4, q5⟩ k
  exact ⟨q1, o1, arr1, ep1, k o1 q2, q3, q4, q5⟩
theorem set_dc (hu : X.A.units + 9 < cLine) (hK : X.K = g.K) (hW : X.w = g.w) : PSet X (rSetDc g) := by
  intro pins s σ H x y v ov iv u Q I rx ry rv h
  obtain ⟨F, d, es, kvs, k, q, c, hz, rq, fin⟩ := h
  rw [c.ref] at rx
  obtain rfl : ov = Value.ref d := rx
  have hz' : kvs.length ≤ sizeLine := by rw [sizeLine_eq]; exact Nat.le_of_lt hz
  refine c.cases I hK hW ry (fun _ z => z) (fun a xs eu hk dd en hd ht ea => ?_) fun xs hk dd en hd kn => ?_
  · have kA := keyK_A (keyOk_K c.kok)
    have l := EntH.look kA en c.rep c.keysA
    rw [eu]
    refine wpAny_setItem_heap (show X.A.in1.units + 8 < cLine by show X.A.units + 1 + 8 < cLine; omega) hk dd (fun h' dd' hs => ?_) (by rw [en.len]; exact hz')
    obtain ⟨o, arr, ep, h1, h2, h3, h4, h5, h6⟩ := dd'
    cases hq : lookP kvs k with
    | some q0 =>
      rw [hq] at l
      obtain ⟨a', u', vv, l, _⟩ := l
      rw [storedH_old l] at h4
      have en' := en.put (r := q) kA rv c.keysA
      refine ⟨_, dictWrite I c.obj hd hs h1 h2 h3 (by rw [h4]; exact en'.pair), fin _ ?_⟩
      unfold putP
      rw [hq]
      exact c.rep.putM rq
    | none =>
      rw [hq] at l
      rw [storedH_new l] at h4
      have e1 : EntH X.w [(hashP X.w k, y, v)] [(k, q)] [(nk k, a, u)] := by rw [ea]; exact .cons rv .nil
      refine ⟨_, dictWrite I c.obj hd hs h1 h2 h3 (by rw [h4]; exact (en.app e1).pair), fin _ ?_⟩
      unfold putP
      rw [hq]
      exact c.rep.app (.cons (by rw [hW]) c.key rq .nil)
  · have l := EntM.look kn en c.rep (c.keysN kn)
    refine wpAny_setItem_pairs (hsz := by rw [en.len]; exact hz') hk dd fun h' dd' hs => ?_
    obtain ⟨o, arr, ep, h1, h2, h3, h4, h5, h6⟩ := dd'
    have h4' : ∀ e ∈ arr.toList, ∃ k, (mixKind X.prog X.w).is k e.key = true ∧ e.hash = (mixKind X.prog X.w).hash k := fun e he => h4 e (by simpa using he)
    have hany : (xs.any fun kv => decide (kv.1 = keyM k)) = (valueAt xs (keyM k)).isSome := by
      unfold valueAt
      rw [Option.isSome_map]
      cases hf : xs.find? fun kv => decide (kv.1 = keyM k) with
      | none =>
        rw [List.find?_eq_none] at hf
        show (xs.any fun kv => decide (kv.1 = keyM k)) = false
        rw [Bool.eq_false_iff]
        intro z
        obtain ⟨x, hx, e⟩ := List.any_eq_true.mp z
        exact hf x hx e
      | some x =>
        have hf2 := List.find?_some hf
        exact List.any_eq_true.mpr ⟨x, List.mem_of_find?_eq_some hf, hf2⟩
    cases hq : lookP kvs k with
    | some q0 =>
      rw [hq] at l
      obtain ⟨u', vv, l, _⟩ := l
      have en' := en.put (r := q) kn rv (c.keysN kn)
      have h5' : Pairs (mixKind X.prog X.w) arr.toList (xs.map fun kv => if kv.1 = keyM k then (kv.1, u) else kv) := by
        unfold stored at h5
        rw [hany, l] at h5
        exact h5
      refine ⟨_, dictWrite I c.obj hd hs h1 h2 h3 (en'.pair h5' h4'), fin _ ?_⟩
      unfold putP
      rw [hq]
      exact c.rep.putM rq
    | none =>
      rw [hq] at l
      have h5' : Pairs (mixKind X.prog X.w) arr.toList (xs ++ [(keyM k, u)]) := by
        unfold stored at h5
        rw [hany, l] at h5
        exact h5
      have e1 : EntM X.w [(hashP X.w k, y, v)] [(k, q)] [(keyM k, u)] := by
        rw [keyM_H kn, keyM_V c.key kn]
        exact .cons rv .nil
      refine ⟨_, dictWrite I c.obj hd hs h1 h2 h3 ((en.app e1).pair h5' h4'), fin _ ?_⟩
      unfold putP
      rw [hq]
      exact c.rep.app (.cons (by rw [hW]) c.key rq .nil)
theorem dset_dc (hu : X.A.units + 9 < cLine) (hK : X.K = g.K) (hW : X.w = g.w) {pins : List (Addr × Obj)} {s : Shared} {σ : L2.St} {H : Hp} {x y v : V} {iv u : Value} {Q : Hp → Prop} {d : Addr} {es : List (Int × V × V)} {kvs : List (PV × PV)} {k q : PV} (I : Inv X pins σ H s) (ry : RelV y iv) (rv : RelV v u) (c : DcAt g F H x y d es kvs k) (hz : kvs.length < lnX) (rq : RepP g F H v q)
    (fin : ∀ es', RepDs g F H es' (putP kvs k q) → Q (upd H d (DictO d es'))) : wpAny (model X.prog X.w) X.A (dictSet d iv u) (fun _ s' => ∃ H', Inv X pins σ H' s' ∧ Q H') X.xe s := by
  have hz' : kvs.length ≤ sizeLine := by rw [sizeLine_eq]; exact Nat.le_of_lt hz
  refine c.cases I hK hW ry (fun _ z => z) (fun a xs eu hk dd en hd ht ea => ?_) fun xs hk dd en hd kn => ?_
  · have kA := keyK_A (keyOk_K c.kok)
    have l := EntH.look kA en c.rep c.keysA
    rw [eu]
    refine wpAny_dictSet_heap (show X.A.units + 8 < cLine by omega) hk dd (fun h' dd' hs => ?_) (by rw [en.len]; exact hz')
    obtain ⟨o, arr, ep, h1, h2, h3, h4, h5, h6⟩ := dd'
    cases hq : lookP kvs k with
    | some q0 =>
      rw [hq] at l
      obtain ⟨a', u', vv, l, _⟩ := l
      rw [storedH_old l] at h4
      have en' := en.put (r := q) kA rv c.keysA
      refine ⟨_, dictWrite I c.obj hd hs h1 h2 h3 (by rw [h4]; exact en'.pair), fin _ ?_⟩
      unfold putP
      rw [hq]
      exact c.rep.putM rq
    | none =>
      rw [hq] at l
      rw [storedH_new l] at h4
      have e1 : EntH X.w [(hashP X.w k, y, v)] [(k, q)] [(nk k, a, u)] := by rw [ea]; exact .cons rv .nil
      refine ⟨_, dictWrite I c.obj hd hs h1 h2 h3 (by rw [h4]; exact (en.app e1).pair), fin _ ?_⟩
      unfold putP
      rw [hq]
      exact c.rep.app (.cons (by rw [hW]) c.key rq .nil)
  · have l := EntM.look kn en c.rep (c.keysN kn)
    refine wpAny_dictSet_pairs (hsz := by rw [en.len]; exact hz') hk dd fun h' dd' hs => ?_
    obtain ⟨o, arr, ep, h1, h2, h3, h4, h5, h6⟩ := dd'
    have h4' : ∀ e ∈ arr.toList, ∃ k, (mixKind X.prog X.w).is k e.key = true ∧ e.hash = (mixKind X.prog X.w).hash k := fun e he => h4 e (by simpa using he)
    have hany : (xs.any fun kv => decide (kv.1 = keyM k)) = (valueAt xs (keyM k)).isSome := by
      unfold valueAt
      rw [Option.isSome_map]
      cases hf : xs.find? fun kv => decide (kv.1 = keyM k) with
      | none =>
        rw [List.find?_eq_none] at hf
        show (xs.any fun kv => decide (kv.1 = keyM k)) = false
        rw [Bool.eq_false_iff]
        intro z
        obtain ⟨x, hx, e⟩ := List.any_eq_true.mp z
        exact hf x hx e
      | some x =>
        have hf2 := List.find?_some hf
        exact List.any_eq_true.mpr ⟨x, List.mem_of_find?_eq_some hf, hf2⟩
    cases hq : lookP kvs k with
    | some q0 =>
      rw [hq] at l
      obtain ⟨u', vv, l, _⟩ := l
      have en' := en.put (r := q) kn rv (c.keysN kn)
      have h5' : Pairs (mixKind X.prog X.w) arr.toList (xs.map fun kv => if kv.1 = keyM k then (kv.1, u) else kv) := by
        unfold stored at h5
        rw [hany, l] at h5
        exact h5
      refine ⟨_, dictWrite I c.obj hd hs h1 h2 h3 (en'.pair h5' h4'), fin _ ?_⟩
      unfold putP
      rw [hq]
      exact c.rep.putM rq
    | none =>
      rw [hq] at l
      have h5' : Pairs (mixKind X.prog X.w) arr.toList (xs ++ [(keyM k, u)]) := by
        unfold stored at h5
        rw [hany, l] at h5
        exact h5
      have e1 : EntM X.w [(hashP X.w k, y, v)] [(k, q)] [(keyM k, u)] := by
        rw [keyM_H kn, keyM_V c.key kn]
        exact .cons rv .nil
      refine ⟨_, dictWrite I c.obj hd hs h1 h2 h3 ((en.app e1).pair h5' h4'), fin _ ?_⟩
      unfold putP
      rw [hq]
      exact c.rep.app (.cons (by rw [hW]) c.key rq .nil)
end
end Mv
end
/-! file MvG0 -/
section
set_option linter.all false
set_option autoImplicit false
set_option maxRecDepth 100000
/-! Mv, part G0: sorted, as a function on values. -/
namespace Mv
open PySem PySem.W PySem.SeqAt

def ltP (p q : PV) : Bool := dataLt (toD p) (toD q)
def leP (p q : PV) : Bool := !ltP q p
/-- two sorted rows as one -/
def mrg : Nat → List PV → List PV → List PV
  | 0, xs, ys => xs ++ ys
  | _ + 1, [], ys => ys
  | _ + 1, xs, [] => xs
  | n + 1, x :: xs, y :: ys => if leP x y then x :: mrg n xs (y :: ys) else y :: mrg n (x :: xs) ys
def msort : Nat → List PV → List PV
  | 0, xs => xs
  | n + 1, xs => match xs with
    | [] => []
    | [x] => [x]
    | _ => mrg xs.length (msort n (xs.take (xs.length / 2))) (msort n (xs.drop (xs.length / 2)))
def chainB : List PV → Bool
  | [] => true
  | [_] => true
  | x :: y :: r => leP x y && chainB (y :: r)
/-- ints, texts, tuples and lists of such -/
def srtA : PV → Bool
  | .int _ => true
  | .str _ => true
  | .tup xs => srtAs xs
  | .lst xs => srtAs xs
  | _ => false
where srtAs : List PV → Bool
  | [] => true
  | x :: xs => srtA x && srtAs xs
/-- of one shape -/
def shp : PV → PV → Bool
  | .int _, q => match q with | .int _ => true | _ => false
  | .str _, q => match q with | .str _ => true | _ => false
  | .tup xs, q => match q with | .tup ys => shps xs ys | _ => false
  | .lst xs, q => match q with | .lst ys => shps xs ys | _ => false
  | _, _ => false
where shps : List PV → List PV → Bool
  | [], q => match q with | [] => true | _ :: _ => false
  | x :: xs, q => match q with | [] => false | y :: ys => shp x y && shps xs ys
def pairsB (f : PV → PV → Bool) : List PV → Bool
  | [] => true
  | x :: xs => xs.all (fun y => f x y) && pairsB f xs
def likP (p q : PV) : Bool := alike (toD p) (toD q)
def neTup : PV → Bool
  | .tup (_ :: _) => true
  | _ => false
def srtB (xs : List PV) : Bool :=
  decide (xs.length ≤ lnX) && xs.all srtA && xs.all (okD 40) && (match xs with | [] => true | x :: r => r.all (shp x) || pairsB likP xs) && (xs.all neTup || xs.all fun x => !isTup x)
def sortO (xs : List PV) : Option (List PV) := if srtB xs && chainB (msort xs.length xs) then some (msort xs.length xs) else none

/-! ### that it is the model's -/
theorem mrg_perm : ∀ (n : Nat) (xs ys : List PV), (mrg n xs ys).Perm (xs ++ ys)
  | 0, xs, ys => .refl _
  | n + 1, [], ys => .refl _
  | n + 1, x :: xs, [] => by unfold mrg; simp
  | n + 1, x :: xs, y :: ys => by
    unfold mrg
    split
    · exact (mrg_perm n xs (y :: ys)).cons x
    · refine ((mrg_perm n (x :: xs) ys).cons y).trans ?_
      exact (List.perm_middle (l₁ := x :: xs) (l₂ := ys) (a := y)).symm
theorem msort_perm : ∀ (n : Nat) (xs : List PV), (msort n xs).Perm xs
  | 0, xs => .refl _
  | n + 1, [] => .refl _
  | n + 1, [x] => .refl _
  | n + 1, x :: y :: r => by
    unfold msort
    dsimp only
    refine (mrg_perm _ _ _).trans (((msort_perm n _).append (msort_perm n _)).trans ?_)
    rw [List.take_append_drop]
theorem leP_trans (a b c : PV) (h : leP a b = true) (h' : leP b c = true) : leP a c = true := by
  unfold leP ltP dataLt at *
  rw [Bool.not_eq_true'] at *
  have := (PyProof.Rows.listOrd PyProof.Rows.itemOrd).negTrans (keyToks (toD c)) (keyToks (toD b)) (keyToks (toD a))
  cases e : PyProof.Rows.lexLt PyProof.Rows.itemOrd (keyToks (toD c)) (keyToks (toD a)) with
  | false => rfl
  | true =>
    rcases this e with z | z
    · have z : PyProof.Rows.lexLt PyProof.Rows.itemOrd (keyToks (toD c)) (keyToks (toD b)) = true := z
      rw [h'] at z; cases z
    · have z : PyProof.Rows.lexLt PyProof.Rows.itemOrd (keyToks (toD b)) (keyToks (toD a)) = true := z
      rw [h] at z; cases z
theorem leP_total (a b : PV) : (leP a b || leP b a) = true := by
  unfold leP ltP dataLt
  cases e : PyProof.Rows.lexLt PyProof.Rows.itemOrd (keyToks (toD b)) (keyToks (toD a)) with
  | false => rfl
  | true =>
    cases e2 : PyProof.Rows.lexLt PyProof.Rows.itemOrd (keyToks (toD a)) (keyToks (toD b)) with
    | false => rfl
    | true =>
      have := (PyProof.Rows.listOrd PyProof.Rows.itemOrd).trans _ _ _ e e2
      rw [show (PyProof.Rows.listOrd PyProof.Rows.itemOrd).blt (keyToks (toD b)) (keyToks (toD b)) = false from PyProof.Rows.lex_irrefl _] at this
      cases this
theorem chain_pw : ∀ xs : List PV, chainB xs = true → xs.Pairwise fun a b => leP a b = true
  | [], _ => .nil
  | [x], _ => List.pairwise_singleton _ _
  | x :: y :: r, h => by
    unfold chainB at h
    rw [Bool.and_eq_true] at h
    have ih := chain_pw (y :: r) h.2
    refine .cons (fun z hz => ?_) ih
    rcases List.mem_cons.mp hz with rfl | hz
    · exact h.1
    · exact leP_trans _ _ _ h.1 ((List.pairwise_cons.mp ih).1 z hz)
mutual
theorem peq_same : ∀ p q : PV, srtA p = true → srtA q = true → peq p q = true → p = q
  | .int i, q, _, hq, h => by
    cases q with
    | int j => rw [show i = j from eq_of_beq h]
    | _ => first | (cases h; done) | (cases hq; done)
  | .str x, q, _, hq, h => by
    cases q with
    | str y => rw [show x = y from eq_of_beq h]
    | _ => first | (cases h; done) | (cases hq; done)
  | .tup xs, q, hp, hq, h => by
    cases q with
    | tup ys => rw [peqs_same xs ys hp hq h]
    | _ => first | (cases h; done) | (cases hq; done)
  | .lst xs, q, hp, hq, h => by
    cases q with
    | lst ys => rw [peqs_same xs ys hp hq h]
    | _ => first | (cases h; done) | (cases hq; done)
  | .non, _, hp, _, _ => by cases hp
  | .bl _, _, hp, _, _ => by cases hp
  | .dic _, _, hp, _, _ => by cases hp
  | .fn _, _, hp, _, _ => by cases hp
  | .ty _, _, hp, _, _ => by cases hp
  | .scr _, _, hp, _, _ => by cases hp
theorem peqs_same : ∀ xs ys : List PV, srtA.srtAs xs = true → srtA.srtAs ys = true → peqs xs ys = true → xs = ys
  | [], ys, _, _, h => by cases ys with | nil => rfl | cons _ _ => cases h
  | x :: xs, [], _, _, h => by cases h
  | x :: xs, y :: ys, hp, hq, h => by
    have hp' : (srtA x && srtA.srtAs xs) = true := hp
    have hq' : (srtA y && srtA.srtAs ys) = true := hq
    have h' : (peq x y && peqs xs ys) = true := h
    rw [Bool.and_eq_true] at hp' hq' h'
    rw [peq_same x y hp'.1 hq'.1 h'.1, peqs_same xs ys hp'.2 hq'.2 h'.2]
end
mutual
theorem srtA_pure : ∀ p : PV, srtA p = true → Mv.pure p = true
  | .int _, _ => rfl
  | .str _, _ => rfl
  | .tup xs, h => srtAs_pure xs h
  | .lst xs, h => srtAs_pure xs h
  | .non, h => by cases h
  | .bl _, h => by cases h
  | .dic _, h => by cases h
  | .fn _, h => by cases h
  | .ty _, h => by cases h
  | .scr _, h => by cases h
theorem srtAs_pure : ∀ xs : List PV, srtA.srtAs xs = true → Mv.pure.pures xs = true
  | [], _ => rfl
  | x :: xs, h => by
    have h' : (srtA x && srtA.srtAs xs) = true := h
    rw [Bool.and_eq_true] at h'
    show (Mv.pure x && Mv.pure.pures xs) = true
    rw [srtA_pure x h'.1, srtAs_pure xs h'.2]
    rfl
end
theorem toks_same {p q : PV} (hp : srtA p = true) (hq : srtA q = true) (ha : alike (toD p) (toD q) = true) (h : keyToks (toD p) = keyToks (toD q)) : p = q := by
  refine peq_same p q hp hq ?_
  rw [← peq_eqv p q (srtA_pure p hp) (srtA_pure q hq)]
  cases e : PyData.eqv (toD p) (toD q) with
  | true => rfl
  | false =>
    have := (toks_eqv (toD p) (toD q) ha).2 e [] [.inl 0]
    rw [h, PyProof.Rows.lex_irrefl, List.append_nil] at this
    have z := lex_pre (keyToks (toD q)) [] [.inl 0]
    rw [List.append_nil] at z
    rw [z] at this
    cases this
mutual
theorem shp_alike : ∀ p q : PV, shp p q = true → alike (toD p) (toD q) = true
  | .int i, q, h => by
    cases q with
    | int j => simp [toD, alike]
    | _ => cases h
  | .str x, q, h => by
    cases q with
    | str j => simp [toD, alike]
    | _ => cases h
  | .tup xs, q, h => by
    cases q with
    | tup ys => simp only [toD, alike]; exact shps_alike xs ys h
    | _ => cases h
  | .lst xs, q, h => by
    cases q with
    | lst ys => simp only [toD, alike]; exact shps_alike xs ys h
    | _ => cases h
  | .non, _, h => by cases h
  | .bl _, _, h => by cases h
  | .dic _, _, h => by cases h
  | .fn _, _, h => by cases h
  | .ty _, _, h => by cases h
  | .scr _, _, h => by cases h
theorem shps_alike : ∀ xs ys : List PV, shp.shps xs ys = true → alikeAll (toD.toDs xs) (toD.toDs ys) = true
  | [], ys, h => by simp [toD.toDs, alikeAll]
  | x :: xs, [], h => by cases h
  | x :: xs, y :: ys, h => by
    have h' : (shp x y && shp.shps xs ys) = true := h
    rw [Bool.and_eq_true] at h'
    simp only [toD.toDs, alikeAll]
    rw [shp_alike x y h'.1, shps_alike xs ys h'.2]
    rfl
end
mutual
theorem shp_join : ∀ p q r : PV, shp p q = true → shp p r = true → shp q r = true
  | .int i, q, r, h, h' => by
    cases q with
    | int j => cases r with | int k => rfl | _ => cases h'
    | _ => cases h
  | .str i, q, r, h, h' => by
    cases q with
    | str j => cases r with | str k => rfl | _ => cases h'
    | _ => cases h
  | .tup xs, q, r, h, h' => by
    cases q with
    | tup ys => cases r with | tup zs => exact shps_join xs ys zs h h' | _ => cases h'
    | _ => cases h
  | .lst xs, q, r, h, h' => by
    cases q with
    | lst ys => cases r with | lst zs => exact shps_join xs ys zs h h' | _ => cases h'
    | _ => cases h
  | .non, _, _, h, _ => by cases h
  | .bl _, _, _, h, _ => by cases h
  | .dic _, _, _, h, _ => by cases h
  | .fn _, _, _, h, _ => by cases h
  | .ty _, _, _, h, _ => by cases h
  | .scr _, _, _, h, _ => by cases h
theorem shps_join : ∀ xs ys zs : List PV, shp.shps xs ys = true → shp.shps xs zs = true → shp.shps ys zs = true
  | [], ys, zs, h, h' => by
    cases ys with
    | nil => exact h'
    | cons _ _ => cases h
  | x :: xs, ys, zs, h, h' => by
    cases ys with
    | nil => cases h
    | cons y ys =>
      cases zs with
      | nil => cases h'
      | cons z zs =>
        have a : (shp x y && shp.shps xs ys) = true := h
        have b : (shp x z && shp.shps xs zs) = true := h'
        rw [Bool.and_eq_true] at a b
        show (shp y z && shp.shps ys zs) = true
        rw [shp_join x y z a.1 b.1, shps_join xs ys zs a.2 b.2]
        rfl
end
theorem alike_refl_of {p q : PV} (h : shp p q = true) : shp q q = true := shp_join p q q h h
mutual
theorem shp_self : ∀ p : PV, srtA p = true → shp p p = true
  | .int _, _ => rfl
  | .str _, _ => rfl
  | .tup xs, h => shps_self xs h
  | .lst xs, h => shps_self xs h
  | .non, h => by cases h
  | .bl _, h => by cases h
  | .dic _, h => by cases h
  | .fn _, h => by cases h
  | .ty _, h => by cases h
  | .scr _, h => by cases h
theorem shps_self : ∀ xs : List PV, srtA.srtAs xs = true → shp.shps xs xs = true
  | [], _ => rfl
  | x :: xs, h => by
    have h' : (srtA x && srtA.srtAs xs) = true := h
    rw [Bool.and_eq_true] at h'
    show (shp x x && shp.shps xs xs) = true
    rw [shp_self x h'.1, shps_self xs h'.2]
    rfl
end
theorem pairs_all {xs : List PV} (hs : ∀ x ∈ xs, srtA x = true) (h : pairsB likP xs = true) : ∀ x ∈ xs, ∀ y ∈ xs, alike (toD x) (toD y) = true := by
  induction xs with
  | nil => exact fun x hx => nomatch hx
  | cons a r ih =>
    unfold pairsB at h
    rw [Bool.and_eq_true] at h
    have ih := ih (fun x hx => hs x (List.mem_cons_of_mem _ hx)) h.2
    have ha : ∀ y ∈ r, alike (toD a) (toD y) = true := fun y hy => List.all_eq_true.mp h.1 y hy
    intro x hx y hy
    rcases List.mem_cons.mp hx with hx | hx
    · rw [hx]
      rcases List.mem_cons.mp hy with hy | hy
      · rw [hy]; exact shp_alike _ _ (shp_self _ (hs _ List.mem_cons_self))
      · exact ha y hy
    · rcases List.mem_cons.mp hy with hy | hy
      · rw [hy, alike_comm]; exact ha x hx
      · exact ih x hx y hy
structure SrtOk (xs : List PV) : Prop where
  l : xs.length ≤ lnX
  a : ∀ x ∈ xs, srtA x = true
  d : ∀ x ∈ xs, okD 40 x = true
  al : ∀ x ∈ xs, ∀ y ∈ xs, alike (toD x) (toD y) = true
  k : (∀ x ∈ xs, neTup x = true) ∨ ∀ x ∈ xs, isTup x = false
theorem srtB_ok {xs : List PV} (h : srtB xs = true) : SrtOk xs := by
  unfold srtB at h
  rw [Bool.and_eq_true, Bool.and_eq_true, Bool.and_eq_true, Bool.and_eq_true] at h
  obtain ⟨⟨⟨⟨h0, h1⟩, h2⟩, h3⟩, h4⟩ := h
  have a := List.all_eq_true.mp h1
  refine ⟨of_decide_eq_true h0, a, List.all_eq_true.mp h2, ?_, ?_⟩
  · cases xs with
    | nil => exact fun x hx => nomatch hx
    | cons p r =>
      dsimp only at h3
      rw [Bool.or_eq_true] at h3
      rcases h3 with h3 | h3
      · have hp : ∀ x ∈ p :: r, shp p x = true := fun x hx => by
          rcases List.mem_cons.mp hx with rfl | hx
          · exact shp_self _ (a _ List.mem_cons_self)
          · exact List.all_eq_true.mp h3 x hx
        exact fun x hx y hy => shp_alike _ _ (shp_join p x y (hp x hx) (hp y hy))
      · exact pairs_all a h3
  · rw [Bool.or_eq_true] at h4
    rcases h4 with h4 | h4
    · exact .inl (List.all_eq_true.mp h4)
    · refine .inr fun x hx => ?_
      have := List.all_eq_true.mp h4 x hx
      simpa using this
theorem sortO_eq {xs ys : List PV} (h : sortO xs = some ys) : SrtOk xs ∧ ys = xs.mergeSort leP := by
  unfold sortO at h
  split at h
  · rename_i hc
    rw [Bool.and_eq_true] at hc
    have ok := srtB_ok hc.1
    refine ⟨ok, ?_⟩
    have e : msort xs.length xs = ys := Option.some.inj h
    subst e
    have p1 := msort_perm xs.length xs
    have p2 := List.mergeSort_perm xs leP
    refine List.Perm.eq_of_pairwise (le := fun a b => leP a b = true) (fun a b ha hb h1 h2 => ?_) (chain_pw _ hc.2) (List.pairwise_mergeSort leP_trans leP_total xs) (p1.trans p2.symm)
    have ma := p1.mem_iff.mp ha
    have mb := p2.mem_iff.mp hb
    refine toks_same (ok.a a ma) (ok.a b mb) (ok.al a ma b mb) ?_
    unfold leP ltP dataLt at h1 h2
    rw [Bool.not_eq_true'] at h1 h2
    exact (PyProof.Rows.listOrd PyProof.Rows.itemOrd).total _ _ h2 h1
  · cases h
end Mv
end
/-! file MvG -/
section
set_option linter.all false
set_option autoImplicit false
set_option maxRecDepth 100000
/-! Mv, part G: sorted(..). -/
namespace Mv
open PySem PySem.Calls PySem.Spec PyProof.Rows L2

/-- sorted(x), by what x's items are -/
theorem sorted_of {prog : Program} {w : World} {A : Around} {E : Value → Shared → Prop} {s : Shared} {x : Value} {vs : List Value} {β : Type} {bs : List β} {enc : β → PyData} {R : Value → β → Prop} {Q : Value → Shared → Prop}
    (hcol : ∀ (Q' : List Value → Shared → Prop), (∀ h' tk, (∀ b o, s.heap.get? b = some o → h'.get? b = some o) → Q' vs { s with heap := h', toks := tk }) → wpAny (model prog w) A.in1 (collect x) Q' E s)
    (e : PySem.W.EachIs R vs bs) (er : PySem.W.EachIs (fun v b => ∃ as, Reads s.heap v (enc b) as) vs bs) (hal : PySem.W.AllAlike (bs.map enc)) (hk : PySem.W.Sortable (bs.map enc)) (hL : bs.length ≤ sizeLine)
    (hu : ∀ b, b ∈ bs → A.units + 2 + (enc b).depth < cLine)
    (h : ∀ (h1 : Heap) (tk : Nat) (h2 : Heap) (D : Addr) (out : List Value) (n : Nat), (∀ b o, s.heap.get? b = some o → h1.get? b = some o) → D = h1.objs.size → (∀ b o, h1.get? b = some o → h2.get? b = some o) → h2.get? D = some (seqObj "list" (List.toArray out) n) → PySem.W.EachIs R out (bs.mergeSort (PySem.W.dataLe false enc)) → Q (.ref D) { s with heap := h2, toks := tk }) :
    wpAny (model prog w) A (call (.builtin "sorted") [x]) Q E s := by
  have hL' : vs.length ≤ sizeLine := by rw [e.length]; exact hL
  refine call_function_entry kind_sorted plain_sorted entry_sorted (args_sorted1 _) ?_
  unfold Builtin.«sorted»
  refine wpAny_bind (m := checkCount "sorted" 1 1 _) (wpAny_pure ?_)
  refine wpAny_bind (hcol _ fun h1 tk hk1 => ?_)
  refine wpAny_bind (wpAny_newList ?_ hL')
  have hD : (h1.push (seqObj "list" vs.toArray 0)).get? h1.objs.size = some (seqObj "list" vs.toArray 0) := Heap.get?_push_size _ rfl
  have old : ∀ b o, h1.get? b = some o → (h1.push (seqObj "list" vs.toArray 0)).get? b = some o := fun b o q => Heap.get?_push_of_some _ q
  have er' : PySem.W.EachIs (fun v b => ∃ as, Reads (PySem.W.sortingHeap (h1.push (seqObj "list" vs.toArray 0)) h1.objs.size vs) v (enc b) as) vs bs := er.mono fun _ _ ⟨as, r⟩ => ⟨as, PyProof.Rows.Reads.keeps (fun b o q => PySem.W.sortingHeap_old (Nat.ne_of_lt (Heap.lt_size (hk1 b o q))) (old b o (hk1 b o q))) r⟩
  have S := PySem.W.SortsAt.data (prog := prog) (w := w) (A := A.in1.in1) (s := { s with heap := PySem.W.sortingHeap (h1.push (seqObj "list" vs.toArray 0)) h1.objs.size vs, toks := tk }) (PySem.W.each_map (R := fun v d => ∃ as, Reads (PySem.W.sortingHeap (h1.push (seqObj "list" vs.toArray 0)) h1.objs.size vs) v d as) enc er') hal hk (PySem.W.bound_map hu)
  refine wpAny_bind (wpAny_holding (wpAny_call_entry slot_list_sort ⟨_, hD, rfl⟩ entry_list_sort ?_ (args_list_sort _)))
  refine PySem.W.list_sort_vals (s := { s with heap := h1.push (seqObj "list" vs.toArray 0), toks := tk }) hD S hL' ?_
  refine ⟨_, rfl, wpAny_pure ⟨_, rfl, ?_⟩⟩
  obtain ⟨n, hn⟩ := sortedHeap_at (vs := vs) (out := (PySem.W.sortVals (PySem.W.dataKind (PySem.W.sortingHeap (h1.push (seqObj "list" vs.toArray 0)) h1.objs.size vs) (bs.map enc)) false vs vs).toArray) hD
  refine h h1 tk _ h1.objs.size _ n hk1 rfl (fun b o q => ?_) hn (PySem.W.sortVals_data false e er' hal)
  rw [sortedHeap_old (Nat.ne_of_lt (Heap.lt_size q)) (Heap.lt_size (old b o q))]
  exact old b o q

/-- the items that a dict goes through -/
theorem kdl_raw {prog : Program} {w : World} {d : Addr} (lo : (d == sysModules) = false) (es : Array DictEntry) (ep : Nat) :
    PySem.W.KdlSrc prog w "dict" d d es.size (fun i v => ∃ hi : i < es.size, v = es[i].key) (fun h => h.DictRaw d es ep) where
  type := fun _ hm => hm.typeIs
  there := fun _ hm => by obtain ⟨o, ho, _⟩ := hm; exact ⟨Heap.lt_size ho, Heap.lt_size ho⟩
  keep := fun _ _ hm hk => hm.at fun o e => hk d (.inl rfl) o e
  notList := by decide
  notTuple := by decide
  hint := fun _ _ _ _ hm hq => PySem.W.kdl_hint_dict hm.typeIs hq
  iter := fun A s hh hm => by
    have hlt : d < s.heap.objs.size := by obtain ⟨o, ho, _⟩ := hm; exact Heap.lt_size ho
    exact ⟨_, _, (fun _ _ hq => wpAny_pyIter_dict_raw lo hm hq), Walks.rawKeys hh _ d (Nat.ne_of_lt hlt) es ep, ⟨⟨_, Heap.get?_push_size _ rfl, rfl, rfl⟩, hm.at fun o e => Heap.get?_push_of_some _ e⟩⟩

def itemsK : PV → Option (List PV)
  | .lst xs => some xs
  | .tup xs => some xs
  | .dic kvs => some (kvs.map (·.1))
  | _ => none
def sortedP : List PV → Option OV
  | [p] => (itemsK p).bind fun xs => (sortO xs).map OV.ls
  | _ => none
section
variable {g : Gi} {F : Addr → Prop} {X : Cx} {pins : List (Addr × Obj)} {s : Shared} {σ : L2.St} {H : Hp}
theorem vals_items {es : List (Int × V × V)} {kvs : List (PV × PV)} (r : RepDs g F H es kvs) : RepPs g F H (es.map fun e => e.2.1) (kvs.map (·.1)) := by
  induction es generalizing kvs with
  | nil => cases r; exact .nil
  | cons e es ih =>
    cases r with
    | cons a b c r => exact .cons b (ih r)
theorem vals_keys : ∀ {es : List (Int × V × V)} {ds : List DictEntry}, Paired EntP es ds → Vals (es.map fun e => e.2.1) (ds.map (·.key))
  | _, _, .nil => .nil
  | _, _, .cons ⟨_, h, _⟩ t => .cons h (vals_keys t)
/-- what stands in a list, a tuple, a dict: its items are collected so -/
theorem collect_any (I : Inv X pins σ H s) (hc : X.calm = true) (hK : X.K = g.K) {x : V} {u : Value} {p : PV} {ps : List PV} (r : RepV g F H x p) (hu : RelV x u) (hp : itemsK p = some ps) (hl : ps.length ≤ sizeLine) :
    ∃ (zs : List V) (vs : List Value), Vals zs vs ∧ RepPs g F H zs ps ∧ ∀ (Q' : List Value → Shared → Prop), (∀ h' tk, (∀ b o, s.heap.get? b = some o → h'.get? b = some o) → Q' vs { s with heap := h', toks := tk }) → wpAny (model X.prog X.w) X.A.in1 (collect u) Q' X.xe s := by
  cases p with
  | lst xs =>
    cases hp
    obtain ⟨a, vs, rfl, h, rs⟩ := r.lst
    obtain rfl : u = Value.ref a := hu
    obtain ⟨its, rv, pl, hz⟩ := I.list (.inl h)
    obtain ⟨o, ho, hcl, n, hd⟩ := pl.isList
    refine ⟨vs, its, rv, rs, fun Q' q => wpAny_collect_seq a (T := "list") (.inl rfl) ho hcl hd (fun h' hk => ?_) (by rw [List.size_toArray, ← rv.length]; exact hz)⟩
    exact q h' s.toks hk
  | tup xs =>
    cases hp
    obtain ⟨a, vs, rfl, h, rs⟩ := r.tup
    obtain rfl : u = Value.ref a := hu
    obtain ⟨its, rv, pl, hz⟩ := I.tuple (by rw [hK]; exact h)
    obtain ⟨o, ho, hcl, n, hd⟩ := pl
    refine ⟨vs, its, rv, rs, fun Q' q => wpAny_collect_seq a (T := "tuple") (.inr rfl) ho hcl hd (fun h' hk => ?_) (by rw [List.size_toArray, ← rv.length]; exact hz)⟩
    exact q h' s.toks hk
  | dic kvs =>
    cases hp
    obtain ⟨d, es, rfl, h, rd, n⟩ := r.dic
    obtain rfl : u = Value.ref d := hu
    obtain ⟨⟨hd, o, arr, ep, ho, ex, hdat, pr⟩, _, _⟩ := I.hok d _ h
    have hsz : arr.size = kvs.length := by rw [← Array.length_toList, ← Paired.length pr, rd.length]
    refine ⟨_, arr.toList.map (·.key), vals_keys pr, vals_items rd, fun Q' q => ?_⟩
    refine PySem.W.kdu_collect (kdl_raw hd arr ep) (I.ok.hd hc) ⟨o, ho, ex, hdat⟩ (by rw [hsz, ← List.length_map (f := fun x : PV × PV => x.1)]; exact hl) fun h' tk acc hk hacc => ?_
    have e : acc.toList = arr.toList.map (·.key) := by
      obtain ⟨h1, h2⟩ := hacc
      refine List.ext_getElem? fun i => ?_
      rw [Array.getElem?_toList, List.getElem?_map, Array.getElem?_toList]
      by_cases hi : i < arr.size
      · obtain ⟨v, hv⟩ : ∃ v, acc[i]? = some v := ⟨acc[i]'(by omega), Array.getElem?_eq_getElem (by omega)⟩
        obtain ⟨_, e⟩ := h2 i v hv
        rw [hv, e, Array.getElem?_eq_getElem hi]
        rfl
      · rw [Array.getElem?_eq_none (by omega), Array.getElem?_eq_none (by omega)]
        rfl
    rw [e]
    exact q h' tk hk
  | _ => cases hp
theorem zip_each {R : V → Value → Prop} {P : V → PV → Prop} : ∀ {zs : List V} {vs : List Value} {ps : List PV}, Paired R zs vs → Paired P zs ps → PySem.W.EachIs (fun v (b : V × PV) => R b.1 v ∧ P b.1 b.2) vs (zs.zip ps)
  | _, _, _, .nil, .nil => .nil
  | _, _, _, .cons h t, .cons h' t' => .cons ⟨h, h'⟩ (zip_each t t')
theorem reps_paired {zs : List V} {ps : List PV} (h : RepPs g F H zs ps) : Paired (RepP g F H) zs ps := by
  induction zs generalizing ps with
  | nil => cases h; exact .nil
  | cons z zs ih => cases h with | cons h t => exact .cons h (ih t)
theorem vals_paired {zs : List V} {vs : List Value} (h : Vals zs vs) : Paired RelV zs vs := by
  induction h with
  | nil => exact .nil
  | cons h t ih => exact .cons h ih
theorem each_split {bs : List (V × PV)} : ∀ {vs : List Value}, PySem.W.EachIs (fun v (b : V × PV) => RelV b.1 v ∧ RepP g F H b.1 b.2) vs bs → Vals (bs.map (·.1)) vs ∧ RepPs g F H (bs.map (·.1)) (bs.map (·.2)) := by
  induction bs with
  | nil => intro vs h; cases h; exact ⟨.nil, .nil⟩
  | cons b bs ih =>
    intro vs h
    cases h with
    | cons h t =>
      obtain ⟨a, c⟩ := ih t
      exact ⟨.cons h.1 a, .cons h.2 c⟩
def rSrt (g : Gi) : List V → Hp → VK → Prop := fun xs H Q => ∃ F x p ps, xs = [x] ∧ RepV g F H x p ∧ itemsK p = some ps ∧ SrtOk ps ∧ ps.length ≤ sizeLine ∧ ∀ a zs, RepPs g F H zs (ps.mergeSort leP) → H a = none → Q (.ref a) (upd H a (.lst zs))
theorem cr_srt (hc : X.calm = true) (hu : X.A.units + 65 < cLine) (hK : X.K = g.K) : CallR X (.builtin "sorted") (rSrt g) := by
  intro pins s σ H xs us Q I rxs h
  obtain ⟨F, x, p, ps, rfl, rv, hp, ok, hl, q⟩ := h
  obtain ⟨u, rfl, ru⟩ := Vals.one rxs
  obtain ⟨zs, vs, hv, hr, hcol⟩ := collect_any I hc hK rv ru hp hl
  have hlz : zs.length = ps.length := hr.length
  have e := zip_each (vals_paired hv) (reps_paired hr)
  have e2 : (zs.zip ps).map (·.2) = ps := List.map_snd_zip (by omega)
  have hmem : ∀ b ∈ zs.zip ps, b.2 ∈ ps := fun b hb => (List.of_mem_zip hb).2
  have er : PySem.W.EachIs (fun v (b : V × PV) => ∃ as, Reads s.heap v (toD b.2) as) vs (zs.zip ps) := (PySem.W.each_mem e).mono fun v b ⟨⟨h1, h2⟩, hb⟩ => Dp.reads I (toD b.2) b.1 v (by rw [hK]; exact h2.dp (srtA_pure _ (ok.a _ (hmem b hb)))) h1
  refine sorted_of (enc := fun b : V × PV => toD b.2) hcol e er ?_ ?_ ?_ ?_ ?_
  · intro d hd d' hd'
    obtain ⟨b, hb, rfl⟩ := List.mem_map.mp hd
    obtain ⟨b', hb', rfl⟩ := List.mem_map.mp hd'
    exact ok.al _ (hmem b hb) _ (hmem b' hb')
  · rcases ok.k with k | k
    · refine .inl fun d hd => ?_
      obtain ⟨b, hb, rfl⟩ := List.mem_map.mp hd
      have := k _ (hmem b hb)
      revert this
      cases b.2 with
      | tup ys => cases ys with
        | nil => intro z; cases z
        | cons y ys => intro _; exact ⟨_, _, rfl⟩
      | _ => intro z; cases z
    · refine .inr fun d hd => ?_
      obtain ⟨b, hb, rfl⟩ := List.mem_map.mp hd
      have h1 := k _ (hmem b hb)
      have h2 := ok.a _ (hmem b hb)
      revert h1 h2
      cases b.2 <;> intro h1 h2 <;> first | (cases h1; done) | (cases h2; done) | exact ⟨(fun z => nomatch z), (fun xs z => nomatch z)⟩
  · rw [List.length_zip]; omega
  · intro b hb
    have := (okD_ok 40 _ (ok.d _ (hmem b hb))).2
    show X.A.units + 2 + (toD b.2).depth < cLine
    omega
  · intro h1 tk h2 D out n hk1 hD hk2 hg eo
    have ee : (zs.zip ps).mergeSort (PySem.W.dataLe false fun b : V × PV => toD b.2) = (zs.zip ps).mergeSort (fun a b => leP a.2 b.2) := rfl
    rw [ee] at eo
    obtain ⟨a1, a2⟩ := each_split eo
    have e3 : ((zs.zip ps).mergeSort (fun a b => leP a.2 b.2)).map (·.2) = ps.mergeSort leP := by
      rw [List.map_mergeSort (r := fun a b => leP a.2 b.2) (s := leP) (f := fun b : V × PV => b.2) (fun a _ b _ => rfl), e2]
    rw [e3] at a2
    have I1 : Inv X pins σ H { s with heap := h1, toks := tk } := I.kept hk1
    have hlen : (((zs.zip ps).mergeSort (fun a b => leP a.2 b.2)).map (·.1)).length ≤ sizeLine := by
      rw [List.length_map, List.length_mergeSort, List.length_zip]; omega
    refine ⟨.ref D, upd H D (.lst _), I1.laid (t' := tk) hk2 (by rw [hD]; exact Nat.le_refl _) ⟨hlen, out, n, a1, hg⟩, rfl, q D _ a2 ?_⟩
    rw [hD]
    exact I1.hok.fresh (Nat.le_refl _)
theorem s_sorted : SN g (rSrt g) sortedP := fun F H xs ps o Q hx e f => by
  unfold sortedP at e
  split at e
  · obtain ⟨ys, e1, e⟩ := Option.bind_eq_some_iff.mp e
    obtain ⟨zs, e2, rfl⟩ := Option.map_eq_some_iff.mp e
    obtain ⟨x, rfl, h⟩ := hx.one
    obtain ⟨ok, rfl⟩ := sortO_eq e2
    exact ⟨F, x, _, ys, rfl, h, e1, ok, by rw [sizeLine_eq]; exact ok.l, fun a zs r ha => f.new r ha⟩
  · cases e
end
end Mv
end
/-! file MvB4 -/
section
set_option linter.all false
set_option autoImplicit false
set_option maxRecDepth 100000
/-! Mv, part B4: places, membership, sums, greatest and least. -/
namespace Mv
open PySem PySem.Spec PyProof.Rows L2

section
variable {g : Gi} {W : WX} {F F1 F2 : Addr → Prop} {H H1 H2 : Hp} {X : Cx}

/-! ### x[i] -/
theorem s_get (hK : X.K = g.K) : S2 g (fun x y H Q => rIxA X.K x y H Q ∨ rGetD g x y H Q) getP := fun F H x y p q o Q hx hy e f => by
  unfold getP at e
  split at e
  · obtain ⟨z, e1, rfl⟩ := Option.map_eq_some_iff.mp e
    obtain ⟨a, vs, rfl, h1, r1⟩ := hx.tup
    obtain ⟨v, hv, rv⟩ := s_ixV r1 e1
    exact .inl (.inr (.inl ⟨a, vs, _, v, rfl, hy.int, by rw [hK]; exact h1, hv, f.val rv⟩))
  · obtain ⟨z, e1, rfl⟩ := Option.map_eq_some_iff.mp e
    obtain ⟨a, vs, rfl, h1, r1⟩ := hx.lst
    obtain ⟨v, hv, rv⟩ := s_ixV r1 e1
    exact .inl (.inl ⟨a, vs, _, v, rfl, hy.int, .inl h1, hv, f.val rv⟩)
  · rename_i s i
    split at e
    · rename_i hl
      obtain ⟨c, e1, rfl⟩ := Option.map_eq_some_iff.mp e
      exact .inl (.inr (.inr ⟨s, i, c, hx.str, hy.int, by rw [sizeLine_eq]; exact hl, e1, f.val (.str _)⟩))
    · cases e
  · rename_i kvs
    split at e
    · rename_i hk
      obtain ⟨z, e1, rfl⟩ := Option.map_eq_some_iff.mp e
      obtain ⟨d, es, rfl, h1, r1, n⟩ := hx.dic
      exact .inr ⟨F, d, es, _, _, z, ⟨rfl, h1, r1, n, hy.key (keyOk_K hk), hk⟩, e1, fun v rv => f.val rv⟩
    · cases e
  · cases e
theorem ix_G (hu : X.A.units + 9 < cLine) (hK : X.K = g.K) (hW : X.w = g.w) : IxR X (fun x y H Q => rIxA X.K x y H Q ∨ rGetD g x y H Q) := ix_A.or (ix_dc hu hK hW)

/-! ### in -/
def rInG (g : Gi) (K : PySem.W.Frag) : R2 := fun x y H Q => rInD K x y H Q ∨ (rInTD K x y H Q ∨ rInDc g false x y H Q)
def rNinG (g : Gi) (K : PySem.W.Frag) : R2 := fun x y H Q => rNotInD K x y H Q ∨ (rNotInTD K x y H Q ∨ rInDc g true x y H Q)
theorem op_inG (hu : X.A.units + 65 < cLine) (hK : X.K = g.K) (hW : X.w = g.w) : OpR X (compareOp .In) (rInG g X.K) := (op_inD hu).or ((op_inTD hu).or (op_inDc (by omega) hK hW))
theorem op_ninG (hu : X.A.units + 65 < cLine) (hK : X.K = g.K) (hW : X.w = g.w) : OpR X (compareOp .NotIn) (rNinG g X.K) := (op_notInD hu).or ((op_notInTD hu).or (op_ninDc (by omega) hK hW))
theorem okD_lst {n : Nat} {xs : List PV} (h : xs.all (okD n) = true) : okD (n + 1) (.lst xs) = true := h
theorem okD_tup {n : Nat} {xs : List PV} (h : xs.all (okD n) = true) : okD (n + 1) (.tup xs) = true := h
theorem s_in (hK : X.K = g.K) : S2 g (rInG g X.K) fun p q => (inB p q).map fun b => .val (.bl b) := fun F H x y p q o Q hx hy e f => by
  obtain ⟨b, e1, rfl⟩ := Option.map_eq_some_iff.mp e
  unfold inB at e1
  split at e1
  · rename_i xs
    split at e1
    · rename_i h
      rw [Bool.and_eq_true] at h
      cases e1
      have hp := okD_pure _ _ h.1
      have hq := okD_pure 64 (.lst xs) h.2
      refine .inl ⟨_, _, by rw [hK]; exact hx.dp hp, by rw [hK]; exact hy.dp hq, okD_shaped h.1, okD_shaped (p := .lst xs) h.2, ?_⟩
      rw [any_eqv hp hq]
      exact f.val (.bl _)
    · cases e1
  · rename_i xs
    split at e1
    · rename_i h
      rw [Bool.and_eq_true] at h
      cases e1
      have hp := okD_pure _ _ h.1
      have hq := okD_pure 64 (.tup xs) h.2
      refine .inr (.inl ⟨_, _, by rw [hK]; exact hx.dp hp, by rw [hK]; exact hy.dp hq, okD_shaped h.1, okD_shaped (p := .tup xs) h.2, ?_⟩)
      rw [any_eqv hp hq]
      exact f.val (.bl _)
    · cases e1
  · rename_i kvs
    split at e1
    · rename_i hk
      cases e1
      obtain ⟨d, es, rfl, h1, r1, n⟩ := hy.dic
      refine .inr (.inr ⟨F, d, es, kvs, p, ⟨rfl, h1, r1, n, hx.key (keyOk_K hk), hk⟩, ?_⟩)
      rw [show (false != (lookP kvs p).isSome) = (lookP kvs p).isSome by simp]
      exact f.val (.bl _)
    · cases e1
  · cases e1
theorem s_nin (hK : X.K = g.K) : S2 g (rNinG g X.K) fun p q => (ninB p q).map fun b => .val (.bl b) := fun F H x y p q o Q hx hy e f => by
  obtain ⟨b', e0, rfl⟩ := Option.map_eq_some_iff.mp e
  unfold ninB at e0
  obtain ⟨b, e1, rfl⟩ := Option.map_eq_some_iff.mp e0
  unfold inB at e1
  split at e1
  · rename_i xs
    split at e1
    · rename_i h
      rw [Bool.and_eq_true] at h
      cases e1
      have hp := okD_pure _ _ h.1
      have hq := okD_pure 64 (.lst xs) h.2
      refine .inl ⟨_, _, by rw [hK]; exact hx.dp hp, by rw [hK]; exact hy.dp hq, okD_shaped h.1, okD_shaped (p := .lst xs) h.2, ?_⟩
      rw [any_eqv hp hq]
      exact f.val (.bl _)
    · cases e1
  · rename_i xs
    split at e1
    · rename_i h
      rw [Bool.and_eq_true] at h
      cases e1
      have hp := okD_pure _ _ h.1
      have hq := okD_pure 64 (.tup xs) h.2
      refine .inr (.inl ⟨_, _, by rw [hK]; exact hx.dp hp, by rw [hK]; exact hy.dp hq, okD_shaped h.1, okD_shaped (p := .tup xs) h.2, ?_⟩)
      rw [any_eqv hp hq]
      exact f.val (.bl _)
    · cases e1
  · rename_i kvs
    split at e1
    · rename_i hk
      cases e1
      obtain ⟨d, es, rfl, h1, r1, n⟩ := hy.dic
      refine .inr (.inr ⟨F, d, es, kvs, p, ⟨rfl, h1, r1, n, hx.key (keyOk_K hk), hk⟩, ?_⟩)
      rw [show (true != (lookP kvs p).isSome) = !(lookP kvs p).isSome by simp]
      exact f.val (.bl _)
    · cases e1
  · cases e1

/-! ### sum, max, min -/
theorem RepVs.three {xs : List V} {p q r : PV} (h : RepVs g F H xs [p, q, r]) : ∃ x y z, xs = [x, y, z] ∧ RepV g F H x p ∧ RepV g F H y q ∧ RepV g F H z r := by
  cases h with
  | cons h t => cases t with | cons h' t => cases t with | cons h'' t => cases t; exact ⟨_, _, _, rfl, h, h', h''⟩
def rSumT (K : PySem.W.Frag) : List V → Hp → VK → Prop := fun vs H Q => ∃ (a : Addr) (ns : List Int), vs = [V.ref a] ∧ SqT K H a (ns.map V.int) ∧ Q (.int ns.sum) H
theorem cr_sumT (hc : X.calm = true) : CallR X (.builtin "sum") (rSumT X.K) := by
  intro pins s σ H vs us Q I r h
  obtain ⟨a, ns, rfl, hs, q⟩ := h
  obtain ⟨its, rv, pl, _⟩ := I.tuple hs
  rw [Vals.ref1 r]
  have hi := rv.ints
  obtain ⟨xs, e⟩ := hi.allInts.items
  have hn : numsOf (intItems xs).toList = ns := by rw [← e]; exact hi.numsOf
  rw [nums_intItems] at hn
  rw [e] at pl
  refine PySem.W.ktm_sumG (I.ok.hd hc) (show s.heap.IsTuple a (intItems xs) from pl) fun h' tk t' hk => ?_
  rw [preSum_eq, List.take_of_length_le (by simp), hn]
  exact ⟨.int _, H, I.kept hk, ⟨_, rfl⟩, q⟩
theorem c_sum (hc : X.calm = true) : CallR X (.builtin "sum") (fun xs H Q => rSum X.K xs H Q ∨ rSumT X.K xs H Q) := CallR.or (cr_sum hc) (cr_sumT hc)
theorem s_sum (hK : X.K = g.K) : SN g (fun xs H Q => rSum X.K xs H Q ∨ rSumT X.K xs H Q) sumP := fun F H xs ps o Q hx e f => by
  unfold sumP at e
  split at e
  · obtain ⟨ns, e1, rfl⟩ := Option.map_eq_some_iff.mp e
    obtain ⟨x, rfl, h⟩ := hx.one
    obtain ⟨a, vs, rfl, h1, r1⟩ := h.lst
    exact .inl ⟨a, ns, rfl, by rw [← ints_rep r1 e1]; exact .inl h1, f.val (.int _)⟩
  · obtain ⟨ns, e1, rfl⟩ := Option.map_eq_some_iff.mp e
    obtain ⟨x, rfl, h⟩ := hx.one
    obtain ⟨a, vs, rfl, h1, r1⟩ := h.tup
    exact .inr ⟨a, ns, rfl, by rw [← ints_rep r1 e1, hK]; exact h1, f.val (.int _)⟩
  · cases e
theorem foldMax : ∀ (xs : List Int) (x : Int), xs.foldl max x ∈ x :: xs ∧ ∀ y ∈ x :: xs, y ≤ xs.foldl max x
  | [], x => ⟨List.mem_cons_self, fun y hy => by rw [List.mem_singleton.mp hy]; exact Int.le_refl _⟩
  | z :: xs, x => by
    obtain ⟨h1, h2⟩ := foldMax xs (max x z)
    refine ⟨?_, fun y hy => ?_⟩
    · rw [List.foldl_cons]
      rcases List.mem_cons.mp h1 with h | h
      · rw [h]
        rcases Int.le_total x z with k | k
        · rw [Int.max_eq_right k]; simp
        · rw [Int.max_eq_left k]; simp
      · exact List.mem_cons_of_mem _ (List.mem_cons_of_mem _ h)
    · rw [List.foldl_cons]
      have hm := h2 (max x z) List.mem_cons_self
      rcases List.mem_cons.mp hy with h | h
      · subst h; exact Int.le_trans (Int.le_max_left _ _) hm
      · rcases List.mem_cons.mp h with h | h
        · subst h; exact Int.le_trans (Int.le_max_right _ _) hm
        · exact h2 y (List.mem_cons_of_mem _ h)
theorem foldMin : ∀ (xs : List Int) (x : Int), xs.foldl min x ∈ x :: xs ∧ ∀ y ∈ x :: xs, xs.foldl min x ≤ y
  | [], x => ⟨List.mem_cons_self, fun y hy => by rw [List.mem_singleton.mp hy]; exact Int.le_refl _⟩
  | z :: xs, x => by
    obtain ⟨h1, h2⟩ := foldMin xs (min x z)
    refine ⟨?_, fun y hy => ?_⟩
    · rw [List.foldl_cons]
      rcases List.mem_cons.mp h1 with h | h
      · rw [h]
        rcases Int.le_total x z with k | k
        · rw [Int.min_eq_left k]; simp
        · rw [Int.min_eq_right k]; simp
      · exact List.mem_cons_of_mem _ (List.mem_cons_of_mem _ h)
    · rw [List.foldl_cons]
      have hm := h2 (min x z) List.mem_cons_self
      rcases List.mem_cons.mp hy with h | h
      · subst h; exact Int.le_trans hm (Int.min_le_left _ _)
      · rcases List.mem_cons.mp h with h | h
        · subst h; exact Int.le_trans hm (Int.min_le_right _ _)
        · exact h2 y (List.mem_cons_of_mem _ h)
abbrev rMax2 : List V → Hp → VK → Prop := fun xs H Q => ∃ i j, xs = [.int i, .int j] ∧ Q (.int (if j > i then j else i)) H
abbrev rMin2 : List V → Hp → VK → Prop := fun xs H Q => ∃ i j, xs = [.int i, .int j] ∧ Q (.int (if j < i then j else i)) H
theorem c_max (hc : X.calm = true) : CallR X (.builtin "max") (fun xs H Q => rMax X.K xs H Q ∨ (rMax2 xs H Q ∨ rNuC3 nuMax3 xs H Q)) := CallR.or (cr_max hc) (CallR.or (call_max2 hc) (call_max3Nu hc))
theorem c_min (hc : X.calm = true) : CallR X (.builtin "min") (fun xs H Q => rMin X.K xs H Q ∨ (rMin2 xs H Q ∨ rNuC3 nuMin3 xs H Q)) := CallR.or (cr_min hc) (CallR.or (call_min2 hc) (call_min3Nu hc))
theorem s_max (hK : X.K = g.K) : SN g (fun xs H Q => rMax X.K xs H Q ∨ (rMax2 xs H Q ∨ rNuC3 nuMax3 xs H Q)) maxP := fun F H xs ps o Q hx e f => by
  unfold maxP at e
  split at e
  · obtain ⟨ns, e1, e⟩ := Option.bind_eq_some_iff.mp e
    obtain ⟨m, e2, rfl⟩ := Option.map_eq_some_iff.mp e
    obtain ⟨x, rfl, h⟩ := hx.one
    obtain ⟨a, vs, rfl, h1, r1⟩ := h.lst
    cases ns with
    | nil => cases e2
    | cons n ns =>
      have e3 : ns.foldl max n = m := Option.some.inj e2
      obtain ⟨q1, q2⟩ := foldMax ns n
      rw [e3] at q1 q2
      refine .inl ⟨a, n :: ns, rfl, by rw [← ints_rep r1 e1]; exact .inl h1, Nat.succ_pos _, fun k hk hk2 => ?_⟩
      rw [Int.le_antisymm (q2 k hk) (hk2 m q1)]
      exact f.val (.int _)
  · cases e
  · cases e
    obtain ⟨x, y, rfl, h, h'⟩ := hx.two
    exact .inr (.inl ⟨_, _, by rw [h.int, h'.int], f.val (.int _)⟩)
  · rename_i i j k
    cases e
    obtain ⟨x, y, z, rfl, h, h', h''⟩ := hx.three
    refine .inr (.inr ⟨.int i, .int j, .int k, _, by rw [h.int, h'.int, h''.int], ?_, f.val (.int _)⟩)
    by_cases z1 : i < j
    · by_cases z2 : j < k <;> simp [nuMax3, nuMax2, nuLt, nuCB, z1, z2]
    · by_cases z2 : i < k <;> simp [nuMax3, nuMax2, nuLt, nuCB, z1, z2]
  · cases e
theorem s_min (hK : X.K = g.K) : SN g (fun xs H Q => rMin X.K xs H Q ∨ (rMin2 xs H Q ∨ rNuC3 nuMin3 xs H Q)) minP := fun F H xs ps o Q hx e f => by
  unfold minP at e
  split at e
  · obtain ⟨ns, e1, e⟩ := Option.bind_eq_some_iff.mp e
    obtain ⟨m, e2, rfl⟩ := Option.map_eq_some_iff.mp e
    obtain ⟨x, rfl, h⟩ := hx.one
    obtain ⟨a, vs, rfl, h1, r1⟩ := h.lst
    cases ns with
    | nil => cases e2
    | cons n ns =>
      have e3 : ns.foldl min n = m := Option.some.inj e2
      obtain ⟨q1, q2⟩ := foldMin ns n
      rw [e3] at q1 q2
      refine .inl ⟨a, n :: ns, rfl, by rw [← ints_rep r1 e1]; exact .inl h1, Nat.succ_pos _, fun k hk hk2 => ?_⟩
      rw [Int.le_antisymm (hk2 m q1) (q2 k hk)]
      exact f.val (.int _)
  · cases e
  · cases e
    obtain ⟨x, y, rfl, h, h'⟩ := hx.two
    exact .inr (.inl ⟨_, _, by rw [h.int, h'.int], f.val (.int _)⟩)
  · rename_i i j k
    cases e
    obtain ⟨x, y, z, rfl, h, h', h''⟩ := hx.three
    refine .inr (.inr ⟨.int i, .int j, .int k, _, by rw [h.int, h'.int, h''.int], ?_, f.val (.int _)⟩)
    by_cases z1 : j < i
    · by_cases z2 : k < j <;> simp [nuMin3, nuMin2, nuLt, nuCB, z1, z2]
    · by_cases z2 : k < i <;> simp [nuMin3, nuMin2, nuLt, nuCB, z1, z2]
  · cases e
end
end Mv
end
/-! file MvI0 -/
section
set_option linter.all false
set_option autoImplicit false
set_option maxRecDepth 100000
/-! Mv, part I0: enumerate begins. -/
namespace PySem
open Sem (wp)
set_option maxHeartbeats 1000000 in
theorem mv_enumerate_new {v : Value} {o : Obj} {H : Heap → Prop} (B : Begins v o H) :
    Meets (Builtin.«enumerate.__new__» ⟨[.type "enumerate", v], []⟩) (fun _ R s => H s.heap ∧
      R (.ok (.ret (.ref (s.heap.push o).objs.size))) { s with heap := (s.heap.push o).push { cls := .type "enumerate", data := .fields #[.none, .bool false, .ref s.heap.objs.size, rawInt 0, .none, .none] } }) :=
  .of_wp fun prog w A R s h => by
    obtain ⟨hp, g, d, tk, os⟩ := s; obtain ⟨h1, h⟩ := h
    have hsub := sub_enumerate
    have q1 : ∀ {A' : Around} {E : Value → Shared → Prop} {Q : Value → Shared → Prop}, Q (.ref hp.objs.size) ⟨hp.push o, g, d, tk, os⟩ → wpAny (model prog w) A' (pyIter v) Q E ⟨hp, g, d, tk, os⟩ :=
      fun q => B.iter prog w _ _ ⟨hp, g, d, tk, os⟩ _ h1 q
    wp_walk using q1
    refine wpAny_stack_any fun st => wpAny_pure ?_
    split
    · rename_i c _ _ _ _ _
      cases (c == Value.type "enumerate")
      · wp_walk using q1
        exact ⟨_, rfl, h⟩
      · wp_walk using q1
        exact ⟨_, rfl, h⟩
    · wp_walk using q1
      exact ⟨_, rfl, h⟩
theorem mv_call_enumerate {prog : Program} {w : World} {A : Around} {E : Value → Shared → Prop} {s : Shared} {v : Value} {o : Obj} {H : Heap → Prop} {Q : Value → Shared → Prop} (B : Begins v o H) (h1 : H s.heap)
    (h : ∀ h', IsEnum h' (s.heap.objs.size + 1) s.heap.objs.size 0 .none → h'.get? s.heap.objs.size = some o → (∀ b ob, s.heap.get? b = some ob → h'.get? b = some ob) → Q (.ref (s.heap.objs.size + 1)) { s with heap := h' }) :
    wpAny (model prog w) A (call (.type "enumerate") [v]) Q E s := by
  refine callType_new F.called_enumerate (by decide) (F.typeCall_enumerate_1 _) (F.newCall_enumerate_1 _) (fun obj => F.args_object_init_2 obj _) F.entry_enumerate_new (mv_enumerate_new B) ⟨h1, ?_⟩
  have hz : (s.heap.push o).objs.size = s.heap.objs.size + 1 := Heap.size_push ..
  show _ ∧ _
  rw [hz]
  have he : IsEnum ((s.heap.push o).push { cls := .type "enumerate", data := .fields #[.none, .bool false, .ref s.heap.objs.size, rawInt 0, .none, .none] }) (s.heap.objs.size + 1) s.heap.objs.size 0 .none := by
    have := Heap.get?_push_size (s.heap.push o) (o := { cls := .type "enumerate", data := .fields #[.none, .bool false, .ref s.heap.objs.size, rawInt 0, .none, .none] }) rfl
    rw [hz] at this; exact this
  exact ⟨⟨_, he, rfl⟩, h _ he (Heap.get?_push_of_some _ (Heap.get?_push_size _ B.free)) fun b ob x => Heap.get?_push_of_some _ (Heap.get?_push_of_some _ x)⟩
end PySem
end
/-! file MvI -/
section
set_option linter.all false
set_option autoImplicit false
set_option maxRecDepth 100000
/-! Mv, part I: enumerate, zip. -/
open PySem
namespace L2
open PySem PySem.Spec PyProof.Rows
/-- the tuple at a, each item in a new pair with its place -/
def IteT (K : PySem.W.Frag) (a : Addr) : It :=
  ⟨fun i H => ∃ (xs : List V) (x : V), SqT K H a xs ∧ xs[i]? = some x, fun i H v H' => ∃ T x, v = .ref T ∧ H T = none ∧ H' = upd H T (.tup [.int (i : Nat), x]) ∧ ∀ xs, SqT K H a xs → xs[i]? = some x, fun i H => ∃ xs : List V, SqT K H a xs ∧ xs.length ≤ i⟩
theorem turn_enumT {P : Program} {w : World} {K : PySem.W.Frag} {elts : List Expr} {kk : Nat} {tpos : Pos} (a e it : Addr) :
    Turn P w K (.Tuple elts kk tpos) (IteT K a) [e, it] e (fun i h => (∃ old, IsEnum h e it ((i : Nat) : Int) old) ∧ h.IsTupleIter it a i ∧ e ≠ it ∧ a ≠ it) where
  mem := by simp
  obj := fun i h st b hb => by
    obtain ⟨⟨old, he⟩, ⟨o, ho, hc, hd⟩, _⟩ := st
    have e' : b = e ∨ b = it := by simpa using hb
    rcases e' with z | z
    · rw [z]; exact ⟨_, he, fun v q => nomatch q⟩
    · rw [z]; exact ⟨o, ho, fun v q => by rw [hd] at q; cases q⟩
  keep := fun i h h' st k => let ⟨⟨old, he⟩, ⟨o, ho, r⟩, hne⟩ := st; ⟨⟨old, k e (by simp) _ he⟩, ⟨o, k it (by simp) o ho, r⟩, hne⟩
  item := by
    intro X hP hw hK hc i pins s σ H E I hf st hg
    subst hP hw hK
    obtain ⟨⟨old, he⟩, hit, hne, hae⟩ := st
    obtain ⟨xs, x, hq, hx⟩ := hg
    obtain ⟨its, rv, p, hz⟩ := I.tuple hq
    obtain ⟨u, hu, ru⟩ := rv.get hx
    have hea : e ≠ a := by
      intro z
      obtain ⟨o, ho, hcl, _⟩ := id p
      have he : s.heap.get? e = some _ := he
      rw [z, ho] at he
      cases he
      have hcl : Value.type "enumerate" = Value.type "tuple" := hcl
      exact absurd hcl (by decide)
    have hel : e < s.heap.objs.size := Heap.lt_size he
    have hlt : i < its.toArray.size := by simpa using (List.getElem?_eq_some_iff.mp hu).1
    refine wpAny_pyNext_enum_itemD (Draws.tuple (A := X.A.in1) (I.ok.hd hc) it a hae its.toArray) he ⟨hit, (show s.heap.IsTuple a its.toArray from p)⟩ hlt hne (by simp [hne, hea]) fun x' h' tk hP ho st' hT hsz hk => ?_
    have ex : x' = u := by
      have e1 : its.toArray[i]? = some u := by simpa using hu
      have hP : its.toArray[i]? = some x' := hP
      rw [e1] at hP
      exact (Option.some.inj hP).symm
    subst ex
    obtain ⟨hit', _⟩ := st'
    refine ⟨_, rfl, wpAny_letOwnedTupleGo_enum (s := { s with heap := h', toks := tk + 1 }) ho fun h'' he' sb => ?_⟩
    have hT2 : h''.get? s.heap.objs.size = some { cls := .type "tuple", data := .seq #[.int i tk, x'] } := (sb.2 _ (Nat.ne_of_gt hel)).trans hT
    have new : ObjOk X.prog X.w (upd H s.heap.objs.size (.tup [.int (i : Nat), x])) h'' s.heap.objs.size (.tup [.int (i : Nat), x]) :=
      ⟨by show 2 ≤ sizeLine; decide, [.int i tk, x'], .cons ⟨_, rfl⟩ (.cons ru .nil), ⟨_, hT2, rfl, _, rfl⟩⟩
    have I1 : Inv X pins σ (upd H s.heap.objs.size (.tup [.int (i : Nat), x])) { s with heap := h'', toks := tk + 1 } :=
      I.turnedNew (ch := [e, it]) (fun b ob hb q => (sb.2 b (fun z => hb (by simp [z]))).trans (hk b ob (fun z => hb (by simp [z])) (fun z => hb (by simp [z])) q)) hf (Nat.le_refl _) new
    obtain ⟨oi, hoi, ri⟩ := hit'
    refine ⟨.ref s.heap.objs.size, _, I1, rfl, ⟨_, x, rfl, I.hok.fresh (Nat.le_refl _), rfl, fun ys hy => ?_⟩, ⟨⟨x', ?_⟩, ⟨oi, (sb.2 it (Ne.symm hne)).trans hoi, ri⟩, hne, hae⟩, fun b hb => ?_⟩
    · rw [I.tuple_inj hy hq]; exact hx
    · have e1 : ((i + 1 : Nat) : Int) = (i : Int) + 1 := by omega
      rw [e1]; exact he'
    · have hb' : b < s.heap.objs.size := by
        have e' : b = e ∨ b = it := by simpa using hb
        rcases e' with z | z
        · rw [z]; exact hel
        · rw [z]; obtain ⟨_, q, _⟩ := hit; exact Heap.lt_size q
      rw [upd_ne (Nat.ne_of_lt hb')]
      exact (hf b hb).1
  done := by
    intro X hP hw hK hc i pins s σ H E I hf st hg
    subst hP hw hK
    obtain ⟨⟨old, he⟩, hit, hne, hae⟩ := st
    obtain ⟨xs, hq, hx⟩ := hg
    obtain ⟨its, rv, p, hz⟩ := I.tuple hq
    obtain ⟨f0, f1, f2, f3, f4, f5⟩ := hf it (by simp)
    have hl := rv.length
    have D : Draws X.prog X.w X.A.in1 it [it, a] i (fun _ _ => False) (fun j h => j = i ∧ h.IsTupleIter it a i ∧ h.IsTuple a its.toArray) :=
      ⟨fun j h st => by obtain ⟨_, ⟨o, ho, _⟩, _⟩ := st; exact ⟨o, ho⟩,
       fun j h h' st k => by
        obtain ⟨z, ⟨o, ho, r⟩, ⟨o2, ho2, r2⟩⟩ := st
        exact ⟨z, ⟨o, k it (by simp) o ho, r⟩, ⟨o2, k a (by simp) o2 ho2, r2⟩⟩,
       fun j s Q E hj st _ => absurd st.1 (Nat.ne_of_lt hj),
       fun s Q E st hE => wpAny_nextOf_tuple_end (I.ok.hd hc) st.2.1 st.2.2 (by simp; omega) hE⟩
    refine wpAny_pyNext_enum_endD D he ⟨rfl, hit, (show s.heap.IsTuple a its.toArray from p)⟩ fun h' eb => ?_
    exact ⟨rfl, I.turned (t' := s.toks) (fun b o hb q => eb b o hb q) f0 f1 f3 f4 f5⟩
  self := fun A i s Q E st h => let ⟨⟨_, he⟩, _⟩ := st; wpAny_pyIter_enum he h

def iEnumA (K : PySem.W.Frag) (ta : TA) : TI := fun σ H R => ta σ H fun vs H1 => ∃ a, vs = [.ref a] ∧ (((∃ xs, SqL K H1 a xs) ∧ R (Ite K a) H1) ∨ ((∃ xs, SqT K H1 a xs) ∧ R (IteT K a) H1))
theorem pi_enumA {X : Cx} {e : Expr} {ta : TA} {p pos tpos : Pos} {elts : List Expr} {kk : Nat} (hg : Gl X "enumerate") (hm : X.mg "enumerate" = none) (ha : PA X [e] ta) (hs : starEach [e] X.env = [(false, eval e X.env)] := by rfl) :
    PI X (.Tuple elts kk tpos) (.Call (.Name "enumerate" p) [e] [] pos) (iEnumA X.K ta) := by
  refine ⟨fun pins s σ H R I h => ?_⟩
  refine Call_ (ld_blt I hg hm boot_enumerate (PyProof.Rows.callWith_type1 (thn (ha.run pos pins s σ H _ I h) fun us s1 ⟨vs, H1, I1, r1, q1⟩ => ?_) hs rfl))
  obtain ⟨a, ex, q⟩ := q1
  subst ex
  obtain ⟨u, rfl, ru⟩ := Vals.one r1
  cases ru
  have fin : ∀ (h' : Heap) (it : It) (St : Nat → Heap → Prop), (∀ b ob, s1.heap.get? b = some ob → h'.get? b = some ob) → Turn X.prog X.w X.K (.Tuple elts kk tpos) it [s1.heap.objs.size + 1, s1.heap.objs.size] (s1.heap.objs.size + 1) St → St 0 h' → R it H1 →
      PIE X pins σ (.Tuple elts kk tpos) R (.ref (s1.heap.objs.size + 1)) { s1 with heap := h' } := fun h' it St hk T st q => by
    refine ⟨s1.heap.objs.size + 1, [s1.heap.objs.size + 1, s1.heap.objs.size], St, it, H1, rfl, I1.kept (t' := s1.toks) hk, T, st, fun b hb => ?_, q⟩
    have e' : b = s1.heap.objs.size + 1 ∨ b = s1.heap.objs.size := by simpa using hb
    have hle : s1.heap.objs.size ≤ b := by
      rcases e' with z | z
      · rw [z]; exact Nat.le_add_right _ _
      · rw [z]; exact Nat.le_refl _
    exact I1.fpOk hle (I1.hok.fresh hle)
  rcases q with ⟨⟨xs, hq⟩, q⟩ | ⟨⟨xs, hq⟩, q⟩
  · obtain ⟨its, rv, p', hz⟩ := I1.list hq
    refine mv_call_enumerate (begins_list a its.toArray) p'.isList fun h' he hit hk => wpAny_pyIter_enum he ?_
    exact fin h' (Ite X.K a) _ hk (turn_enum a (s1.heap.objs.size + 1) s1.heap.objs.size) ⟨⟨.none, he⟩, ⟨_, hit, rfl, rfl⟩, Nat.succ_ne_self _⟩ q
  · obtain ⟨its, rv, p', hz⟩ := I1.tuple hq
    obtain ⟨o, ho, _⟩ := id p'
    refine mv_call_enumerate (begins_tuple a its.toArray) (show s1.heap.IsTuple a its.toArray from p') fun h' he hit hk => wpAny_pyIter_enum he ?_
    exact fin h' (IteT X.K a) _ hk (turn_enumT a (s1.heap.objs.size + 1) s1.heap.objs.size) ⟨⟨.none, he⟩, ⟨_, hit, rfl, rfl⟩, Nat.succ_ne_self _, Nat.ne_of_lt (Heap.lt_size ho)⟩ q
end L2

namespace Mv
open PySem PySem.Spec PyProof.Rows L2
section
variable {g : Gi} {W : WX} {F F1 F2 : Addr → Prop} {H H1 H2 : Hp} {X : Cx}
variable {a b tg : Expr} {pos : Pos} {fa fb : SE RV}
theorem enum_get : ∀ (xs : List PV) (k i : Nat), (enumL k xs)[i]? = (xs[i]?).map fun x => .tup [.int ((k + i : Nat) : Int), x]
  | [], _, _ => by simp [enumL]
  | x :: xs, k, 0 => by simp [enumL]
  | x :: xs, k, i + 1 => by
    rw [enumL, List.getElem?_cons_succ, List.getElem?_cons_succ, enum_get xs (k + 1) i]
    have e : k + 1 + i = k + (i + 1) := by omega
    rw [e]
theorem enum_len : ∀ (xs : List PV) (k : Nat), (enumL k xs).length = xs.length
  | [], _ => rfl
  | x :: xs, k => by rw [enumL, List.length_cons, List.length_cons, enum_len xs]
theorem pairRep {T : Addr} {x y : V} {p q : PV} (hT : H T = none) (hx : RepP g F H x p) (hy : RepP g F H y q) : ExtH H (upd H T (.tup [x, y])) ∧ RepP g F (upd H T (.tup [x, y])) (.ref T) (.tup [p, q]) :=
  ⟨ExtH.upd hT, .tup (SqT.of upd_same) (.cons (hx.keep (ExtH.upd hT).keep) (.cons (hy.keep (ExtH.upd hT).keep) .nil))⟩
theorem jok_enumL {a : Addr} {vs : List V} {xs : List PV} (f : F a) (h : Rd H a (.lst vs)) (r : RepPs g F H vs xs) : JOk g (Ite g.K a) (enumL 0 xs) F H := fun F2 H2 k i => by
  have h2 : SqL g.K H2 a vs := .inl (k.rdL f h)
  have r2 := r.keep k
  refine ⟨fun hi => ⟨vs, h2, by rw [r.length]; rw [enum_len] at hi; exact hi⟩, fun p hp => ?_⟩
  rw [enum_get] at hp
  obtain ⟨x, hx, rfl⟩ := Option.map_eq_some_iff.mp hp
  obtain ⟨v, hv, rv⟩ := r2.get hx
  refine ⟨⟨vs, v, h2, hv⟩, fun y H3 ⟨T, z, e1, e2, e3, e4⟩ => ?_⟩
  subst e1 e3
  have := e4 vs h2
  rw [hv] at this; cases this
  rw [Nat.zero_add]
  exact pairRep e2 (.int _) rv
theorem jok_enumT {a : Addr} {vs : List V} {xs : List PV} (h : SqT g.K H a vs) (r : RepPs g F H vs xs) : JOk g (IteT g.K a) (enumL 0 xs) F H := fun F2 H2 k i => by
  have h2 : SqT g.K H2 a vs := k.sqT h
  have r2 := r.keep k
  refine ⟨fun hi => ⟨vs, h2, by rw [r.length]; rw [enum_len] at hi; exact hi⟩, fun p hp => ?_⟩
  rw [enum_get] at hp
  obtain ⟨x, hx, rfl⟩ := Option.map_eq_some_iff.mp hp
  obtain ⟨v, hv, rv⟩ := r2.get hx
  refine ⟨⟨vs, v, h2, hv⟩, fun y H3 ⟨T, z, e1, e2, e3, e4⟩ => ?_⟩
  subst e1 e3
  have := e4 vs h2
  rw [hv] at this; cases this
  rw [Nat.zero_add]
  exact pairRep e2 (.int _) rv
theorem ji_enum {p tpos : Pos} {elts : List Expr} {kk : Nat} (hm : X.mg "enumerate" = none) (ha : PE X a (tE g W fa)) (hK : X.K = g.K := by rfl) (hg : Gl X "enumerate" := by rfl) (hs : starEach [a] X.env = [(false, eval a X.env)] := by rfl) :
    PI X (.Tuple elts kk tpos) (.Call (.Name "enumerate" p) [a] [] pos) (tI g W (srcN fa)) := by
  refine pi_imp (pi_enumA hg hm (pa_cons ha pa_nil hs) hs) fun σ H R h => tE_later h fun F As r e1 F1 H1 As1 B1 x s1 r1 n1 m1 d1 h1 => ?_
  rw [hK]
  obtain ⟨p, e3, F3, As3, h3, s3, r3, d3⟩ := h1.esc s1 r1 n1 m1
  have dd := (d1.trans d3).less (B := fun b => Ow As3 b ∨ False) fun b z => z.elim id False.elim
  cases r3 with
  | lst f h r => exact ⟨_, rfl, .inl ⟨⟨_, .inl h⟩, h3.srcE (C := fun _ => False) s3 dd (jok_enumL f h r)⟩⟩
  | tup h r => exact ⟨_, rfl, .inr ⟨⟨_, h⟩, h3.srcE (C := fun _ => False) s3 dd (jok_enumT h r)⟩⟩
  | _ => exact h3.elim

/-! zip -/
theorem zip_get : ∀ (xs ys : List PV) (i : Nat), (zipL xs ys)[i]? = match xs[i]?, ys[i]? with | some x, some y => some (.tup [x, y]) | _, _ => none
  | [], ys, i => by simp [zipL]
  | x :: xs, [], i => by simp only [zipL, List.getElem?_nil]; split <;> first | rfl | (rename_i h; cases h)
  | x :: xs, y :: ys, 0 => by simp [zipL]
  | x :: xs, y :: ys, i + 1 => by
    rw [zipL, List.getElem?_cons_succ, List.getElem?_cons_succ, List.getElem?_cons_succ, zip_get xs ys i]
theorem zip_len : ∀ (xs ys : List PV), (zipL xs ys).length = min xs.length ys.length
  | [], ys => by simp [zipL]
  | x :: xs, [] => by simp [zipL]
  | x :: xs, y :: ys => by rw [zipL, List.length_cons, List.length_cons, List.length_cons, zip_len xs ys]; omega
theorem zip_some {xs ys : List PV} {i : Nat} {p : PV} (h : (zipL xs ys)[i]? = some p) : ∃ x y, xs[i]? = some x ∧ ys[i]? = some y ∧ p = .tup [x, y] := by
  rw [zip_get] at h
  split at h
  · rename_i x y hx hy
    cases h; exact ⟨x, y, hx, hy, rfl⟩
  · cases h
theorem jok_zipL {a b : Addr} {vs us : List V} {xs ys : List PV} (f : F a) (f' : F b) (h : Rd H a (.lst vs)) (h' : Rd H b (.lst us)) (r : RepPs g F H vs xs) (r' : RepPs g F H us ys) : JOk g (Itz g.K a b) (zipL xs ys) F H := fun F2 H2 k i => by
  have h2 : SqL g.K H2 a vs := .inl (k.rdL f h)
  have h2' : SqL g.K H2 b us := .inl (k.rdL f' h')
  have r2 := r.keep k
  have r2' := r'.keep k
  refine ⟨fun hi => ⟨vs, us, h2, h2', by rw [r.length, r'.length]; rw [zip_len] at hi; omega⟩, fun p hp => ?_⟩
  obtain ⟨x, y, hx, hy, rfl⟩ := zip_some hp
  obtain ⟨v, hv, rv⟩ := r2.get hx
  obtain ⟨u, hu, ru⟩ := r2'.get hy
  refine ⟨⟨vs, us, v, u, h2, h2', hv, hu⟩, fun w H3 ⟨T, z, z', e1, e2, e3, e4, e5⟩ => ?_⟩
  subst e1 e3
  have q1 := e4 vs h2
  have q2 := e5 us h2'
  rw [hv] at q1; cases q1
  rw [hu] at q2; cases q2
  exact pairRep e2 rv ru
theorem jok_zipT {a b : Addr} {vs us : List V} {xs ys : List PV} (h : SqT g.K H a vs) (h' : SqT g.K H b us) (r : RepPs g F H vs xs) (r' : RepPs g F H us ys) : JOk g (RZ.ItzT g.K a b) (zipL xs ys) F H := fun F2 H2 k i => by
  have h2 : SqT g.K H2 a vs := k.sqT h
  have h2' : SqT g.K H2 b us := k.sqT h'
  have r2 := r.keep k
  have r2' := r'.keep k
  refine ⟨fun hi => ⟨vs, us, h2, h2', by rw [r.length, r'.length]; rw [zip_len] at hi; omega⟩, fun p hp => ?_⟩
  obtain ⟨x, y, hx, hy, rfl⟩ := zip_some hp
  obtain ⟨v, hv, rv⟩ := r2.get hx
  obtain ⟨u, hu, ru⟩ := r2'.get hy
  refine ⟨⟨vs, us, v, u, h2, h2', hv, hu⟩, fun w H3 ⟨T, z, z', e1, e2, e3, e4, e5⟩ => ?_⟩
  subst e1 e3
  have q1 := e4 vs h2
  have q2 := e5 us h2'
  rw [hv] at q1; cases q1
  rw [hu] at q2; cases q2
  exact pairRep e2 rv ru
theorem ji_zip {p tpos : Pos} {elts : List Expr} {kk : Nat} (hm : X.mg "zip" = none) (ha : PA X [a, b] (tA g W (args [fa, fb]))) (hK : X.K = g.K := by rfl) (hg : Gl X "zip" := by rfl)
    (hs : starEach [a, b] X.env = (false, eval a X.env) :: starEach [b] X.env := by rfl) (hpl : (backTo pos (starEach [b] X.env)).any (·.1) = false := by rfl) :
    PI X (.Tuple elts kk tpos) (.Call (.Name "zip" p) [a, b] [] pos) (tI g W (srcZ fa fb)) := by
  refine pi_imp (RZ.pi_zipA hg hm ha hs hpl) fun σ H R h => tA_later h fun F As rs e1 F1 H1 As1 B1 xs hn s1 r1 n1 m1 d1 h1 => ?_
  rw [hK]
  obtain ⟨ps, e3, F3, As3, h3, s3, r3, d3⟩ := h1.escs s1 r1 n1 m1
  have dd := (d1.trans d3).less (B := fun b => Ow As3 b ∨ False) fun b z => z.elim id False.elim
  split at h3
  · rename_i p q
    cases r3 with
    | cons hx t =>
      cases t with
      | cons hy t =>
        cases t
        cases hx with
        | lst f h r =>
          cases hy with
          | lst f' h' r' => exact ⟨_, _, _, _, rfl, .inl ⟨.inl h, .inl h', h3.srcE (C := fun _ => False) s3 dd (jok_zipL f f' h h' r r')⟩⟩
          | _ => exact h3.elim
        | tup h r =>
          cases hy with
          | tup h' r' => exact ⟨_, _, _, _, rfl, .inr ⟨h, h', h3.srcE (C := fun _ => False) s3 dd (jok_zipT h h' r r')⟩⟩
          | _ => exact h3.elim
        | _ => exact h3.elim
  · exact h3.elim
end
end Mv
end
/-! file MvM -/
section
set_option linter.all false
set_option autoImplicit false
set_option maxRecDepth 100000
/-! Mv, part M: a list's methods, stores. -/
namespace Mv
open PySem PySem.Spec PyProof.Rows L2
section
variable {g : Gi} {W : WX} {pins : Nat → Bool} {F F1 F2 : Addr → Prop} {H H1 H2 : Hp} {σ σ1 : L2.St} {e e1 e2 : Env} {As As1 As2 : Nat → Addr → Prop} {B B1 B2 C : Addr → Prop} {X : Cx}

/-! ### one of one's own things is changed -/
def Chg (H : Hp) (a : Addr) : Prop := ∃ u, H a = some u ∧ (∀ xs, u ≠ .tup xs) ∧ ∀ o q, u ≠ .frz o q
theorem OwnK.chg {a : Addr} (h : OwnK H a) : Chg H a := by
  rcases h with ⟨vs, h⟩ | ⟨es, h⟩
  · exact ⟨_, h, (fun _ z => nomatch z), (fun _ _ z => nomatch z)⟩
  · exact ⟨_, h, (fun _ z => nomatch z), (fun _ _ z => nomatch z)⟩
theorem Keep.chg {a : Addr} {u : HO} (k : Chg H a) (n : ¬F a) : Keep F H F (upd H a u) := by
  obtain ⟨q, h, k1, k2⟩ := k
  refine ⟨fun _ z => z, fun b xs e => ?_, fun b o v e => ?_, fun b o f e => ?_⟩
  · rw [upd_ne]; exact e
    rintro rfl; rw [h] at e; exact k1 xs (Option.some.inj e)
  · rw [upd_ne]; exact e
    rintro rfl; rw [h] at e; exact k2 o v (Option.some.inj e)
  · rw [upd_ne]; exact e
    rintro rfl; exact n f
theorem Dl.chg {a : Addr} {u : HO} {A : Addr → Prop} (k : Chg H a) (m : A a) : Dl F A H F A (upd H a u) := by
  obtain ⟨q, h, k1, k2⟩ := k
  refine ⟨fun _ z => z, fun b o e n => ?_, fun b e => ?_, fun b z => .inl z, fun b z => .inl z, fun b xs e => ?_, fun b o v e => ?_⟩
  · rw [upd_ne]; exact e
    rintro rfl; exact n m
  · by_cases z : b = a
    · rw [z, upd_same] at e; cases e
    · rw [upd_ne z] at e; exact e
  · rw [upd_ne]; exact e
    rintro rfl; rw [h] at e; exact k1 xs (Option.some.inj e)
  · rw [upd_ne]; exact e
    rintro rfl; rw [h] at e; exact k2 o v (Option.some.inj e)
theorem Sim.mut (s : Sim g F H σ e As) {x : Nat} {a : Addr} {u : HO} {v : V} {o : OV} (hx : x < e.length) (hA : As x a) (hv : σ[x]? = some (some v)) (r : RepO g F (upd H a u) v o (As x)) : Sim g F (upd H a u) σ (e.set x (some o)) As := by
  have k := (s.kind ⟨x, hA⟩).chg
  have nf := s.nf x a hA
  refine ⟨by rw [List.length_set]; exact s.len, fun i o' q => ?_, fun i q b z => ?_, s.dis, s.nf, fun b f => ?_⟩
  · by_cases hi : i = x
    · subst hi
      rw [List.getElem?_set_self hx] at q
      cases q
      exact ⟨v, hv, r⟩
    · rw [List.getElem?_set_ne (Ne.symm hi)] at q
      obtain ⟨w, h1, h2⟩ := s.slot i o' q
      refine ⟨w, h1, h2.stay (Keep.chg k nf) fun b o z e => ?_⟩
      rw [upd_ne]; exact e
      rintro rfl; exact hi (s.dis i x b z hA)
  · by_cases hi : i = x
    · subst hi
      exact q o (List.getElem?_set_self hx)
    · exact s.off i (fun o' q' => q o' (by rw [List.getElem?_set_ne (Ne.symm hi)]; exact q')) b z
  · obtain ⟨o', q⟩ := s.fl b f
    exact ⟨o', (Keep.chg (u := u) k nf).fix b o' f q⟩
/-- what the slot of a list of one's own says -/
theorem Sim.ls (s : Sim g F H σ e As) {x : Nat} {xs : List PV} (h : e[x]? = some (some (.ls xs))) : ∃ a vs, σ[x]? = some (some (.ref a)) ∧ H a = some (.lst vs) ∧ RepPs g F H vs xs ∧ As x a ∧ (∀ b, As x b ↔ b = a) := by
  obtain ⟨v, h1, a, vs, rfl, h2, r, hB⟩ := s.slot x _ h
  exact ⟨a, vs, h1, h2, r, (hB a).mpr rfl, hB⟩
theorem Sim.dc (s : Sim g F H σ e As) {x : Nat} {kvs : List (PV × PV)} (h : e[x]? = some (some (.dc kvs))) : ∃ a es, σ[x]? = some (some (.ref a)) ∧ H a = some (DictO a es) ∧ RepDs g F H es kvs ∧ DK kvs ∧ As x a ∧ (∀ b, As x b ↔ b = a) := by
  obtain ⟨v, h1, a, vs, rfl, h2, r, n, hB⟩ := s.slot x _ h
  exact ⟨a, vs, h1, h2, r, n, (hB a).mpr rfl, hB⟩
theorem env_lt {e : Env} {x : Nat} {q : Option OV} (h : e[x]? = some q) : x < e.length := (List.getElem?_eq_some_iff.mp h).1
theorem tE_nm_b (s : Sim g F H σ e As) {x : Nat} {o : OV} (h : e[x]? = some (some o)) (ho : o.own = true) {Q : VK} (q : ∀ v H', σ[x]? = some (some v) → H' = H → Q v H') : True := trivial

/-! ### methods -/
variable {fs : List (SE RV)} {es : List Expr} {a b : Expr} {pos apos : Pos} {fa fb : SE RV}
def SM (g : Gi) (r : V → List V → Hp → VK → Prop) (op : LOp) : Prop := ∀ F H a vs xs us ps p ys Q, H a = some (.lst vs) → RepPs g F H vs xs → RepPs g F H us ps → op xs ps = some (p, ys) → (∀ v ws, RepP g F H v p → RepPs g F H ws ys → Q v (upd H a (.lst ws))) → r (.ref a) us H Q
theorem mLs_tA {op : LOp} {x : Nat} {r : V → List V → Hp → VK → Prop} (hs : SM g r op) {Q : VK} (h : tE g W (mLs op x fs) σ H Q) :
    ∃ a vs, σ[x]? = some (some (.ref a)) ∧ H a = some (.lst vs) ∧ tA g W (args fs) σ H fun us H2 => r (.ref a) us H2 Q := by
  obtain ⟨F, e, As, s, h⟩ := h
  unfold mLs at h
  split at h
  · rename_i xs0 h0
    obtain ⟨a, vs0, hv, ha, _, hA, hB0⟩ := s.ls h0
    refine ⟨a, vs0, hv, ha, ?_⟩
    refine tA_later (R := RepR g) (Q := Q) (k := fun rs => bnd (escs rs) fun ps e1 => match e1[x]? with
      | some (some (.ls xs)) => match op xs ps with
        | some (p, ys) => .ok (.v (.val p)) (e1.set x (some (.ls ys)))
        | none => .bad
      | _ => .bad) ⟨F, e, As, s, h⟩ fun F As rs e1 F1 H1 As1 B1 us hn s1 r1 n1 m1 d1 h1 => ?_
    obtain ⟨ps, e3, F3, As3, h3, s3, r3, d3⟩ := h1.escs s1 r1 n1 m1
    split at h3
    · rename_i xs h4
      obtain ⟨a', vs, hv', ha', rv, hA', hB⟩ := s3.ls h4
      rw [hv] at hv'
      cases hv'
      split at h3
      · rename_i p ys h5
        refine hs F3 H1 a vs xs us ps p ys Q ha' rv r3 h5 fun v ws rp rw' => ?_
        have k := Keep.chg (F := F3) (u := HO.lst ws) (s3.kind ⟨x, hA'⟩).chg (s3.nf x a hA')
        have s4 := s3.mut (u := .lst ws) (o := .ls ys) (env_lt h4) hA' hv ⟨a, ws, rfl, upd_same, rw'.keep k, hB⟩
        have d4 : Dl F3 (Ow As3) H1 F3 (Ow As3) (upd H1 a (.lst ws)) := Dl.chg (s3.kind ⟨x, hA'⟩).chg ⟨x, hA'⟩
        exact h3 F3 _ As3 (fun _ => False) v s4 ⟨rp.keep k, fun _ z => z⟩ (fun _ z => z.elim) (fun _ z => z.elim) (((d1.trans d3).trans d4).less fun b z => z.elim (fun z => z) False.elim)
      · exact h3.elim
    · exact h3.elim
  · exact h.elim
theorem tE_of_nm {x : Nat} {v : V} {Q : VK} (hx : σ[x]? = some (some v)) (h : Q v H) : tVar x σ H Q := ⟨v, hx, h⟩
theorem je_bm {id : String} {name : Str} {op : LOp} {x : Nat} {n : Str} {r : V → List V → Hp → VK → Prop} {q : Pos} (pa : PlainAttrs "list") (slot : Slot "list" name id) (hty : typeOf (.builtin id) = (Pure.pure (Value.type "method_descriptor") : Sem Value)) (hm : MtM X id r) (hs : SM g r op)
    (ha : PA X (a :: es) (tA g W (args fs))) (hN : X.N[x]? = some n := by rfl) (hv : Vis X.env.scope n := by first | exact Or.inl rfl | exact Or.inr (Or.inl rfl) | exact Or.inr (Or.inr rfl))
    (hd : (n == ("__debug__" : Str)) = false := by decide) (hcd : (n == ("__classdict__" : Str)) = false := by decide)
    (hbase : attributeBase (.Name n q) name X.env (eval (.Name n q) X.env) = eval (.Name n q) X.env := by rfl)
    (hfew : ((backTo pos (starEach (a :: es) X.env)).all (fun x => !x.1) && (backToKw pos (keywordEach [] X.env)).all (fun x => x.1.isSome)
      && decide ((a :: es).length + ([] : List Keyword).length + (if ([] : List Keyword).isEmpty then 0 else 1) < 30)) = true := by rfl)
    (hline : (apos.endLine == pos.line) = true := by rfl) (hst : starEach (a :: es) X.env = (false, eval a X.env) :: starEach es X.env := by rfl) (hplain : (backTo pos (starEach es X.env)).any (·.1) = false := by rfl) :
    PE X (.Call (.Attribute (.Name n q) name apos) (a :: es) [] pos) (tE g W (mLs op x fs)) := by
  refine pe_imp (pe_bm (T := "list") pa slot hty hm (pe_var hN hv hd hcd) ha hbase hfew hline hst hplain) fun σ H Q h => ?_
  obtain ⟨a, vs, h1, h2, h3⟩ := mLs_tA hs h
  exact ⟨.ref a, h1, .inl ⟨rfl, vs, .inl (.inl h2)⟩, h3⟩
theorem je_bm0 {id : String} {name : Str} {op : LOp} {x : Nat} {n : Str} {r : V → List V → Hp → VK → Prop} {q : Pos} (pa : PlainAttrs "list") (slot : Slot "list" name id) (hty : typeOf (.builtin id) = (Pure.pure (Value.type "method_descriptor") : Sem Value)) (hm : MtM X id r) (hs : SM g r op)
    (hN : X.N[x]? = some n := by rfl) (hv : Vis X.env.scope n := by first | exact Or.inl rfl | exact Or.inr (Or.inl rfl) | exact Or.inr (Or.inr rfl))
    (hd : (n == ("__debug__" : Str)) = false := by decide) (hcd : (n == ("__classdict__" : Str)) = false := by decide)
    (hbase : attributeBase (.Name n q) name X.env (eval (.Name n q) X.env) = eval (.Name n q) X.env := by rfl)
    (hline : (apos.endLine == pos.line) = true := by rfl) :
    PE X (.Call (.Attribute (.Name n q) name apos) [] [] pos) (tE g W (mLs op x [])) := by
  refine pe_imp (pe_bm0 (T := "list") pa slot hty hm (pe_var hN hv hd hcd) hbase hline) fun σ H Q h => ?_
  obtain ⟨a, vs, h1, h2, F, e, As, s, h3⟩ := mLs_tA hs h
  exact ⟨.ref a, h1, .inl ⟨rfl, vs, .inl (.inl h2)⟩, h3 F H As (fun _ => False) [] s (.nil fun _ z => z) (fun _ z => z.elim) (fun _ z => z.elim) (.refl fun b z => z.elim (fun z => z) False.elim)⟩
theorem sm_app : SM g rAppend appO := fun F H a vs xs us ps p ys Q ha rv ru h q => by
  unfold appO at h
  split at h
  · split at h
    · rename_i hl
      cases h
      cases ru with
      | cons h1 t =>
        cases t
        exact ⟨a, vs, _, rfl, rfl, ha, by rw [rv.length, sizeLine_eq]; exact hl, q _ _ .non (rv.app (.cons h1 .nil))⟩
    · cases h
  · cases h
/-- extend, by a list that is read -/
def rExtR : V → List V → Hp → VK → Prop := fun x vs H Q => ∃ l b xs zs, x = .ref l ∧ vs = [.ref b] ∧ H l = some (.lst xs) ∧ Rd H b (.lst zs) ∧ xs.length + zs.length ≤ sizeLine ∧ Q .non (upd H l (.lst (xs ++ zs)))
theorem mt_extR : MtM X "list.extend" rExtR := by
  intro pins s σ H x vs v us Q I rx rv h
  obtain ⟨l, b, xs, zs, rfl, rfl, hH, hB, hz, q⟩ := h
  cases rx
  obtain ⟨u, rfl, ru⟩ := Vals.one rv
  cases ru
  obtain ⟨z, its, n, r, e⟩ := I.hok l _ hH
  obtain ⟨z2, its2, n2, r2, e2⟩ := hB.ok I.hok
  have hl := r.length
  have hl2 := r2.length
  have hsz : its.toArray.size + its2.toArray.size ≤ sizeLine := by rw [List.size_toArray, List.size_toArray]; omega
  have hlong : ¬ (!its.toArray.isEmpty && Builtin.List.listTooLong (its.toArray.size + its2.toArray.size)) = true := by
    rw [notLongL hsz, Bool.and_false]
    exact Bool.false_ne_true
  refine call_meets F.slot_list_extend ⟨_, e, rfl⟩ F.entry_list_extend (F.args_list_extend_2 _ _)
    (AutoSeq1.list_extend_list_list_0 l its.toArray n b its2.toArray n2 hlong (by rw [List.size_toArray]; omega) (by omega)) ⟨e, e2, ?_⟩
  refine ⟨.non, _, I.lset (its' := its ++ its2) hH e (by simp) (r.append r2) ?_, rfl, q⟩
  rw [List.length_append]
  omega
theorem sm_ext : SM g rExtR extO := fun F H a vs xs us ps p ys Q ha rv ru h q => by
  unfold extO at h
  split at h
  · split at h
    · rename_i hl
      cases h
      cases ru with
      | cons h1 t =>
        cases t
        cases h1 with
        | lst f h2 r2 => exact ⟨a, _, vs, _, rfl, rfl, ha, h2, by rw [rv.length, r2.length, sizeLine_eq]; exact hl, q _ _ .non (rv.app r2)⟩
    · cases h
  · cases h
theorem last_get {α : Type} (xs : List α) : xs.getLast? = xs[xs.length - 1]? := List.getLast?_eq_getElem?
def rPopG : V → List V → Hp → VK → Prop := fun x xs H Q => rPop x xs H Q ∨ rPopAt x xs H Q
theorem MtM.or {id : String} {r r' : V → List V → Hp → VK → Prop} (h : MtM X id r) (h' : MtM X id r') : MtM X id (fun x xs H Q => r x xs H Q ∨ r' x xs H Q) := by
  intro pins s σ H x xs v us Q I rx rs q
  rcases q with q | q
  · exact h pins s σ H x xs v us Q I rx rs q
  · exact h' pins s σ H x xs v us Q I rx rs q
theorem mt_popG : MtM X "list.pop" rPopG := MtM.or mt_pop mt_popAt
theorem sm_pop : SM g rPopG popO := fun F H a vs xs us ps p ys Q ha rv ru h q => by
  unfold popO at h
  split at h
  · cases ru
    obtain ⟨z, h1, h2⟩ := Option.map_eq_some_iff.mp h
    cases h2
    rw [last_get] at h1
    obtain ⟨v, hv, r⟩ := rv.get h1
    exact .inl ⟨a, vs, v, rfl, rfl, ha, by rw [rv.length]; exact hv, q _ _ r rv.dropLast⟩
  · rename_i i
    cases ru with
    | cons hi t =>
      cases t
      cases hi
      split at h
      · rename_i hneg
        split at h
        · rename_i hlo
          obtain ⟨z, h1, h2⟩ := Option.map_eq_some_iff.mp h
          cases h2
          obtain ⟨v, hv, r⟩ := rv.get h1
          have hlt := (List.getElem?_eq_some_iff.mp hv).1
          have hll := rv.length
          refine .inr ⟨a, vs, i, (i + xs.length).toNat, v, rfl, rfl, ha, ?_, by have := hlo.2; omega, ?_, hv, q _ _ r (rv.erase _)⟩
          · exact hlo.1
          · rw [seqIndex_neg (by omega) (by have := hlo.2; omega), hll]
        · cases h
      · rename_i hneg
        split at h
        · rename_i hhi
          obtain ⟨z, h1, h2⟩ := Option.map_eq_some_iff.mp h
          cases h2
          obtain ⟨v, hv, r⟩ := rv.get h1
          have hlt := (List.getElem?_eq_some_iff.mp hv).1
          exact .inr ⟨a, vs, i, i.toNat, v, rfl, rfl, ha, by omega, hhi, by rw [seqIndex_of (by omega) (by omega)], hv, q _ _ r (rv.erase _)⟩
        · cases h
  · cases h
end
end Mv
end
/-! file MvM2 -/
section
set_option linter.all false
set_option autoImplicit false
set_option maxRecDepth 100000
/-! Mv, part M2: stores. -/
namespace Mv
open PySem PySem.Spec PyProof.Rows L2
section
variable {g : Gi} {W : WX} {pins : Nat → Bool} {F F1 F2 : Addr → Prop} {H H1 H2 : Hp} {σ σ1 : L2.St} {e e1 e2 : Env} {As As1 As2 : Nat → Addr → Prop} {B B1 B2 C : Addr → Prop} {X : Cx}
theorem PSet.or {t t' : TSet} (h : PSet X t) (h' : PSet X t') : PSet X (fun o i v H Q => t o i v H Q ∨ t' o i v H Q) := by
  intro pn s σ H o i v ov iv u Q I ro ri rv q
  rcases q with q | q
  · exact h pn s σ H o i v ov iv u Q I ro ri rv q
  · exact h' pn s σ H o i v ov iv u Q I ro ri rv q
theorem ixP_ixN (n : Nat) (i : Int) : ixP n i = ixN n i := rfl
theorem RepO.same {v : V} {o : OV} {B : Addr → Prop} (h : RepO g F H v o B) (n : ∀ b, B b → C b) (m : ∀ b, C b → B b) : RepO g F H v o C := by
  have e : B = C := funext fun b => propext ⟨n b, m b⟩
  rw [← e]; exact h
variable {a b : Expr} {pos : Pos} {fi : SE RV}
theorem jg_ls {x : Nat} {n : Str} {q : Pos} (hu : X.A.units + 9 < cLine) (hK : X.K = g.K) (hW : X.w = g.w) (hi : PE X b (tE g W fi)) (hN : X.N[x]? = some n := by rfl) (hv : Vis X.env.scope n := by first | exact Or.inl rfl | exact Or.inr (Or.inl rfl) | exact Or.inr (Or.inr rfl))
    (hd : (n == ("__debug__" : Str)) = false := by decide) (hcd : (n == ("__classdict__" : Str)) = false := by decide)
    (ha : ∀ v, assign (.Subscript (.Name n q) b pos) X.env v = (do
      let ov ← holding [v] (eval (.Name n q) X.env)
      let iv ← holding [v, ov] (eval b X.env)
      standAt pos
      holding [v, ov, iv] (setItem ov iv v)
      release [v, ov, iv] []) := by intro _; rfl) : PG X (.Subscript (.Name n q) b pos) (tG g pins (gL putO x fi)) := by
  refine pg_imp (pg_sub (pe_var (i := x) hN hv hd hcd) hi (PSet.or set_list (set_dc (g := g) hu hK hW)) ha) fun v σ H Q ⟨F, e, As, p, s, r, h⟩ => ?_
  unfold gL at h
  cases hob : ownB e x with
  | false => rw [hob, if_neg Bool.false_ne_true] at h; exact h.elim
  | true =>
    rw [hob, if_pos rfl] at h
    obtain ⟨w, hw⟩ : ∃ w, σ[x]? = some (some w) := by
      unfold ownB at hob
      split at hob
      · rename_i xs hx
        obtain ⟨a, vs, hv1, _⟩ := s.ls hx
        exact ⟨_, hv1⟩
      · rename_i kvs hx
        obtain ⟨a, vs, hv1, _⟩ := s.dc hx
        exact ⟨_, hv1⟩
      · cases hob
    refine ⟨w, hw, F, e, As, s, ?_⟩
    cases hm : fi e with
    | bad => rw [hm] at h; exact h.elim
    | exc x0 e1 => rw [hm] at h; exact h.elim
    | ok r1 e1 =>
      rw [hm] at h
      intro F1 H1 As1 B1 i s1 ri n1 m1 d1
      dsimp only at h
      cases hk : view r1 e1 with
      | none => rw [hk] at h; exact h.elim
      | some k =>
        rw [hk] at h
        have rk := view_rep ri s1 hk
        have rp : RepP g F1 H1 v p := r.keep (d1.toKeep s.nfA)
        dsimp only at h
        have dn : Dl F (Ow As) H F1 (Ow As1) H1 := d1.less fun b z => .inl z
        unfold putL at h
        cases hx : e1[x]? with
        | none => rw [hx] at h; exact h.elim
        | some oo =>
          rw [hx] at h
          cases oo with
          | none => exact h.elim
          | some o1 =>
            cases o1 with
            | val _ => exact h.elim
            | ll _ => exact h.elim
            | ls xs =>
              obtain ⟨a, vs, hv1, ha1, rv, hA, hB⟩ := s1.ls hx
              rw [hw] at hv1; cases hv1
              cases k with
              | int i0 =>
                dsimp only at h
                cases hj : ixP xs.length i0 with
                | none => rw [hj] at h; exact h.elim
                | some j =>
                  rw [hj] at h
                  have ei := rk.int
                  subst ei
                  refine .inl ⟨a, vs, i0, j, rfl, rfl, ha1, by rw [rv.length, ← ixP_ixN]; exact hj, ?_⟩
                  have kk := Keep.chg (F := F1) (u := HO.lst (vs.set j v)) (s1.kind ⟨x, hA⟩).chg (s1.nf x a hA)
                  have s4 := s1.mut (u := .lst (vs.set j v)) (o := .ls (xs.set j p)) (env_lt hx) hA hw ⟨a, _, rfl, upd_same, (rv.set rp j).keep kk, hB⟩
                  exact h F1 _ σ As1 s4 PinsEq.refl (dn.trans (Dl.chg (s1.kind ⟨x, hA⟩).chg ⟨x, hA⟩))
              | _ => exact h.elim
            | dc kvs =>
              obtain ⟨a, es, hv1, ha1, rd, dk, hA, hB⟩ := s1.dc hx
              rw [hw] at hv1; cases hv1
              dsimp only at h
              cases hp : putO kvs k p with
              | none => rw [hp] at h; exact h.elim
              | some kvs' =>
                rw [hp] at h
                unfold putO at hp
                split at hp
                · rename_i hc
                  rw [Bool.and_eq_true] at hc
                  cases hp
                  refine .inr ⟨F1, a, es, kvs, k, p, ⟨rfl, ha1, rd, dk, rk.key (keyOk_K hc.1), hc.1⟩, of_decide_eq_true hc.2, rp, fun es' rd' => ?_⟩
                  have kk := Keep.chg (F := F1) (u := DictO a es') (s1.kind ⟨x, hA⟩).chg (s1.nf x a hA)
                  have s4 := s1.mut (u := DictO a es') (o := .dc (putP kvs k p)) (env_lt hx) hA hw ⟨a, _, rfl, upd_same, rd'.keep kk, dk.put hc.1, hB⟩
                  exact h F1 _ σ As1 s4 PinsEq.refl (dn.trans (Dl.chg (s1.kind ⟨x, hA⟩).chg ⟨x, hA⟩))
                · cases hp
/-- a target stores, or nothing is said of it -/
def TOk (t : TGt) : Prop := ∀ p e, (∃ e', t p e = .nx e') ∨ t p e = .bad
theorem ok_gN {i : Nat} : TOk (gN i) := fun _ _ => .inl ⟨_, rfl⟩
theorem ok_gL {put : List (PV × PV) → PV → PV → Option (List (PV × PV))} {x : Nat} {fi : SE RV} : TOk (gL put x fi) := fun p e => by
  unfold gL
  split
  · split
    · split
      · unfold putL
        split
        · split
          · split
            · exact .inl ⟨_, rfl⟩
            · exact .inr rfl
          · exact .inr rfl
        · split
          · exact .inl ⟨_, rfl⟩
          · exact .inr rfl
        · exact .inr rfl
      · exact .inr rfl
    · exact .inr rfl
  · exact .inr rfl
inductive TOks : List TGt → Prop
  | nil : TOks []
  | cons {t : TGt} {ts : List TGt} : TOk t → TOks ts → TOks (t :: ts)
theorem TOks.run : ∀ {ts : List TGt}, TOks ts → ∀ ps e, (∃ e', gTs ts ps e = .nx e') ∨ gTs ts ps e = .bad
  | _, .nil, ps, e => by
    cases ps with
    | nil => exact .inl ⟨_, rfl⟩
    | cons _ _ => exact .inr rfl
  | _, .cons h t, ps, e => by
    cases ps with
    | nil => exact .inr rfl
    | cons p ps =>
      show (∃ e', seqS _ _ e = SR.nx e') ∨ seqS _ _ e = SR.bad
      unfold seqS
      rcases h p e with ⟨e', q⟩ | q
      · rw [q]; exact t.run ps e'
      · rw [q]; exact .inr rfl
theorem ok_gT {ts : List TGt} (h : TOks ts) : TOk (gT ts) := fun p e => by
  unfold gT
  split
  · split
    · exact h.run _ e
    · exact .inr rfl
  · exact .inr rfl
end
end Mv
end
/-! file MvLL -/
section
set_option linter.all false
set_option autoImplicit false
set_option maxRecDepth 100000
/-! Mv, part LL: lists of lists of one's own. -/
namespace Mv
open PySem PySem.Spec PyProof.Rows L2
section
variable {g : Gi} {W : WX} {pins : Nat → Bool} {F F1 F2 : Addr → Prop} {H H1 H2 : Hp} {σ σ1 : L2.St} {e e1 e2 : Env} {As As1 As2 : Nat → Addr → Prop} {B B1 B2 C : Addr → Prop} {X : Cx}
variable {a b : Expr} {pos p1 : Pos}
def tAt : Nat ⊕ Int → TE
  | .inl i => tVar i
  | .inr n => tC (.int n)
theorem ja_nm {i : Nat} {x : Str} {pos : Pos} (hN : X.N[i]? = some x := by rfl) (hv : Vis X.env.scope x := by first | exact Or.inl rfl | exact Or.inr (Or.inl rfl) | exact Or.inr (Or.inr rfl)) (hd : (x == ("__debug__" : Str)) = false := by decide)
    (hcd : (x == ("__classdict__" : Str)) = false := by decide) : PE X (.Name x pos) (tAt (.inl i)) := pe_var hN hv hd hcd
theorem ja_int {i : Int} {j : Nat} {pos : Pos} : PE X (.Constant (.int i) j pos) (tAt (.inr i)) := pe_int
theorem aI_ok (s : Sim g F H σ e As) {A : Nat ⊕ Int} {n : Int} (h : aI A e = some n) {Q : VK} (q : Q (.int n) H) : tAt A σ H Q := by
  cases A with
  | inl i =>
    unfold aI at h
    dsimp only at h
    split at h
    · rename_i m hm
      cases h
      obtain ⟨v, hv, r⟩ := s.slot i _ hm
      have : v = .int n := by have := r.1; cases this; rfl
      subst this
      exact ⟨_, hv, q⟩
    · cases h
  | inr m => cases h; exact q
theorem Sim.ll (s : Sim g F H σ e As) {x : Nat} {xss : List (List PV)} (h : e[x]? = some (some (.ll xss))) : ∃ a as, σ[x]? = some (some (.ref a)) ∧ H a = some (.lst (as.map V.ref)) ∧ RepLL g F H as xss ∧ (a :: as).Nodup ∧ ∀ b, As x b ↔ b = a ∨ b ∈ as := by
  obtain ⟨v, h1, a, as, rfl, h2, r, n, hB⟩ := s.slot x _ h
  exact ⟨a, as, h1, h2, r, n, hB⟩
theorem RepLL.get : ∀ {as : List Addr} {xss : List (List PV)} {k : Nat} {xs : List PV}, RepLL g F H as xss → xss[k]? = some xs → ∃ b vs, as[k]? = some b ∧ H b = some (.lst vs) ∧ RepPs g F H vs xs
  | _, _, _, _, .nil, h => by simp at h
  | _, _, 0, _, .cons h1 r t, h => by
    simp at h
    subst h
    exact ⟨_, _, rfl, h1, r⟩
  | _, _, k + 1, _, .cons h1 r t, h => by
    obtain ⟨b, vs, a1, a2, a3⟩ := RepLL.get (k := k) t (by simpa using h)
    exact ⟨b, vs, by simpa using a1, a2, a3⟩
theorem RepLL.set {b : Addr} {ws : List V} {ys : List PV} : ∀ {as : List Addr} {xss : List (List PV)} {k : Nat}, RepLL g F H as xss → as.Nodup → as[k]? = some b → Keep F H F (upd H b (.lst ws)) → RepPs g F (upd H b (.lst ws)) ws ys → RepLL g F (upd H b (.lst ws)) as (xss.set k ys)
  | _, _, _, .nil, _, h, _, _ => by simp at h
  | a :: as, _, 0, .cons h1 r t, nd, h, kp, ry => by
    simp at h
    subst h
    refine .cons upd_same ry (t.stay kp fun b o hb q => ?_)
    rw [upd_ne]; exact q
    rintro rfl
    exact (List.nodup_cons.mp nd).1 hb
  | a :: as, _, k + 1, .cons h1 r t, nd, h, kp, ry => by
    have h : as[k]? = some b := by simpa using h
    have hb : a ≠ b := by
      rintro rfl
      exact (List.nodup_cons.mp nd).1 (List.mem_of_getElem? h)
    exact .cons (by rw [upd_ne hb]; exact h1) (r.keep kp) (RepLL.set t (List.nodup_cons.mp nd).2 h kp ry)
theorem ixV {n : Nat} {i : Int} {k : Nat} {vs : List V} {v : V} (h : ixP n i = some k) (hn : vs.length = n) (hv : vs[k]? = some v) : atI vs i = some v := by
  unfold atI
  rw [hn, ← ixP_ixN, h]
  exact hv
theorem je_ixLL {x : Nat} {A B : Nat ⊕ Int} {n : Str} {q : Pos} (ha : PE X a (tAt A)) (hb : PE X b (tAt B)) (hK : X.K = g.K := by rfl) (hN : X.N[x]? = some n := by rfl) (hv : Vis X.env.scope n := by first | exact Or.inl rfl | exact Or.inr (Or.inl rfl) | exact Or.inr (Or.inr rfl))
    (hd : (n == ("__debug__" : Str)) = false := by decide) (hcd : (n == ("__classdict__" : Str)) = false := by decide) (hp : PlainIx a := by exact fun _ _ => rfl) (hp2 : PlainIx b := by exact fun _ _ => rfl) :
    PE X (.Subscript (.Subscript (.Name n q) a p1) b pos) (tE g W (ixLL x A B)) := by
  refine pe_imp (pe_ix ix_list (pe_ix ix_list (pe_var hN hv hd hcd) ha hp) hb hp2) fun σ H Q h => ?_
  obtain ⟨F, e, As, s, h⟩ := h
  unfold ixLL at h
  split at h
  · rename_i xss hx
    split at h
    · rename_i i j hi hj
      split at h
      · rename_i p hp
        obtain ⟨a0, as, h1, h2, r, nd, hB⟩ := s.ll hx
        unfold atLL at hp
        obtain ⟨xs, e1, e2⟩ := Option.bind_eq_some_iff.mp hp
        obtain ⟨k, e3, e4⟩ := Option.bind_eq_some_iff.mp e1
        obtain ⟨m, e5, e6⟩ := Option.bind_eq_some_iff.mp e2
        obtain ⟨c, vs, c1, c2, c3⟩ := r.get e4
        obtain ⟨v, d1, d2⟩ := c3.get e6
        refine ⟨_, h1, aI_ok s hi ⟨a0, _, i, .ref c, rfl, rfl, .inl (.inl h2), ixV e3 (by rw [List.length_map]; exact r.length) (by rw [List.getElem?_map, c1]; rfl), aI_ok s hj ?_⟩⟩
        refine ⟨c, vs, j, v, rfl, rfl, .inl (.inl c2), ixV e5 c3.length d1, ?_⟩
        exact h F H As (fun _ => False) v s ⟨d2, fun _ z => z⟩ (fun _ z => z.elim) (fun _ z => z.elim) (.refl fun b z => z.elim (fun z => z) False.elim)
      · exact h.elim
    · exact h.elim
  · exact h.elim
theorem jg_LL {x : Nat} {A B : Nat ⊕ Int} {n : Str} {q : Pos} (ha : PE X a (tAt A)) (hb : PE X b (tAt B)) (hN : X.N[x]? = some n := by rfl) (hv : Vis X.env.scope n := by first | exact Or.inl rfl | exact Or.inr (Or.inl rfl) | exact Or.inr (Or.inr rfl))
    (hd : (n == ("__debug__" : Str)) = false := by decide) (hcd : (n == ("__classdict__" : Str)) = false := by decide) (hp : PlainIx a := by exact fun _ _ => rfl)
    (hs : ∀ v, assign (.Subscript (.Subscript (.Name n q) a p1) b pos) X.env v = (do
      let ov ← holding [v] (eval (.Subscript (.Name n q) a p1) X.env)
      let iv ← holding [v, ov] (eval b X.env)
      standAt pos
      holding [v, ov, iv] (setItem ov iv v)
      release [v, ov, iv] []) := by intro _; rfl) : PG X (.Subscript (.Subscript (.Name n q) a p1) b pos) (tG g pins (gLL x A B)) := by
  refine pg_imp (pg_sub (pe_ix ix_list (pe_var hN hv hd hcd) ha hp) hb set_list hs) fun v σ H Q ⟨F, e, As, p, s, rp, h⟩ => ?_
  unfold gLL at h
  cases hx : e[x]? with
  | none => rw [hx] at h; exact h.elim
  | some oo =>
    rw [hx] at h
    cases oo with
    | none => exact h.elim
    | some o1 =>
      cases o1 with
      | val _ => exact h.elim
      | ls _ => exact h.elim
      | dc _ => exact h.elim
      | ll xss =>
        dsimp only at h
        cases hi : aI A e with
        | none => rw [hi] at h; exact h.elim
        | some i =>
          cases hj : aI B e with
          | none => rw [hi, hj] at h; exact h.elim
          | some j =>
            rw [hi, hj] at h
            dsimp only at h
            cases hy : setLL xss i j p with
            | none => rw [hy] at h; exact h.elim
            | some yss =>
              rw [hy] at h
              dsimp only at h
              obtain ⟨a0, as, h1, h2, r, nd, hB⟩ := s.ll hx
              unfold setLL at hy
              obtain ⟨k, e3, e1⟩ := Option.bind_eq_some_iff.mp hy
              obtain ⟨xs, e4, e2⟩ := Option.bind_eq_some_iff.mp e1
              obtain ⟨m, e5, e6⟩ := Option.map_eq_some_iff.mp e2
              subst e6
              obtain ⟨c, vs, c1, c2, c3⟩ := r.get e4
              have hc : As x c := (hB c).mpr (.inr (List.mem_of_getElem? c1))
              refine ⟨_, h1, aI_ok s hi ⟨a0, _, i, .ref c, rfl, rfl, .inl (.inl h2), ixV e3 (by rw [List.length_map]; exact r.length) (by rw [List.getElem?_map, c1]; rfl), aI_ok s hj ?_⟩⟩
              refine ⟨c, vs, j, m, rfl, rfl, c2, by rw [c3.length, ← ixP_ixN]; exact e5, ?_⟩
              have kk := Keep.chg (F := F) (u := HO.lst (vs.set m v)) (s.kind ⟨x, hc⟩).chg (s.nf x c hc)
              have hac : a0 ≠ c := by
                rintro rfl
                exact (List.nodup_cons.mp nd).1 (List.mem_of_getElem? c1)
              have s4 := s.mut (u := .lst (vs.set m v)) (o := .ll (xss.set k (xs.set m p))) (env_lt hx) hc h1 ⟨a0, as, rfl, by rw [upd_ne hac]; exact h2, r.set (List.nodup_cons.mp nd).2 c1 kk ((c3.set rp m).keep kk), nd, hB⟩
              exact h F _ σ As s4 PinsEq.refl (Dl.chg (s.kind ⟨x, hc⟩).chg ⟨x, hc⟩)
theorem ok_gLL {x : Nat} {A B : Nat ⊕ Int} : TOk (gLL x A B) := fun p e => by
  unfold gLL
  split
  · split
    · split
      · exact .inl ⟨_, rfl⟩
      · exact .inr rfl
    · exact .inr rfl
  · exact .inr rfl
end
end Mv
end
/-! file MvD4 -/
section
set_option linter.all false
set_option autoImplicit false
set_option maxRecDepth 100000
/-! Mv, part D4: dict displays. -/
namespace Mv
open PySem PySem.Spec PyProof.Rows L2
section
variable {g : Gi} {W : WX} {pins : Nat → Bool} {F F1 F2 : Addr → Prop} {H H1 H2 : Hp} {σ σ1 : L2.St} {e e1 e2 : Env} {As As1 As2 : Nat → Addr → Prop} {B B1 B2 C : Addr → Prop} {X : Cx}
def flatF : List (SE RV × SE RV) → List (SE RV)
  | [] => []
  | (f, h) :: r => f :: h :: flatF r
def flatV : List (V × V) → List V
  | [] => []
  | (f, h) :: r => f :: h :: flatV r
theorem tPairs_of {fs : List (SE RV × SE RV)} : ∀ {σ : L2.St} {H : Hp} {Q : List V → Hp → Prop}, tA g W (args (flatF fs)) σ H Q → tPairs (fs.map fun f => (tE g W f.1, tE g W f.2)) σ H fun ps H2 => Q (flatV ps) H2 := by
  induction fs with
  | nil => intro σ H Q h; exact tA_nil h
  | cons f fs ih =>
    intro σ H Q h
    obtain ⟨f1, f2⟩ := f
    have h1 := tA_cons (fa := f1) (fs := f2 :: flatF fs) h
    have mono : ∀ {f : SE RV} {σ : L2.St} {H : Hp} {Q Q' : VK}, tE g W f σ H Q → (∀ v H', Q v H' → Q' v H') → tE g W f σ H Q' := fun {f σ H Q Q'} h i => by
      obtain ⟨F, e, As, s, h⟩ := h
      refine ⟨F, e, As, s, ?_⟩
      cases q : f e with
      | ok r e1 => rw [q] at h; exact fun F2 H2 As2 B v s2 r2 n m d => i _ _ (h F2 H2 As2 B v s2 r2 n m d)
      | exc x e1 => rw [q] at h; exact h
      | bad => rw [q] at h; exact h.elim
    exact mono h1 fun x H1 h2 => mono (tA_cons (fa := f2) (fs := flatF fs) h2) fun y H2 h3 => ih h3
variable {pos : Pos} {keys : List (Option Expr)} {values : List Expr}
theorem jpp_nil : PPs X pos [] [] (([] : List (SE RV × SE RV)).map fun f => (tE g W f.1, tE g W f.2)) := pps_nil
theorem jpp_cons {k v : Expr} {ks : List (Option Expr)} {vs : List Expr} {fk fv : SE RV} {fs : List (SE RV × SE RV)} (hk : PE X k (tE g W fk)) (hv : PE X v (tE g W fv)) (hr : PPs X pos ks vs (fs.map fun f => (tE g W f.1, tE g W f.2))) :
    PPs X pos (some k :: ks) (v :: vs) (((fk, fv) :: fs).map fun f => (tE g W f.1, tE g W f.2)) := pps_cons hk hv hr
theorem dictNew {pn : List (Addr × Obj)} {s : Shared} (I : Inv X pn σ H s) : Inv X pn σ (upd H s.heap.objs.size (DictO s.heap.objs.size [])) { s with heap := s.heap.push { cls := .type "dict", data := .dict #[] }, toks := s.toks } := by
  refine I.laid (fun _ _ q => Heap.get?_push_of_some _ q) (Nat.le_refl _) ?_
  refine ⟨⟨beq_eq_false_iff_ne.mpr (Ne.symm (Nat.ne_of_lt I.big)), _, #[], 0, Heap.get?_push_size _ rfl, ⟨rfl, rfl, rfl⟩, rfl, .nil⟩, ⟨_, Heap.get?_push_size _ rfl⟩, ?_⟩
  rintro g1 g2 ⟨q1, o1, arr1, ep1, q2, q3, q4, q5⟩ k
  exact ⟨q1, o1, arr1, ep1, k o1 q2, q3, q4, q5⟩
/-- entries put one after the other -/
theorem store_ok (hu : X.A.units + 9 < cLine) (hK : X.K = g.K) (hW : X.w = g.w) {F : Addr → Prop} {d : Addr} (nf : ¬F d) {pn : List (Addr × Obj)} {Q : Hp → Prop} {kvs' : List (PV × PV)} {ps : List (V × V)} : ∀ {vs : List (Value × Value)} {qs : List PV} {s : Shared} {H : Hp} {es : List (Int × V × V)} {kvs : List (PV × PV)},
    Inv X pn σ H s → VV ps vs → RepPs g F H (flatV ps) qs → H d = some (DictO d es) → RepDs g F H es kvs → DK kvs → dicD.putAll putO kvs qs = some kvs' →
    (∀ es', RepDs g F (upd H d (DictO d es')) es' kvs' → DK kvs' → Q (upd H d (DictO d es'))) →
    wpAny (model X.prog X.w) X.A (storeAll d vs) (fun _ s' => ∃ H', Inv X pn σ H' s' ∧ Q H') X.xe s := by
  induction ps with
  | nil =>
    intro vs qs s H es kvs I hv r ho rd dk hp fin
    cases hv
    cases r
    have hp : some kvs = some kvs' := hp
    cases hp
    unfold storeAll
    rw [List.forIn_nil]
    have e : upd H d (DictO d es) = H := by
      funext b
      unfold upd
      split
      · rename_i h; rw [h, ho]
      · rfl
    refine wpAny_pure ⟨H, I, ?_⟩
    have := fin es (by rw [e]; exact rd) dk
    rw [e] at this
    exact this
  | cons p ps ih =>
    intro vs qs s H es kvs I hv r ho rd dk hp fin
    obtain ⟨x, y⟩ := p
    cases hv with
    | @cons _ w _ ws hv tv =>
    obtain ⟨u1, u2⟩ := w
    cases r with
    | @cons _ _ q1 _ rx r =>
    cases r with
    | @cons _ _ q2 qs ry rt =>
    unfold dicD.putAll at hp
    cases hq : putO kvs q1 q2 with
    | none => rw [hq] at hp; cases hp
    | some kvs1 =>
      rw [hq] at hp
      dsimp only at hp
      unfold putO at hq
      split at hq
      · rename_i hc
        rw [Bool.and_eq_true] at hc
        cases hq
        unfold storeAll
        rw [List.forIn_cons]
        refine wpAny_bind (wpAny_bind (wpAny_mono (dset_dc (g := g) hu hK hW I hv.1 hv.2 ⟨rfl, ho, rd, dk, rx, hc.1⟩ (of_decide_eq_true hc.2) ry (Q := fun H' => ∃ es', H' = upd H d (DictO d es') ∧ RepDs g F H es' (putP kvs q1 q2)) fun es' r => ⟨es', rfl, r⟩) (fun _ s1 q => ?_) fun _ _ e => e))
        obtain ⟨H', I1, es', rfl, rd'⟩ := q
        refine wpAny_pure ?_
        have k : Keep F H F (upd H d (DictO d es')) := Keep.chg ⟨_, ho, (fun _ z => nomatch z), (fun _ _ z => nomatch z)⟩ nf
        exact ih (vs := ws) I1 tv (rt.keep k) upd_same (rd'.keep k) (dk.put hc.1) hp fun es2 r2 d2 => by
          rw [upd_upd] at r2 ⊢
          exact fin es2 r2 d2
      · cases hq
theorem je_dict {fs : List (SE RV × SE RV)} (hu : X.A.units + 9 < cLine) (h : PPs X pos keys values (fs.map fun f => (tE g W f.1, tE g W f.2))) (hK : X.K = g.K := by rfl) (hW : X.w = g.w := by rfl) (hall : keys.all (·.isSome) = true := by rfl) (hl : keys.length = values.length := by rfl) (h0 : keys ≠ [] := by exact List.cons_ne_nil _ _)
    (h15 : keys.length ≤ 15 := by decide) : PE X (.Dict keys values pos) (tE g W (dicD putO (flatF fs))) := by
  refine ⟨fun pn s σ H Q I q => ?_⟩
  have hn := I.hok.fresh (Nat.le_refl s.heap.objs.size)
  have I1 := dictNew I
  generalize hd : s.heap.objs.size = d at *
  obtain ⟨F, e, As, s0, h1⟩ := q
  have x1 : ExtH H (upd H d (DictO d [])) := ExtH.upd hn
  have s1 := s0.ext x1
  have nA : ∀ b, b = d → ¬Ow As b := fun b hb z => by
    obtain ⟨o, q⟩ := (s0.kind z).live
    rw [hb, hn] at q; cases q
  have nF : ∀ b, b = d → ¬F b := fun b hb z => by
    obtain ⟨o, q⟩ := s0.fl b z
    rw [hb, hn] at q; cases q
  have ap : Apart (fun b => b = d) F (Ow As) (upd H d (DictO d [])) := ⟨nA, nF, fun b hb => ⟨DictO d [], by rw [hb]; exact upd_same⟩⟩
  have d0 : Dl F (Ow As) H F (fun b => Ow As b ∨ b = d) (upd H d (DictO d [])) := x1.dl fun b z => by
    rcases z with z | z
    · exact .inl z
    · exact .inr (by rw [z]; exact hn)
  have ta : tA g W (args (flatF fs)) σ (upd H d (DictO d [])) fun vs H2 => ∃ F3 qs kvs, RepPs g F3 H2 vs qs ∧ H2 d = some (DictO d []) ∧ ¬F3 d ∧ dicD.putAll putO [] qs = some kvs ∧ ∀ es', RepDs g F3 (upd H2 d (DictO d es')) es' kvs → DK kvs → Q (.ref d) (upd H2 d (DictO d es')) := by
    refine ⟨F, e, As, s1, Post.later (C := fun b => b = d) s1 d0 h1 fun rs e1 hm F1 H1 As1 B1 us s2 r1 n1 m1 d1 h2 => ?_⟩
    obtain ⟨ps, e3, F3, As3, h3, s3, r3, d3⟩ := h2.escs s2 r1 n1 m1
    obtain ⟨kvs, hk, h3⟩ := h3.ofO
    have ap1 := ap.step d1
    have ap3 := ap1.step d3
    have hd2 : H1 d = some (DictO d []) := d1.keep d _ upd_same (nA d rfl)
    refine ⟨F3, ps, kvs, r3, hd2, ap3.f d rfl, hk, fun es' rd dk => ?_⟩
    have kc : Chg H1 d := ⟨_, hd2, (fun _ z => nomatch z), (fun _ _ z => nomatch z)⟩
    have kk := Keep.chg (F := F3) (u := DictO d es') kc (ap3.f d rfl)
    have s4 : Sim g F3 (upd H1 d (DictO d es')) σ e3 As3 := by
      refine ⟨s3.len, fun i o q => ?_, s3.off, s3.dis, s3.nf, fun b f => ?_⟩
      · obtain ⟨v, a1, a2⟩ := s3.slot i o q
        refine ⟨v, a1, a2.stay kk fun b o z e => ?_⟩
        rw [upd_ne]; exact e
        rintro rfl; exact ap3.a _ rfl ⟨i, z⟩
      · obtain ⟨o, q⟩ := s3.fl b f
        exact ⟨o, kk.fix b o f q⟩
    have dd : Dl F (Ow As) H F3 (fun b => Ow As3 b ∨ b = d) H1 := d0.trans ((d1.trans d3).frame (B := fun b => b = d))
    have d5 : Dl F3 (fun b => Ow As3 b ∨ b = d) H1 F3 (fun b => Ow As3 b ∨ b = d) (upd H1 d (DictO d es')) := Dl.chg kc (.inr rfl)
    exact h3 F3 _ As3 (fun b => b = d) (.ref d) s4 ⟨d, es', rfl, upd_same, rd, dk, fun b => Iff.rfl⟩ ap3.a ap3.f (dd.trans d5)
  have fin := h.run pn _ σ _ _ I1 (tPairs_of ta)
  refine wpAny_Dict_any hall hl h0 h15 (wpAny_mono fin (fun vs s2 q => ?_) fun _ _ e => e)
  obtain ⟨ps, H2, I2, rel, F3, qs, kvs, r, hd2, nf, hk, q⟩ := q
  rw [hd]
  refine wpAny_mono (store_ok (g := g) (F := F3) hu hK hW nf I2 rel r hd2 .nil DK.nil hk (Q := fun H' => Q (.ref d) H') fun es' rd dk => q es' rd dk) (fun _ s3 q => ?_) fun _ _ e => e
  obtain ⟨H3, I3, q⟩ := q
  exact ⟨.ref d, H3, I3, rfl, q⟩
theorem je_dict0 : PE X (.Dict [] [] pos) (tE g W (ret (.v (.dc [])))) := by
  refine ⟨fun pn s σ H Q I q => wpAny_Dict_empty ?_⟩
  have hn := I.hok.fresh (Nat.le_refl s.heap.objs.size)
  have I1 := dictNew I
  obtain ⟨F, e, As, s0, h1⟩ := q
  refine ⟨.ref s.heap.objs.size, _, I1, rfl, ?_⟩
  have x1 : ExtH H (upd H s.heap.objs.size (DictO s.heap.objs.size [])) := ExtH.upd hn
  refine h1 F _ As (fun b => b = s.heap.objs.size) _ (s0.ext x1) ⟨_, [], rfl, upd_same, .nil, DK.nil, fun b => Iff.rfl⟩ (fun b hb z => ?_) (fun b hb z => ?_) (x1.dl fun b z => ?_)
  · obtain ⟨o, q⟩ := (s0.kind z).live
    rw [hb, hn] at q; cases q
  · obtain ⟨o, q⟩ := s0.fl b z
    rw [hb, hn] at q; cases q
  · rcases z with z | z
    · exact .inl z
    · exact .inr (by rw [z]; exact hn)
end
end Mv
end
/-! file MvN -/
section
set_option linter.all false
set_option autoImplicit false
set_option maxRecDepth 100000
/-! Mv, part N: ranges as lists and tuples, assignments side by side. -/
namespace Mv
open PySem PySem.Spec PyProof.Rows L2

/-! ### list(range(..)), tuple(range(..)) -/
def rgO (t : Bool) (a b : Int) : Option OV :=
  if ((-(2 ^ 62) ≤ a ∧ a < 2 ^ 62) ∧ -(2 ^ 62) ≤ b ∧ b < 2 ^ 62) ∧ (b - a).toNat ≤ 2 ^ 24 then some (if t then .val (.tup (rngL a (b - a).toNat)) else .ls (rngL a (b - a).toNat)) else none
def rgP (t : Bool) : List PV → Option OV
  | [.int j] => rgO t 0 j
  | [.int i, .int j] => rgO t i j
  | _ => none
section
variable {g : Gi} {W : WX} {pins : Nat → Bool} {F F1 F2 : Addr → Prop} {H H1 H2 : Hp} {σ σ1 : L2.St} {e e1 e2 : Env} {As As1 As2 : Nat → Addr → Prop} {B B1 B2 C : Addr → Prop} {X : Cx} {D : Ends}
variable {a b : Expr} {pos : Pos} {fa fb : SE RV} {fs : List (SE RV)}
theorem tE_mono {f : SE RV} {Q Q' : VK} (h : tE g W f σ H Q) (i : ∀ v H', Q v H' → Q' v H') : tE g W f σ H Q' := by
  obtain ⟨F, e, As, s, h⟩ := h
  refine ⟨F, e, As, s, ?_⟩
  cases q : f e with
  | ok r e1 => rw [q] at h; exact fun F2 H2 As2 B v s2 r2 n m d => i _ _ (h F2 H2 As2 B v s2 r2 n m d)
  | exc x e1 => rw [q] at h; exact h
  | bad => rw [q] at h; exact h.elim
theorem rep_rg (lo : Int) (n : Nat) : RepPs g F H ((List.range n).map fun i => V.int (lo + (i : Nat))) (rngL lo n) := by
  unfold rngL
  induction List.range n with
  | nil => exact .nil
  | cons k ks ih => exact .cons (.int _) ih
def rRgs (t : Bool) : List V → Hp → VK → Prop := fun xs H Q => (∃ n, xs = [.int n] ∧ RgOk 0 n ∧ ∀ q, H q = none → Q (.ref q) (upd H q (if t then .tup (rgV 0 n) else .lst (rgV 0 n)))) ∨
  ∃ m n, xs = [.int m, .int n] ∧ RgOk m n ∧ ∀ q, H q = none → Q (.ref q) (upd H q (if t then .tup (rgV m n) else .lst (rgV m n)))
theorem s_rgs (t : Bool) : SN g (rRgs t) (rgP t) := fun F H xs ps o Q hx e f => by
  have fin : ∀ a b, rgO t a b = some o → RgOk a b ∧ ∀ q, H q = none → Q (.ref q) (upd H q (if t then .tup (rgV a b) else .lst (rgV a b))) := fun a b e => by
    unfold rgO at e
    split at e
    · rename_i hc
      cases e
      refine ⟨⟨hc.1.1.1, hc.1.1.2, hc.1.2.1, hc.1.2.2, hc.2⟩, fun q hq => ?_⟩
      cases t with
      | true => exact f.newT (rep_rg a _) hq
      | false => exact f.new (rep_rg a _) hq
    · cases e
  unfold rgP at e
  split at e
  · obtain ⟨x, rfl, h⟩ := hx.one
    obtain ⟨q1, q2⟩ := fin _ _ e
    exact .inl ⟨_, by rw [h.int], q1, q2⟩
  · obtain ⟨x, y, rfl, h, h'⟩ := hx.two
    obtain ⟨q1, q2⟩ := fin _ _ e
    exact .inr ⟨_, _, by rw [h.int, h'.int], q1, q2⟩
  · cases e
theorem rg_1 {t : Bool} {Q : VK} (h : tE g W (opN (rgP t) [fa]) σ H Q) : tRg1 (tE g W fa) σ H fun a b H1 => RgOk a b ∧ ∀ q, H1 q = none → Q (.ref q) (upd H1 q (if t then .tup (rgV a b) else .lst (rgV a b))) :=
  tE_mono (tA_cons (tE_opN (s_rgs t) h)) fun x H1 h1 => by
    rcases tA_nil h1 with ⟨n, e, q⟩ | ⟨m, n, e, q⟩
    · cases e; exact ⟨n, rfl, q⟩
    · cases e
theorem rg_2 {t : Bool} {Q : VK} (h : tE g W (opN (rgP t) [fa, fb]) σ H Q) : tRg2 (tE g W fa) (tE g W fb) σ H fun a b H1 => RgOk a b ∧ ∀ q, H1 q = none → Q (.ref q) (upd H1 q (if t then .tup (rgV a b) else .lst (rgV a b))) :=
  tE_mono (tA_cons (tE_opN (s_rgs t) h)) fun x H1 h1 => tE_mono (tA_cons h1) fun y H2 h2 => by
    rcases tA_nil h2 with ⟨n, e, q⟩ | ⟨m, n, e, q⟩
    · cases e
    · cases e; exact ⟨m, n, rfl, rfl, q⟩
theorem je_lstR1 {p q pos2 : Pos} (hc : X.calm = true) (hm : X.mg "list" = none) (hm2 : X.mg "range" = none) (ha : PE X a (tE g W fa)) (hg : Gl X "list" := by rfl) (hg2 : Gl X "range" := by rfl) (na : starEach [a] X.env = (false, eval a X.env) :: starEach [] X.env := by rfl)
    (na2 : starEach [.Call (.Name "range" q) [a] [] pos2] X.env = (false, eval (.Call (.Name "range" q) [a] [] pos2) X.env) :: starEach [] X.env := by rfl) : PE X (.Call (.Name "list" p) [.Call (.Name "range" q) [a] [] pos2] [] pos) (tE g W (opN (rgP false) [fa])) :=
  pe_imp (pe_listRg hc hg hm (prg_1 hg2 hm2 ha na) na2) fun σ H Q h => rg_1 (t := false) h
theorem je_tupR1 {p q pos2 : Pos} (hc : X.calm = true) (hm : X.mg "tuple" = none) (hm2 : X.mg "range" = none) (ha : PE X a (tE g W fa)) (hg : Gl X "tuple" := by rfl) (hg2 : Gl X "range" := by rfl) (na : starEach [a] X.env = (false, eval a X.env) :: starEach [] X.env := by rfl)
    (na2 : starEach [.Call (.Name "range" q) [a] [] pos2] X.env = (false, eval (.Call (.Name "range" q) [a] [] pos2) X.env) :: starEach [] X.env := by rfl) : PE X (.Call (.Name "tuple" p) [.Call (.Name "range" q) [a] [] pos2] [] pos) (tE g W (opN (rgP true) [fa])) :=
  pe_imp (pe_tupRg hc hg hm (prg_1 hg2 hm2 ha na) na2) fun σ H Q h => rg_1 (t := true) h
theorem je_lstR2 {p q pos2 : Pos} (hc : X.calm = true) (hm : X.mg "list" = none) (hm2 : X.mg "range" = none) (ha : PE X a (tE g W fa)) (hb : PE X b (tE g W fb)) (hg : Gl X "list" := by rfl) (hg2 : Gl X "range" := by rfl) (na : starEach [a, b] X.env = (false, eval a X.env) :: starEach [b] X.env := by rfl)
    (nb : starEach [b] X.env = (false, eval b X.env) :: starEach [] X.env := by rfl) (hp : (backTo pos2 (starEach [b] X.env)).any (·.1) = false := by rfl)
    (na2 : starEach [.Call (.Name "range" q) [a, b] [] pos2] X.env = (false, eval (.Call (.Name "range" q) [a, b] [] pos2) X.env) :: starEach [] X.env := by rfl) : PE X (.Call (.Name "list" p) [.Call (.Name "range" q) [a, b] [] pos2] [] pos) (tE g W (opN (rgP false) [fa, fb])) :=
  pe_imp (pe_listRg hc hg hm (prg_2 hg2 hm2 ha hb na nb hp) na2) fun σ H Q h => rg_2 (t := false) h
theorem je_tupR2 {p q pos2 : Pos} (hc : X.calm = true) (hm : X.mg "tuple" = none) (hm2 : X.mg "range" = none) (ha : PE X a (tE g W fa)) (hb : PE X b (tE g W fb)) (hg : Gl X "tuple" := by rfl) (hg2 : Gl X "range" := by rfl) (na : starEach [a, b] X.env = (false, eval a X.env) :: starEach [b] X.env := by rfl)
    (nb : starEach [b] X.env = (false, eval b X.env) :: starEach [] X.env := by rfl) (hp : (backTo pos2 (starEach [b] X.env)).any (·.1) = false := by rfl)
    (na2 : starEach [.Call (.Name "range" q) [a, b] [] pos2] X.env = (false, eval (.Call (.Name "range" q) [a, b] [] pos2) X.env) :: starEach [] X.env := by rfl) : PE X (.Call (.Name "tuple" p) [.Call (.Name "range" q) [a, b] [] pos2] [] pos) (tE g W (opN (rgP true) [fa, fb])) :=
  pe_imp (pe_tupRg hc hg hm (prg_2 hg2 hm2 ha hb na nb hp) na2) fun σ H Q h => rg_2 (t := true) h

/-! ### a, b = x, y -/
/-- several things, each with its own -/
inductive RepOs (g : Gi) (F : Addr → Prop) (H : Hp) : List V → List OV → List (Addr → Prop) → Prop
  | nil : RepOs g F H [] [] []
  | cons {v : V} {vs : List V} {o : OV} {os : List OV} {B : Addr → Prop} {Bs : List (Addr → Prop)} : RepO g F H v o B → RepOs g F H vs os Bs → (∀ b, B b → ∀ C ∈ Bs, ¬C b) → RepOs g F H (v :: vs) (o :: os) (B :: Bs)
def AnyB (Bs : List (Addr → Prop)) : Addr → Prop := fun b => ∃ C ∈ Bs, C b
theorem RepOs.stay (k : Keep F H F1 H1) : ∀ {vs : List V} {os : List OV} {Bs : List (Addr → Prop)}, (∀ b o, AnyB Bs b → H b = some o → H1 b = some o) → RepOs g F H vs os Bs → RepOs g F1 H1 vs os Bs
  | _, _, _, _, .nil => .nil
  | _, _, _, hB, .cons h r d => .cons (h.stay k fun b o c => hB b o ⟨_, List.mem_cons_self, c⟩) (RepOs.stay k (fun b o ⟨C, m, c⟩ => hB b o ⟨C, List.mem_cons_of_mem _ m, c⟩) r) d
theorem ofX_assoc {α β : Type} (m : SE α) (f : α → SE β) (k : β → SS) : ofX (bnd m f) k = ofX m fun a => ofX (f a) k := by
  funext e
  unfold ofX bnd
  cases m e <;> rfl
theorem PostS.holds : ∀ {rs : List RV} {vs : List V} {B : Addr → Prop} {k : List OV → SS} {e2 : Env} {F2 : Addr → Prop} {As2 : Nat → Addr → Prop}, PostS g W pins σ F As H (ofX (Mv.holds rs) k e2) D → Sim g F2 H2 σ e2 As2 → RepRs g σ F2 H2 vs rs B → (∀ b, B b → ¬Ow As2 b) → (∀ b, B b → ¬F2 b) →
    ∃ os e3 F3 As3 Bs, PostS g W pins σ F As H (k os e3) D ∧ Sim g F3 H2 σ e3 As3 ∧ RepOs g F3 H2 vs os Bs ∧ (∀ b, AnyB Bs b → B b) ∧ (∀ b, AnyB Bs b → ¬Ow As3 b) ∧ (∀ b, AnyB Bs b → ¬F3 b) ∧ Dl F2 (fun b => Ow As2 b ∨ B b) H2 F3 (fun b => Ow As3 b ∨ AnyB Bs b) H2
  | [], vs, B, k, e2, F2, As2, h, s2, rr, _, _ => by
    cases rr with
    | nil nb => exact ⟨[], e2, F2, As2, [], h, s2, .nil, fun _ ⟨_, m, _⟩ => (nomatch m), fun _ ⟨_, m, _⟩ => (nomatch m), fun _ ⟨_, m, _⟩ => (nomatch m), .refl fun b z => z.elim .inl fun ⟨_, m, _⟩ => (nomatch m)⟩
  | r :: rs, vs, B, k, e2, F2, As2, h, s2, rr, n, m => by
    cases rr with
    | @cons v vs _ _ _ B1 B2 h1 h2 d12 eB =>
      have h' : PostS g W pins σ F As H (ofX (Mv.hold r) (fun p => ofX (Mv.holds rs) fun ps => k (p :: ps)) e2) D := by
        have e : ofX (Mv.holds (r :: rs)) k = ofX (Mv.hold r) (fun p => ofX (Mv.holds rs) fun ps => k (p :: ps)) := by
          show ofX (bnd (Mv.hold r) fun p => bnd (Mv.holds rs) fun ps => ret (p :: ps)) k = _
          rw [ofX_assoc]
          congr 1
          funext p
          rw [ofX_assoc]
          rfl
        rw [e] at h
        exact h
      obtain ⟨p, e3, F3, As3, B3, h3, s3, r3, b3, n3, m3, d3⟩ := h'.hold s2 h1 (fun b z => n b ((eB b).mpr (.inl z))) (fun b z => m b ((eB b).mpr (.inl z)))
      have ap : Apart B2 F2 (fun b => Ow As2 b ∨ B1 b) H2 := ⟨fun b z y => by
        rcases y with y | y
        · exact n b ((eB b).mpr (.inr z)) y
        · exact d12 b y z, fun b z => m b ((eB b).mpr (.inr z)), fun b z => (h2.kind z).live⟩
      have ap3 := ap.step d3
      have k3 : Keep F2 H2 F3 H2 := ⟨d3.mono, fun _ _ e => e, fun _ _ _ e => e, fun _ _ _ e => e⟩
      obtain ⟨os, e4, F4, As4, Bs, h4, s4, r4, b4, n4, m4, d4⟩ := PostS.holds h3 s3 (h2.stay k3 fun _ _ _ e => e) (fun b z y => ap3.a b z (.inl y)) ap3.f
      have apB : Apart B3 F3 (fun b => Ow As3 b ∨ B2 b) H2 := ⟨fun b z y => by
        rcases y with y | y
        · exact n3 b z y
        · exact d12 b (b3 b z) y, m3, fun b z => (RepO.kind r3 z).live⟩
      have apB4 := apB.step d4
      have k4 : Keep F3 H2 F4 H2 := ⟨d4.mono, fun _ _ e => e, fun _ _ _ e => e, fun _ _ _ e => e⟩
      refine ⟨p :: os, e4, F4, As4, B3 :: Bs, h4, s4, .cons (r3.stay k4 fun _ _ _ e => e) r4 (fun b z C mC c => d12 b (b3 b z) (b4 b ⟨C, mC, c⟩)), fun b z => ?_, fun b z => ?_, fun b z => ?_, ?_⟩
      · obtain ⟨C, mC, c⟩ := z
        rcases List.mem_cons.mp mC with rfl | mC
        · exact (eB b).mpr (.inl (b3 b c))
        · exact (eB b).mpr (.inr (b4 b ⟨C, mC, c⟩))
      · obtain ⟨C, mC, c⟩ := z
        rcases List.mem_cons.mp mC with rfl | mC
        · exact fun y => apB4.a b c (.inl y)
        · exact n4 b ⟨C, mC, c⟩
      · obtain ⟨C, mC, c⟩ := z
        rcases List.mem_cons.mp mC with rfl | mC
        · exact apB4.f b c
        · exact m4 b ⟨C, mC, c⟩
      · have up3 : ∀ b, Ow As3 b → (Ow As2 b ∨ B b) ∨ H2 b = none := fun b z => by
          rcases d3.own b (.inl z) with (y | y) | y
          · exact .inl (.inl y)
          · exact .inl (.inr ((eB b).mpr (.inl y)))
          · exact .inr y
        have up4 : ∀ b, Ow As4 b ∨ AnyB Bs b → (Ow As2 b ∨ B b) ∨ H2 b = none := fun b z => by
          rcases d4.own b z with (y | y) | y
          · exact up3 b y
          · exact .inl (.inr ((eB b).mpr (.inr y)))
          · exact .inr y
        refine ⟨fun b z => d4.mono b (d3.mono b z), fun _ _ e _ => e, fun _ e => e, fun b z => ?_, fun b z => ?_, fun _ _ e => e, fun _ _ _ e => e⟩
        · rcases z with z | ⟨C, mC, c⟩
          · exact up4 b (.inl z)
          · rcases List.mem_cons.mp mC with rfl | mC
            · exact .inl (.inr ((eB b).mpr (.inl (b3 b c))))
            · exact up4 b (.inr ⟨C, mC, c⟩)
        · rcases d4.fz b z with z | (z | z) | z
          · rcases d3.fz b z with z | (z | z) | z
            · exact .inl z
            · exact .inr (.inl (.inl z))
            · exact .inr (.inl (.inr ((eB b).mpr (.inl z))))
            · exact .inr (.inr z)
          · rcases up3 b z with z | z
            · exact .inr (.inl z)
            · exact .inr (.inr z)
          · exact .inr (.inl (.inr ((eB b).mpr (.inr z))))
          · exact .inr (.inr z)
/-- the names are set, one after the other -/
theorem PostS.sets : ∀ {is : List Nat} {vs : List V} {os : List OV} {Bs : List (Addr → Prop)} {σ2 : L2.St} {e2 : Env} {F2 : Addr → Prop} {As2 : Nat → Addr → Prop}, PostS g W pins σ F As H (setVs is os e2) D → Sim g F2 H2 σ2 e2 As2 → PinsEq pins σ σ2 → RepOs g F2 H2 vs os Bs → (∀ b, AnyB Bs b → ¬Ow As2 b) → (∀ b, AnyB Bs b → ¬F2 b) → (∀ i ∈ is, pins i = false) → Dl F (Ow As) H F2 (fun b => Ow As2 b ∨ AnyB Bs b) H2 →
    is.length = vs.length ∧ D.nx ((is.zip vs).foldl (fun σ p => σ.set p.1 (some p.2)) σ2) H2
  | [], vs, os, Bs, σ2, e2, F2, As2, h, s2, pe, r, n, m, hp, d => by
    cases r with
    | nil => exact ⟨rfl, h F2 H2 σ2 As2 s2 pe (d.less fun b z => .inl z)⟩
    | cons _ _ _ => exact h.elim
  | i :: is, vs, os, Bs, σ2, e2, F2, As2, h, s2, pe, r, n, m, hp, d => by
    cases r with
    | nil => exact h.elim
    | @cons v vs o os B Bs r rr dj =>
      obtain ⟨As4, s4, a4⟩ := s2.put r (fun b z => n b ⟨B, List.mem_cons_self, z⟩) (fun b z => m b ⟨B, List.mem_cons_self, z⟩) i
      have h' : PostS g W pins σ F As H (setVs is os (e2.set i (some o))) D := h
      have q := PostS.sets (vs := vs) (Bs := Bs) h' s4 (pe.trans (PinsEq.set (hp i List.mem_cons_self))) rr (fun b z y => by
        obtain ⟨C, mC, c⟩ := z
        rcases a4 b y with y | y
        · exact n b ⟨C, List.mem_cons_of_mem _ mC, c⟩ y
        · exact dj b y C mC c) (fun b ⟨C, mC, c⟩ => m b ⟨C, List.mem_cons_of_mem _ mC, c⟩) (fun j mj => hp j (List.mem_cons_of_mem _ mj)) (d.less fun b z => by
          rcases z with z | ⟨C, mC, c⟩
          · rcases a4 b z with z | z
            · exact .inl z
            · exact .inr ⟨B, List.mem_cons_self, z⟩
          · exact .inr ⟨C, List.mem_cons_of_mem _ mC, c⟩)
      exact ⟨by rw [List.length_cons, List.length_cons, q.1], q.2⟩
theorem tS_par {is : List Nat} (hp : ∀ i ∈ is, pins i = false) (h : tS g W pins (parS is fs) D σ H) : tA g W (args fs) σ H fun vs H1 => is.length = vs.length ∧ D.nx ((is.zip vs).foldl (fun σ p => σ.set p.1 (some p.2)) σ) H1 := by
  obtain ⟨F, e, As, s, h⟩ := h
  refine ⟨F, e, As, s, PostS.later (C := fun _ => False) s (.refl fun b z => z.elim (fun z => z) False.elim) h fun rs e1 hm F1 H1 As1 B1 xs s1 r1 n1 m1 d1 h1 => ?_⟩
  obtain ⟨os, e3, F3, As3, Bs, h3, s3, r3, b3, n3, m3, d3⟩ := PostS.holds h1 s1 r1 n1 m1
  exact PostS.sets h3 s3 PinsEq.refl r3 n3 m3 hp (d1.trans d3)
theorem js_par {i j : Nat} {x y : Str} {px py pt : Pos} {kt k2 : Nat} {pt2 : Pos} (hc : X.calm = true) (hN : X.N.Nodup) (ha : PA X [a, b] (tA g W (args fs))) (hi : X.N[i]? = some x := by rfl) (hj : X.N[j]? = some y := by rfl) (hij : i ≠ j := by decide) (hpi : pins i = false := by rfl) (hpj : pins j = false := by rfl)
    (hx : X.env.scope.names.lookup x = some .local := by rfl) (hy : X.env.scope.names.lookup y = some .local := by rfl)
    (hw : swappedStores [.Tuple [.Name x px, .Name y py] kt pt] (.Tuple [a, b] k2 pt2) X.env = (Pure.pure (some [x, y]) : Sem _) := by rfl)
    (hs : swapsWithSole [.Tuple [.Name x px, .Name y py] kt pt] (.Tuple [a, b] k2 pt2) pos.line X.env = (Pure.pure false : Sem _) := by rfl) :
    PS X (.Assign [.Tuple [.Name x px, .Name y py] kt pt] (.Tuple [a, b] k2 pt2) pos) (tS g W pins (parS [i, j] fs)) := by
  refine ps_imp (ps_par hc hN hi hj hij hx hy ha hw hs) fun D σ H h => ?_
  have h1 := tS_par (fun k hk => by
    rcases List.mem_cons.mp hk with rfl | hk
    · exact hpi
    · rw [List.mem_singleton.mp hk]; exact hpj) h
  obtain ⟨F, e, As, s, h1⟩ := h1
  refine ⟨F, e, As, s, ?_⟩
  cases q : args fs e with
  | bad => rw [q] at h1; exact h1.elim
  | exc x0 e1 => rw [q] at h1; exact h1
  | ok rs e1 =>
    rw [q] at h1
    intro F2 H2 As2 B vs s2 r2 n m d
    obtain ⟨hl, h2⟩ := h1 F2 H2 As2 B vs s2 r2 n m d
    obtain ⟨v, w, rfl⟩ : ∃ v w, vs = [v, w] := by
      match vs, hl with
      | [v, w], _ => exact ⟨v, w, rfl⟩
    exact ⟨v, w, rfl, h2⟩
theorem js_par3 {i j l : Nat} {x y z : Str} {c : Expr} {px py pz pt : Pos} {kt k2 : Nat} {pt2 : Pos} (hc : X.calm = true) (hN : X.N.Nodup) (ha : PA X [a, b, c] (tA g W (args fs))) (hi : X.N[i]? = some x := by rfl) (hj : X.N[j]? = some y := by rfl) (hl : X.N[l]? = some z := by rfl) (hij : i ≠ j := by decide) (hil : i ≠ l := by decide) (hjl : j ≠ l := by decide) (hpi : pins i = false := by rfl) (hpj : pins j = false := by rfl) (hpl : pins l = false := by rfl)
    (hx : X.env.scope.names.lookup x = some .local := by rfl) (hy : X.env.scope.names.lookup y = some .local := by rfl) (hz : X.env.scope.names.lookup z = some .local := by rfl)
    (hw : swappedStores [.Tuple [.Name x px, .Name y py, .Name z pz] kt pt] (.Tuple [a, b, c] k2 pt2) X.env = (Pure.pure (some [x, y, z]) : Sem _) := by rfl)
    (hs : swapsWithSole [.Tuple [.Name x px, .Name y py, .Name z pz] kt pt] (.Tuple [a, b, c] k2 pt2) pos.line X.env = (Pure.pure false : Sem _) := by rfl) :
    PS X (.Assign [.Tuple [.Name x px, .Name y py, .Name z pz] kt pt] (.Tuple [a, b, c] k2 pt2) pos) (tS g W pins (parS [i, j, l] fs)) := by
  refine ps_imp (ps_par3 hc hN hi hj hl hij hil hjl hx hy hz ha hw hs) fun D σ H h => ?_
  have h1 := tS_par (fun k hk => by
    rcases List.mem_cons.mp hk with rfl | hk
    · exact hpi
    · rcases List.mem_cons.mp hk with rfl | hk
      · exact hpj
      · rw [List.mem_singleton.mp hk]; exact hpl) h
  obtain ⟨F, e, As, s, h1⟩ := h1
  refine ⟨F, e, As, s, ?_⟩
  cases q : args fs e with
  | bad => rw [q] at h1; exact h1.elim
  | exc x0 e1 => rw [q] at h1; exact h1
  | ok rs e1 =>
    rw [q] at h1
    intro F2 H2 As2 B vs s2 r2 n m d
    obtain ⟨hl, h2⟩ := h1 F2 H2 As2 B vs s2 r2 n m d
    obtain ⟨u, v, w, rfl⟩ : ∃ u v w, vs = [u, v, w] := by
      match vs, hl with
      | [u, v, w], _ => exact ⟨u, v, w, rfl⟩
    exact ⟨u, v, w, rfl, h2⟩
end
end Mv
end
/-! file MvX -/
section
set_option linter.all false
set_option autoImplicit false
set_option maxRecDepth 100000
/-! Mv, part X: raise. -/
namespace Mv
open PySem PySem.Spec PyProof.Rows L2
section
variable {g : Gi} {W : WX} {pins : Nat → Bool} {X : Cx}
/-- X() of an exception class of one's own without an own __init__ -/
theorem pmk_own0 {C : Addr} {bmB : List Value} {B newId initId : String} {x : Str} {p pos : Pos} (F : ExcBaseFacts B newId initId bmB) (q : PySem.W.excIn X.K C bmB newId = true) (gC : X.mg x = some (.ref C)) (kC : PySem.W.keepIn X.K (.ref C) = true) (r : Raises X (.ref C)) (hg : Gl X x)
    (hdb : (x == ("__debug__" : Str)) = false := by decide) : PMk X (.Call (.Name x p) [] [] pos) (fun _ H Q => Q (.ref C) none H) := by
  intro pins s σ H Q I h
  refine wpAny_Call_Name_kw (ld_glob I hg gC ?_ hdb)
  refine PySem.W.callWith_K0 I.kIn kC ?_
  show wpAny _ _ (call (.ref C) []) _ _ _
  obtain ⟨bm, N, nm, qn, bs, hdct, sn, sub, ab, col, dd, k0, k1, k2, k3, k5, mN, hC, hN, hni, T⟩ := exc_obj I.kIn q
  obtain ⟨hp1, g1, d1, tk1, os1⟩ := s
  exact wpAny_call_exc_subT F T hC hN hni (fun h' e hm => mk_of I hm r h (I.hok.gone hm.new)) (by show 0 ≤ sizeLine; exact Nat.zero_le _)
theorem js_raise {C : Addr} {bmB : List Value} {B newId initId : String} {x : Str} {p pos pos' : Pos} (hc : X.calm = true) (tk : Takes X W) (F : ExcBaseFacts B newId initId bmB) (q : PySem.W.excIn X.K C bmB newId = true) (gC : X.mg x = some (.ref C)) (kC : PySem.W.keepIn X.K (.ref C) = true) (r : Raises X (.ref C)) (hca : g.ca x = some C) (hg : Gl X x := by rfl)
    (hdb : (x == ("__debug__" : Str)) = false := by decide) : PS X (.Raise (some (.Call (.Name x p) [] [] pos)) none pos') (tS g W pins (raiseS x)) :=
  ps_imp (ps_raise hc tk (pmk_own0 F q gC kC r hg hdb)) fun D σ H ⟨F, e, As, s, h⟩ => h F H σ As (.ref C) none s PinsEq.refl (.refl fun _ z => z) ⟨rfl, C, hca, rfl, rfl⟩
end
end Mv
end
/-! file MvN2 -/
section
set_option linter.all false
set_option autoImplicit false
set_option maxRecDepth 100000
/-! Mv, part N2: assignments side by side by way of a tuple. -/
namespace Mv
open PySem PySem.Spec PyProof.Rows L2
section
variable {g : Gi} {W : WX} {pins : Nat → Bool} {F F1 F2 : Addr → Prop} {H H1 H2 : Hp} {σ σ1 : L2.St} {e e1 e2 : Env} {As As1 As2 : Nat → Addr → Prop} {B B1 B2 C : Addr → Prop} {X : Cx} {D : Ends}
variable {a b : Expr} {pos : Pos} {fa fb : SE RV} {fs : List (SE RV)} {es : List Expr}
def tNs (is : List Nat) : TGs := fun vs σ H Q => is.length = vs.length ∧ Q ((is.zip vs).foldl (fun σ p => σ.set p.1 (some p.2)) σ) H
theorem jn_nil : PGs X [] (tNs []) := by
  refine ⟨fun pn s σ H vs us Q I r h => pgs_nil.run pn s σ H vs us Q I r ?_⟩
  obtain ⟨h1, h2⟩ := h
  cases vs with
  | nil => exact ⟨rfl, h2⟩
  | cons _ _ => cases h1
theorem jn_cons {i : Nat} {is : List Nat} {x : Str} (hN : X.N.Nodup) (h2 : PGs X es (tNs is)) (hi : X.N[i]? = some x := by rfl) (hx : Loc X.env.scope x := by first | exact Or.inl rfl | exact Or.inr rfl) (hf : X.fn x = true ∨ X.env.scope.names.lookup x = some .local := by first | exact .inl rfl | exact .inr rfl)
    (hs : (assignEach (.Name x pos :: es) X.env).map (·.2) = assign (.Name x pos) X.env :: (assignEach es X.env).map (·.2) := by rfl) : PGs X (.Name x pos :: es) (tNs (i :: is)) := by
  refine ⟨fun pn s σ H vs us Q I r h => (pgs_cons (pg_name hN hi hx hf) h2 hs).run pn s σ H vs us Q I r ?_⟩
  obtain ⟨h1, h3⟩ := h
  cases vs with
  | nil => cases h1
  | cons v vs => exact ⟨v, vs, rfl, Nat.succ.inj h1, h3⟩
theorem tS_parT {is : List Nat} (hp : ∀ i ∈ is, pins i = false) (h : tS g W pins (parS is fs) D σ H) : tA g W (args fs) σ H fun vs H1 => vs.length = fs.length ∧ ∀ p, H1 p = none → is.length = vs.length ∧ D.nx ((is.zip vs).foldl (fun σ p => σ.set p.1 (some p.2)) σ) (upd H1 p (.tup vs)) := by
  obtain ⟨F, e, As, s, h⟩ := h
  refine ⟨F, e, As, s, PostS.later (C := fun _ => False) s (.refl fun b z => z.elim (fun z => z) False.elim) h fun rs e1 hm F1 H1 As1 B1 xs s1 r1 n1 m1 d1 h1 => ?_⟩
  refine ⟨by rw [r1.length]; exact args_len hm, fun p hp' => ?_⟩
  obtain ⟨os, e3, F3, As3, Bs, h3, s3, r3, b3, n3, m3, d3⟩ := PostS.holds h1 s1 r1 n1 m1
  have x : ExtH H1 (upd H1 p (.tup xs)) := ExtH.upd hp'
  exact PostS.sets h3 (s3.ext x) PinsEq.refl (r3.stay x.keep fun b o _ q => x b o q) n3 m3 hp ((d1.trans d3).trans (x.dl fun b z => .inl z))
theorem js_parT {is : List Nat} {x1 k2 : Nat} {tp tp2 : Pos} {ns : List Expr} (hc : X.calm = true) (ha : PA X es (tA g W (args fs))) (hg : PGs X ns (tNs is)) (hl : fs.length ≤ lnX := by decide) (hil : is.length = fs.length := by rfl) (hp : ∀ i ∈ is, pins i = false := by decide)
    (hn : (assignEach ns X.env).length = is.length := by rfl) (hst : (assignEach ns X.env).findIdx? (·.1) = none := by rfl)
    (hs : swapsWithSole [.Tuple ns x1 tp] (.Tuple es k2 tp2) pos.line X.env = (Pure.pure false : Sem _) := by rfl) (hw : swappedStores [.Tuple ns x1 tp] (.Tuple es k2 tp2) X.env = (Pure.pure none : Sem _) := by rfl)
    (h1 : (assignEach [.Tuple ns x1 tp] X.env).map (·.2) = [assign (.Tuple ns x1 tp) X.env] := by rfl) : PS X (.Assign [.Tuple ns x1 tp] (.Tuple es k2 tp2) pos) (tS g W pins (parS is fs)) := by
  refine ps_imp (ps_asg (pe_tup ha) (pg_tup hc hg hn hst) hs hw h1) fun D σ H h => ?_
  have h1 := tS_parT hp h
  obtain ⟨F, e, As, s, h1⟩ := h1
  refine ⟨F, e, As, s, ?_⟩
  cases q : args fs e with
  | bad => rw [q] at h1; exact h1.elim
  | exc x0 e1 => rw [q] at h1; exact h1
  | ok rs e1 =>
    rw [q] at h1
    intro F2 H2 As2 B vs s2 r2 n m d
    obtain ⟨hl2, h2⟩ := h1 F2 H2 As2 B vs s2 r2 n m d
    refine ⟨by rw [hl2, sizeLine_eq]; exact hl, fun p hp => ?_⟩
    obtain ⟨h3, h4⟩ := h2 p hp
    exact ⟨p, vs, rfl, SqT.of upd_same, h3.symm, h3, h4⟩
end
end Mv
end
/-! file MvY -/
section
set_option linter.all false
set_option autoImplicit false
set_option maxRecDepth 100000
/-! Mv, part Y: methods that read, chains of three. -/
namespace Mv
open PySem PySem.Spec PyProof.Rows L2
section
variable {g : Gi} {W : WX} {pins : Nat → Bool} {F F1 F2 : Addr → Prop} {H H1 H2 : Hp} {σ σ1 : L2.St} {e e1 e2 : Env} {As As1 As2 : Nat → Addr → Prop} {B B1 B2 C : Addr → Prop} {X : Cx} {D : Ends}
variable {a b c d : Expr} {pos apos : Pos} {fo fa fb fc fd : SE RV} {fs : List (SE RV)} {es : List Expr}

/-! ### o.m(..) -/
def opM (ty : PV → Bool) (op : PV → List PV → Option OV) (fo : SE RV) (fs : List (SE RV)) : SE RV := bnd fo fun r => bnd (vw r) fun p0 => if ty p0 then bnd (args fs) fun rs => bnd (vw r) fun p => bnd (vws rs) fun ps => bnd (ofO (op p ps)) fun o => ret (.v o) else badX
def SMV (g : Gi) (r : V → List V → Hp → VK → Prop) (op : PV → List PV → Option OV) : Prop := ∀ F H x p xs ps o Q, RepV g F H x p → RepVs g F H xs ps → op p ps = some o → Fin g F H o Q → r x xs H Q
theorem tE_opM {ty : PV → Bool} {op : PV → List PV → Option OV} {r : V → List V → Hp → VK → Prop} (hs : SMV g r op) {Q : VK} (h : tE g W (opM ty op fo fs) σ H Q) :
    tE g W fo σ H fun x H1 => (∃ F p0, RepV g F H1 x p0 ∧ ty p0 = true) ∧ tA g W (args fs) σ H1 fun xs H2 => r x xs H2 Q := by
  refine tE_later h fun F As ra e1 F1 H1 As1 B1 x s1 r1 n1 m1 d1 h1 => ?_
  have ap := r1.apart n1 m1
  obtain ⟨p0, hp0, h1⟩ := h1.vw
  split at h1
  case isFalse => exact h1.elim
  rename_i hty
  refine ⟨⟨F1, p0, view_rep r1 s1 hp0, hty⟩, F1, e1, As1, s1, Post.later (C := B1) s1 d1 h1 fun rs e2 _ F2 H2 As2 B2 xs s2 r2 n2 m2 d2 h2 => ?_⟩
  have r12 : RepR g σ F2 H2 x ra B1 := r1.stay (d2.toKeep s1.nfA) fun b o c q => ap.same d2 c q
  obtain ⟨p, hp, h2⟩ := h2.vw
  obtain ⟨ps, rp, h2⟩ := h2.vws s2 r2
  obtain ⟨o, ho, h2⟩ := h2.ofO
  have dd := d1.trans (d2.frame (B := B1))
  exact hs F2 H2 x p xs ps o Q (view_rep r12 s2 hp) rp ho fun v H' B x' r' n' => h2.fin (C := fun b => B2 b ∨ B1 b) s2 (dd.less fun b z => by
    rcases z with z | z | z
    · exact .inl (.inl z)
    · exact .inl (.inr z)
    · exact .inr z) x' r' n'
def isLst : PV → Bool
  | .lst _ => true
  | _ => false
def isDic : PV → Bool
  | .dic _ => true
  | _ => false
theorem je_lsM {id : String} {name : Str} {op : PV → List PV → Option OV} {r : V → List V → Hp → VK → Prop} (pa : PlainAttrs "list") (slot : Slot "list" name id) (hty : typeOf (.builtin id) = (Pure.pure (Value.type "method_descriptor") : Sem Value)) (hm : MtR X id r) (hs : SMV g r op)
    (ho : PE X b (tE g W fo)) (ha : PA X (a :: es) (tA g W (args fs)))
    (hbase : attributeBase b name X.env (eval b X.env) = eval b X.env := by rfl)
    (hfew : ((backTo pos (starEach (a :: es) X.env)).all (fun x => !x.1) && (backToKw pos (keywordEach [] X.env)).all (fun x => x.1.isSome)
      && decide ((a :: es).length + ([] : List Keyword).length + (if ([] : List Keyword).isEmpty then 0 else 1) < 30)) = true := by rfl)
    (hline : (apos.endLine == pos.line) = true := by rfl) (hst : starEach (a :: es) X.env = (false, eval a X.env) :: starEach es X.env := by rfl) (hplain : (backTo pos (starEach es X.env)).any (·.1) = false := by rfl) :
    PE X (.Call (.Attribute b name apos) (a :: es) [] pos) (tE g W (opM isLst op fo fs)) :=
  pe_imp (pe_bm (T := "list") pa slot hty hm ho ha hbase hfew hline hst hplain) fun σ H Q h => tE_mono (tE_opM hs h) fun x H1 ⟨⟨F, p0, rv, ht⟩, q⟩ => by
    cases p0 with
    | lst xs =>
      obtain ⟨a, vs, rfl, h1, _⟩ := rv.lst
      exact ⟨.inl ⟨rfl, vs, .inl h1⟩, q⟩
    | _ => cases ht
/-- l.index(x) -/
def idxP (p : PV) : List PV → Nat → Option Nat
  | [], _ => none
  | z :: zs, k => if peq z p then some k else idxP p zs (k + 1)
def indexO : PV → List PV → Option OV
  | .lst xs, [p] => if okD 64 p && xs.all (okD 63) then (idxP p xs 0).map fun (k : Nat) => ovI (k : Int) else none
  | _, _ => none
theorem idxP_at {p : PV} (hp : Mv.pure p = true) : ∀ {xs : List PV} {k n : Nat}, Mv.pure.pures xs = true → idxP p xs k = some n → ∃ j, n = k + j ∧ ∃ z, (toD.toDs xs)[j]? = some z ∧ PyData.eqv z (toD p) = true ∧ ∀ (m : Nat) (z' : PyData), m < j → (toD.toDs xs)[m]? = some z' → PyData.eqv z' (toD p) = false
  | [], _, _, _, h => by cases h
  | x :: xs, k, n, hx, h => by
    have hx' : (Mv.pure x && Mv.pure.pures xs) = true := hx
    rw [Bool.and_eq_true] at hx'
    unfold idxP at h
    have e := peq_eqv x p hx'.1 hp
    split at h
    · rename_i q
      cases h
      exact ⟨0, rfl, toD x, rfl, by rw [e]; exact q, fun m _ hm => absurd hm (Nat.not_lt_zero _)⟩
    · rename_i q
      obtain ⟨j, rfl, z, h1, h2, h3⟩ := idxP_at hp hx'.2 h
      refine ⟨j + 1, by omega, z, h1, h2, fun m z' hm hz => ?_⟩
      cases m with
      | zero =>
        have ez : z' = toD x := by
          have hz : some (toD x) = some z' := hz
          exact (Option.some.inj hz).symm
        rw [ez, e]
        exact Bool.not_eq_true _ ▸ q
      | succ m => exact h3 m z' (by omega) hz
theorem sm_index (hK : X.K = g.K) : SMV g (rIndexD X.K) indexO := fun F H x p xs ps o Q hx hy e f => by
  unfold indexO at e
  split at e
  · rename_i zs q
    split at e
    · rename_i hc
      rw [Bool.and_eq_true] at hc
      obtain ⟨k, hk, rfl⟩ := Option.map_eq_some_iff.mp e
      obtain ⟨y, rfl, ry⟩ := hy.one
      have hq := okD_pure _ _ hc.1
      have hz := okD_pure 64 (.lst zs) hc.2
      obtain ⟨j, rfl, z, h1, h2, h3⟩ := idxP_at hq hz hk
      obtain ⟨a, vs, rfl, _, _⟩ := hx.lst
      rw [Nat.zero_add] at f
      exact ⟨a, y, toD q, toD.toDs zs, j, z, rfl, rfl, by rw [hK]; exact hx.dp hz, by rw [hK]; exact ry.dp hq, okD_shaped (p := .lst zs) hc.2, okD_shaped hc.1, h1, h2, h3, f.val (.int _)⟩
    · cases e
  · cases e

/-! ### d.get(k, x) -/
def notLD : PV → Bool
  | .lst _ => false
  | .dic _ => false
  | _ => true
theorem RepV.pp {v : V} {p : PV} (h : RepV g F H v p) (k : notLD p = true) : RepP g F H v p := by
  obtain ⟨o, B, e, r⟩ := h
  cases o with
  | val p => cases e; exact r.1
  | ls xs => cases e; cases k
  | dc xs => cases e; cases k
  | ll xs => cases e
def dgetO : PV → List PV → Option OV
  | .dic kvs, [k, z] => if keyOk k kvs && notLD z then some (.val ((lookP kvs k).getD z)) else none
  | .dic kvs, [k] => if keyOk k kvs then some (.val ((lookP kvs k).getD .non)) else none
  | _, _ => none
theorem dictIs {pn : List (Addr × Obj)} {s : Shared} {es : List (Int × V × V)} {u : Value} (I : Inv X pn σ H s) {y : Addr} (h : H y = some (DictO y es)) (hu : RelV (.ref y) u) : s.TypeIs u "dict" ∧ ∀ a, u = .ref a → ∃ ob, s.heap.get? a = some ob ∧ ob.dict = none := by
  obtain rfl : u = Value.ref y := hu
  obtain ⟨⟨hd, o, arr, ep, ho, ex, hdat, pr⟩, _, _⟩ := I.hok y _ h
  exact ⟨⟨o, ho, ex.1⟩, fun a e => by cases e; exact ⟨o, ho, ex.2.1⟩⟩
def tyD (x : V) (H : Hp) : Prop := ∃ y es, x = .ref y ∧ H y = some (DictO y es)
theorem pe_bmD {name : Str} {id : String} {r : V → List V → Hp → VK → Prop} {o : Expr} {to : TE} {t : TA} {e : Expr} {es : List Expr} (pa : PlainAttrs "dict") (slot : Slot "dict" name id) (hty : typeOf (.builtin id) = (Pure.pure (Value.type "method_descriptor") : Sem Value)) (hm : MtR X id r) (ho : PE X o to) (ha : PA X (e :: es) t)
    (hbase : attributeBase o name X.env (eval o X.env) = eval o X.env := by rfl)
    (hfew : ((backTo pos (starEach (e :: es) X.env)).all (fun x => !x.1) && (backToKw pos (keywordEach [] X.env)).all (fun x => x.1.isSome)
      && decide ((e :: es).length + ([] : List Keyword).length + (if ([] : List Keyword).isEmpty then 0 else 1) < 30)) = true := by rfl)
    (hline : (apos.endLine == pos.line) = true := by rfl) (hs : starEach (e :: es) X.env = (false, eval e X.env) :: starEach es X.env := by rfl) (hplain : (backTo pos (starEach es X.env)).any (·.1) = false := by rfl) :
    PE X (.Call (.Attribute o name apos) (e :: es) [] pos) (fun σ H Q => to σ H fun x H1 => tyD x H1 ∧ t σ H1 fun xs H2 => r x xs H2 Q) := by
  refine ⟨fun pins s σ H Q I h => ?_⟩
  refine wpAny_Call_method_late hbase hfew hline rfl (thn (ho.run pins s σ H _ I h) fun v s1 ⟨x, H1, I1, r1, ⟨y, es', ex, ty⟩, q1⟩ => ?_)
  subst ex
  obtain ⟨h1, h2⟩ := dictIs I1 ty r1
  refine ⟨"dict", id, pa, slot, hty, h1, h2, ?_⟩
  have hA := ha.run pos pins s1 σ H1 _ I1 q1
  rw [hs] at hA ⊢
  refine Calls.callWith_builtin (by show (false || (backTo pos (starEach es X.env)).any (·.1)) = false; rw [hplain] <;> rfl) (Calls.evalArgs_plain ?_)
  exact thn hA fun us s2 ⟨vs, H2, I2, r2, q2⟩ => hm pins s2 σ H2 (.ref y) vs v us Q I2 r1 r2 q2
def rDget (g : Gi) : V → List V → Hp → VK → Prop := fun x xs H Q => ∃ F d es kvs k y, DcAt g F H x y d es kvs k ∧ ((∃ z, xs = [y, z] ∧ (lookP kvs k = none → Q z H)) ∨ (xs = [y] ∧ (lookP kvs k = none → Q .non H))) ∧ ∀ q v, lookP kvs k = some q → RepP g F H v q → Q v H
theorem mt_dget (hu : X.A.units + 9 < cLine) (hK : X.K = g.K) (hW : X.w = g.w) : MtR X "dict.get" (rDget g) := by
  intro pn s σ H x xs v us Q I rx rxs h
  obtain ⟨F, d, es, kvs, k, y, c, hx, fin⟩ := h
  rw [c.ref] at rx
  obtain rfl : v = Value.ref d := rx
  have kA := keyK_A (keyOk_K c.kok)
  rcases hx with ⟨z, rfl, hz⟩ | ⟨rfl, hz⟩
  · obtain ⟨u, u2, rfl, ry, rz⟩ := Vals.two rxs
    refine c.cases I hK hW ry (fun _ z => z) (fun a xs eu hk dd en hd ht ea => ?_) fun xs hk dd en hd kn => ?_
    · have l := EntH.look kA en c.rep c.keysA
      rw [eu]
      refine call_meetsIn PySem.F.slot_dict_get dd.typeIs PySem.F.entry_dict_get (PySem.F.args_dict_get_3 _ _ _) (meetsH_dict_get_default (nestedKind X.prog X.w) d a hd u2) ⟨show X.A.in1.units + 8 < cLine by show X.A.units + 1 + 8 < cLine; omega, nk k, xs, hk, dd, ?_⟩
      cases hq : lookP kvs k with
      | some q =>
        rw [hq] at l
        obtain ⟨a', u', vv, e1, e2, e3⟩ := l
        rw [e1]
        exact ⟨vv, H, I.tok _, e2, fin q vv hq e3⟩
      | none =>
        rw [hq] at l
        rw [l]
        exact ⟨z, H, I.tok _, rz, hz hq⟩
    · have l := EntM.look kn en c.rep (c.keysN kn)
      refine call_meetsIn PySem.F.slot_dict_get (dcTy dd) PySem.F.entry_dict_get (PySem.F.args_dict_get_3 _ _ _) (meets_dict_get_default (mixKind X.prog X.w) d hk hd u2) ⟨_, dd.mapOf, ?_⟩
      cases hq : lookP kvs k with
      | some q =>
        rw [hq] at l
        obtain ⟨u', vv, e1, e2, e3⟩ := l
        rw [e1]
        exact ⟨vv, H, I.tok _, e2, fin q vv hq e3⟩
      | none =>
        rw [hq] at l
        rw [l]
        exact ⟨z, H, I.tok _, rz, hz hq⟩
  · obtain ⟨u, rfl, ry⟩ := Vals.one rxs
    refine c.cases I hK hW ry (fun _ z => z) (fun a xs eu hk dd en hd ht ea => ?_) fun xs hk dd en hd kn => ?_
    · have l := EntH.look kA en c.rep c.keysA
      rw [eu]
      refine call_meetsIn PySem.F.slot_dict_get dd.typeIs PySem.F.entry_dict_get (PySem.F.args_dict_get_2 _ _) (meetsH_dict_get (nestedKind X.prog X.w) d a hd) ⟨show X.A.in1.units + 8 < cLine by show X.A.units + 1 + 8 < cLine; omega, nk k, xs, hk, dd, ?_⟩
      cases hq : lookP kvs k with
      | some q =>
        rw [hq] at l
        obtain ⟨a', u', vv, e1, e2, e3⟩ := l
        rw [e1]
        exact ⟨vv, H, I.tok _, e2, fin q vv hq e3⟩
      | none =>
        rw [hq] at l
        rw [l]
        exact ⟨.non, H, I.tok _, rfl, hz hq⟩
    · have l := EntM.look kn en c.rep (c.keysN kn)
      refine call_meetsIn PySem.F.slot_dict_get (dcTy dd) PySem.F.entry_dict_get (PySem.F.args_dict_get_2 _ _) (meets_dict_get (mixKind X.prog X.w) d hk hd) ⟨_, dd.mapOf, ?_⟩
      cases hq : lookP kvs k with
      | some q =>
        rw [hq] at l
        obtain ⟨u', vv, e1, e2, e3⟩ := l
        rw [e1]
        exact ⟨vv, H, I.tok _, e2, fin q vv hq e3⟩
      | none =>
        rw [hq] at l
        rw [l]
        exact ⟨.non, H, I.tok _, rfl, hz hq⟩
theorem sm_dget : SMV g (rDget g) dgetO := fun F H x p xs ps o Q hx hy e f => by
  unfold dgetO at e
  split at e
  · rename_i kvs k z
    split at e
    · rename_i hc
      rw [Bool.and_eq_true] at hc
      cases e
      obtain ⟨d, es, rfl, h1, r1, n⟩ := hx.dic
      obtain ⟨y, w, rfl, ry, rz⟩ := hy.two
      refine ⟨F, d, es, kvs, k, y, ⟨rfl, h1, r1, n, ry.key (keyOk_K hc.1), hc.1⟩, .inl ⟨w, rfl, fun hn => ?_⟩, fun q v hq rv => ?_⟩
      · rw [hn] at f; exact f.val (rz.pp hc.2)
      · rw [hq] at f; exact f.val rv
    · cases e
  · rename_i kvs k
    split at e
    · rename_i hc
      cases e
      obtain ⟨d, es, rfl, h1, r1, n⟩ := hx.dic
      obtain ⟨y, rfl, ry⟩ := hy.one
      refine ⟨F, d, es, kvs, k, y, ⟨rfl, h1, r1, n, ry.key (keyOk_K hc), hc⟩, .inr ⟨rfl, fun hn => ?_⟩, fun q v hq rv => ?_⟩
      · rw [hn] at f; exact f.val .non
      · rw [hq] at f; exact f.val rv
    · cases e
  · cases e
theorem je_dcM {id : String} {name : Str} {op : PV → List PV → Option OV} {r : V → List V → Hp → VK → Prop} (pa : PlainAttrs "dict") (slot : Slot "dict" name id) (hty : typeOf (.builtin id) = (Pure.pure (Value.type "method_descriptor") : Sem Value)) (hm : MtR X id r) (hs : SMV g r op)
    (ho : PE X b (tE g W fo)) (ha : PA X (a :: es) (tA g W (args fs)))
    (hbase : attributeBase b name X.env (eval b X.env) = eval b X.env := by rfl)
    (hfew : ((backTo pos (starEach (a :: es) X.env)).all (fun x => !x.1) && (backToKw pos (keywordEach [] X.env)).all (fun x => x.1.isSome)
      && decide ((a :: es).length + ([] : List Keyword).length + (if ([] : List Keyword).isEmpty then 0 else 1) < 30)) = true := by rfl)
    (hline : (apos.endLine == pos.line) = true := by rfl) (hst : starEach (a :: es) X.env = (false, eval a X.env) :: starEach es X.env := by rfl) (hplain : (backTo pos (starEach es X.env)).any (·.1) = false := by rfl) :
    PE X (.Call (.Attribute b name apos) (a :: es) [] pos) (tE g W (opM isDic op fo fs)) :=
  pe_imp (pe_bmD pa slot hty hm ho ha hbase hfew hline hst hplain) fun σ H Q h => tE_mono (tE_opM hs h) fun x H1 ⟨⟨F, p0, rv, ht⟩, q⟩ => by
    cases p0 with
    | dic kvs =>
      obtain ⟨d, es, rfl, h1, _⟩ := rv.dic
      exact ⟨⟨d, es, rfl, h1⟩, q⟩
    | _ => cases ht

/-! ### a op b op' c op'' d -/
def tChain3 (r r' r'' : R2) (ta tb tc td : TE) : TE := fun σ H Q => ta σ H fun x H1 => tb σ H1 fun y H2 => r x y H2 fun z H3 => ∃ k, z = .bl k ∧
  (if k = true then tc σ H3 fun w H4 => r' y w H4 fun z' H5 => ∃ k', z' = .bl k' ∧ (if k' = true then td σ H5 fun u H6 => r'' w u H6 Q else Q (.bl false) H5) else Q (.bl false) H3)
theorem pe_chain3 {op op' op'' : CmpOp} {r r' r'' : R2} {ta tb tc td : TE} (ho : OpR X (compareOp op) r) (ho' : OpR X (compareOp op') r') (ho'' : OpR X (compareOp op'') r'') (ha : PE X a ta) (hb : PE X b tb) (hc : PE X c tc) (hd : PE X d td)
    (hm : lastMarks [op, op', op''] [b, c, d] = false := by with_unfolding_all rfl) : PE X (.Compare a [op, op', op''] [b, c, d] pos) (tChain3 r r' r'' ta tb tc td) := by
  refine ⟨fun pins s σ H Q I h => ?_⟩
  refine Compare_chain (thn (ha.run pins s σ H _ I h) fun v s1 ⟨x, H1, I1, r1, q1⟩ => chain_link (thn (hb.run pins s1 σ H1 _ I1 q1) fun u s2 ⟨y, H2, I2, r2, q2⟩ =>
    thn (ho pins s2 σ H2 x y v u _ I2 r1 r2 q2) fun d s3 ⟨z, H3, I3, r3, k, e, q3⟩ => ?_)) hm
  subst e
  cases r3
  refine wpAny_truthy_bool ?_
  cases k with
  | false => exact ite_ff ⟨.bl false, H3, I3, rfl, q3⟩
  | true =>
    refine ite_tt (chain_link (thn (hc.run pins s3 σ H3 _ I3 q3) fun w' s4 ⟨z', H4, I4, r4, q4⟩ => thn (ho' pins s4 σ H4 y z' u w' _ I4 r2 r4 q4) fun d' s5 ⟨z2, H5, I5, r5, k', e', q5⟩ => ?_))
    subst e'
    cases r5
    refine wpAny_truthy_bool ?_
    cases k' with
    | false => exact ite_ff ⟨.bl false, H5, I5, rfl, q5⟩
    | true => exact ite_tt (chain_last (thn (hd.run pins s5 σ H5 _ I5 q5) fun w2 s6 ⟨z3, H6, I6, r6, q6⟩ => ho'' pins s6 σ H6 z' z3 w' w2 Q I6 r4 r6 q6))
def chE3 (op op' op'' : PV → PV → Option Bool) (f g h k : SE RV) : SE RV := bnd f fun r => bnd g fun q => bnd (vw r) fun x => bnd (vw q) fun y => bnd (ofO (op x y)) fun b =>
  if b then bnd h fun t => bnd (vw q) fun y => bnd (vw t) fun z => bnd (ofO (op' y z)) fun b =>
    if b then bnd k fun s => bnd (vw t) fun z => bnd (vw s) fun w => bnd (ofO (op'' z w)) fun b => ret (.v (.val (.bl b))) else ret (.v (.val (.bl false)))
  else ret (.v (.val (.bl false)))
theorem tE_ch3 {r r' r'' : R2} {op op' op'' : PV → PV → Option Bool} (hs : S2 g r fun x y => (op x y).map fun b => .val (.bl b)) (hs' : S2 g r' fun x y => (op' x y).map fun b => .val (.bl b)) (hs'' : S2 g r'' fun x y => (op'' x y).map fun b => .val (.bl b)) {Q : VK} (h : tE g W (chE3 op op' op'' fa fb fc fd) σ H Q) :
    tChain3 r r' r'' (tE g W fa) (tE g W fb) (tE g W fc) (tE g W fd) σ H Q := by
  refine tE_later h fun F As ra e1 F1 H1 As1 B1 x s1 r1 n1 m1 d1 h1 => ?_
  have ap := r1.apart n1 m1
  refine ⟨F1, e1, As1, s1, Post.later (C := B1) s1 d1 h1 fun rb e2 _ F2 H2 As2 B2 y s2 r2 n2 m2 d2 h2 => ?_⟩
  have r1' : RepR g σ F2 H2 x ra B1 := r1.stay (d2.toKeep s1.nfA) fun b o c q => ap.same d2 c q
  obtain ⟨p, hp, h2⟩ := h2.vw
  obtain ⟨q, hq, h2⟩ := h2.vw
  obtain ⟨k, ho, h2⟩ := h2.ofO
  have dd := d1.trans (d2.frame (B := B1))
  refine hs F2 H2 x y p q (.val (.bl k)) _ (view_rep r1' s2 hp) (view_rep r2 s2 hq) (by dsimp only; rw [ho]; rfl) fun v H3 B3 x3 r3 n3 => ?_
  have ev : v = .bl k := by
    have := r3.1
    cases this; rfl
  refine ⟨k, ev, ?_⟩
  have s3 := s2.ext x3
  have r2' : RepR g σ F2 H3 y rb B2 := r2.stay x3.keep fun b o c q => x3 _ _ q
  have d3 : Dl F (Ow As) H F2 (fun b => Ow As2 b ∨ B2 b) H3 := (dd.trans (x3.dl (A' := fun b => Ow As2 b ∨ B2 b) fun b z => by
    rcases z with z | z
    · exact .inl (.inl (.inl z))
    · exact .inl (.inl (.inr z))))
  cases k with
  | false =>
    rw [if_neg Bool.false_ne_true]
    exact h2.fin0 s3 d3 (.bl false)
  | true =>
    rw [if_pos rfl]
    have ap3 := (r2'.apart (As := As2) n2 m2)
    refine ⟨F2, e2, As2, s3, Post.later (C := B2) s3 d3 h2 fun rc e4 _ F4 H4 As4 B4 z s4 r4 n4 m4 d4 h4 => ?_⟩
    have r2'' : RepR g σ F4 H4 y rb B2 := r2'.stay (d4.toKeep s3.nfA) fun b o c q => ap3.same d4 c q
    obtain ⟨q', hq', h4⟩ := h4.vw
    obtain ⟨t, ht, h4⟩ := h4.vw
    obtain ⟨k', ho', h4⟩ := h4.ofO
    have d5 := d3.trans (d4.frame (B := B2))
    refine hs' F4 H4 y z q' t (.val (.bl k')) _ (view_rep r2'' s4 hq') (view_rep r4 s4 ht) (by dsimp only; rw [ho']; rfl) fun v5 H5 B5 x5 r5 n5 => ?_
    have ev5 : v5 = .bl k' := by
      have := r5.1
      cases this; rfl
    refine ⟨k', ev5, ?_⟩
    have s5 := s4.ext x5
    have r4' : RepR g σ F4 H5 z rc B4 := r4.stay x5.keep fun b o c q => x5 _ _ q
    have d6 : Dl F (Ow As) H F4 (fun b => Ow As4 b ∨ B4 b) H5 := ((d5.less (B := fun b => Ow As4 b ∨ B4 b) fun b z => by
      rcases z with z | z
      · exact .inl (.inl z)
      · exact .inl (.inr z)).trans (x5.dl (A' := fun b => Ow As4 b ∨ B4 b) fun b z => .inl z))
    cases k' with
    | false =>
      rw [if_neg Bool.false_ne_true]
      exact h4.fin0 s5 d6 (.bl false)
    | true =>
      rw [if_pos rfl]
      have ap5 := (r4'.apart (As := As4) n4 m4)
      refine ⟨F4, e4, As4, s5, Post.later (C := B4) s5 d6 h4 fun rd e6 _ F6 H6 As6 B6 u s6 r6 n6 m6 d7 h6 => ?_⟩
      have r4'' : RepR g σ F6 H6 z rc B4 := r4'.stay (d7.toKeep s5.nfA) fun b o c q => ap5.same d7 c q
      obtain ⟨t', ht', h6⟩ := h6.vw
      obtain ⟨w, hw, h6⟩ := h6.vw
      obtain ⟨k'', ho'', h6⟩ := h6.ofO
      have d8 := d6.trans (d7.frame (B := B4))
      exact hs'' F6 H6 z u t' w (.val (.bl k'')) Q (view_rep r4'' s6 ht') (view_rep r6 s6 hw) (by dsimp only; rw [ho'']; rfl) fun v H7 B7 x7 r7 n7 => h6.fin (C := fun b => B6 b ∨ B4 b) s6 (d8.less fun b z => by
        rcases z with z | z | z
        · exact .inl (.inl z)
        · exact .inl (.inr z)
        · exact .inr z) x7 r7 n7
theorem je_ch3 {o o' o'' : CmpOp} {r r' r'' : R2} {op op' op'' : PV → PV → Option Bool} (ho : OpR X (compareOp o) r) (ho' : OpR X (compareOp o') r') (ho'' : OpR X (compareOp o'') r'') (hs : S2 g r fun x y => (op x y).map fun b => .val (.bl b)) (hs' : S2 g r' fun x y => (op' x y).map fun b => .val (.bl b)) (hs'' : S2 g r'' fun x y => (op'' x y).map fun b => .val (.bl b))
    (ha : PE X a (tE g W fa)) (hb : PE X b (tE g W fb)) (hc : PE X c (tE g W fc)) (hd : PE X d (tE g W fd)) (hm : lastMarks [o, o', o''] [b, c, d] = false := by with_unfolding_all rfl) : PE X (.Compare a [o, o', o''] [b, c, d] pos) (tE g W (chE3 op op' op'' fa fb fc fd)) :=
  pe_imp (pe_chain3 ho ho' ho'' ha hb hc hd hm) fun _ _ _ h => tE_ch3 hs hs' hs'' h
end
end Mv
end
/-! file MvZ -/
section
set_option linter.all false
set_option autoImplicit false
set_option maxRecDepth 100000
/-! Mv, part Z: what a law's own text uses. -/
namespace Mv
open PySem PySem.Spec PyProof.Rows L2
section
variable {g : Gi} {W : WX} {X : Cx} {x : Str} {pos : Pos} {k j : Nat}
theorem gint {i : Int} (h : ∃ t, X.mg x = some (.int i t)) (hg : Gl X x := by rfl) (hd : (x == ("__debug__" : Str)) = false := by decide) : PE X (.Name x pos) (tE g W (cst (.int i))) :=
  let ⟨t, e⟩ := h; je_c (pe_glob (v := .int i) hg e ⟨t, rfl⟩ hd) fun _ _ => .int i
theorem gstr {i : Str} (h : ∃ t, X.mg x = some (.str i t)) (hg : Gl X x := by rfl) (hd : (x == ("__debug__" : Str)) = false := by decide) : PE X (.Name x pos) (tE g W (cst (.str i))) :=
  let ⟨t, e⟩ := h; je_c (pe_glob (v := .str i) hg e ⟨t, rfl⟩ hd) fun _ _ => .str i
theorem hu_of (r : Room k X.A) : X.A.units + 65 < cLine := by have := r.un; omega
theorem hu9 (h : X.A.units + 65 < cLine) : X.A.units + 9 < cLine := by omega
theorem hu64 (h : X.A.units + 65 < cLine) : X.A.units + 64 < cLine := by omega
theorem all1 {i : Nat} : (∀ k ∈ [i], True) := fun _ _ => trivial
end
/-- keywords alone: the values in the parameters' order -/
theorem _root_.L2.FunD.bindsK {K : PySem.W.Frag} {x qual : Str} {params : Arguments} {body : List Stmt} {scope : Scope} {f : Addr} {fd : FuncData} {ps : List Str} (F : FunD K x qual params body scope [] [] f fd)
    (h : ∀ (kV doc pm : Value) (an : Option Addr) (cdv ct : Value) (us : List Value), us.length = ps.length → bindArgs (PySem.W.fnOf x qual params body scope .none kV doc pm an cdv ct) ⟨[], ps.zip us⟩ = (Pure.pure (ps.zip us) : Sem _)) (s : Shared) (us : List Value) (_ : K.In s.heap) (hl : us.length = ps.length) : BindsTo s fd ⟨[], ps.zip us⟩ (ps.zip us) := by
  obtain ⟨oc, od, dV, kV, doc, pm, an, cdv, ct, osl, rfl, lk, hcd, hD, hK⟩ := F.ex
  rcases hD with ⟨_, rfl⟩ | ⟨e, _⟩
  · exact .of_eq (h kV doc pm an cdv ct us hl)
  · exact absurd rfl e
/-- what a law's defs lean on -/
def giOf (K : PySem.W.Frag) (w : World) (fns : List Str) : Gi := ⟨K, w, fun n => (fns[n]?).map (He.ga K), fun x => some (He.ga K x)⟩
structure Says (fa : List He.Fa) (fn : List He.DefD) (K : PySem.W.Frag) (mg : Str → Option Value) : Prop where
  ex : ∃ h : Heap, K.In h ∧ h.Ns mainGlobals mg
  c : He.SaysD fa fn K
section
variable {fa : List He.Fa} {fn : List He.DefD} {K : PySem.W.Frag} {mg : Str → Option Value} {x : Str}
theorem Says.glo (S : Says fa fn K mg) (i : Nat) (h : fa[i]? = some (.glo x) := by rfl) : mg x = some (.ref (He.ga K x)) := let ⟨_, X, G⟩ := S.ex; He.glo_ok X G (S.c.fact i h)
theorem Says.free (S : Says fa fn K mg) (i : Nat) (h : fa[i]? = some (.free x) := by rfl) : mg x = none := let ⟨_, X, G⟩ := S.ex; He.free_ok X G (S.c.fact i h)
theorem Says.int (S : Says fa fn K mg) (i : Nat) {v : Int} (h : fa[i]? = some (.int x v) := by rfl) : ∃ t, mg x = some (.int v t) := let ⟨_, X, G⟩ := S.ex; He.int_ok X G (S.c.fact i h)
theorem Says.str (S : Says fa fn K mg) (i : Nat) {v : Str} (h : fa[i]? = some (.str x v) := by rfl) : ∃ t, mg x = some (.str v t) := let ⟨_, X, G⟩ := S.ex; He.str_ok X G (S.c.fact i h)
theorem Says.exc (S : Says fa fn K mg) (i : Nat) (h : fa[i]? = some (.exc x) := by rfl) : PySem.W.excIn K (He.ga K x) He.veBase "ValueError.__new__" = true ∧ PySem.W.keepIn K (.ref (He.ga K x)) = true ∧ PySem.W.subIn K (.ref (He.ga K x)) (.type "BaseException") = some true ∧
    PySem.W.typeIn K (.ref (He.ga K x)) = some (.type "type") := He.exc_ok (S.c.fact i h)
/-- raise X(), X a ValueError of one's own -/
theorem js_raiseV {X : Cx} {g : Gi} {W : WX} {pins : Nat → Bool} {p pos pos' : Pos} (S : Says fa fn X.K X.mg) (tk : Takes X W) (i j : Nat) (hca : g.ca x = some (He.ga X.K x)) (h : fa[i]? = some (.glo x) := by rfl) (h' : fa[j]? = some (.exc x) := by rfl) (hc : X.calm = true := by rfl) (hg : Gl X x := by rfl)
    (hdb : (x == ("__debug__" : Str)) = false := by decide) : PS X (.Raise (some (.Call (.Name x p) [] [] pos)) none pos') (tS g W pins (raiseS x)) :=
  let ⟨h1, h2, h3, h4⟩ := S.exc j h'; js_raise hc tk PySem.F.excBase_ValueError h1 (S.glo i h) h2 (raises_own h3 h4) hca hg hdb
end
/-- nothing is said -/
theorem fn_bad {P : Program} {K : PySem.W.Frag} {mg : Str → Option Value} {base : Heap} {x qual : Str} {params : Arguments} {body : List Stmt} {scope : Scope} {N ps : List Str} {kws : List (Str × V)} {w : World} {g : Gi} {k : Nat} {f : Addr} {fd : FuncData}
    (Fd : FunD K x qual params body scope [] kws f fd) (S : FnScope N ps scope) : FnOk P w K mg base (L2.CX P w) (k + 1) f fd ps (spF g ps.length fun _ => .bad) :=
  Fd.ok S (fun vs H Q E h => h.1) fun cdv A outer s H vs Q E hr h => by
    obtain ⟨_, F, os, Bs, s0, h⟩ := h
    exact h.elim
/-- the law's own promise, from what its function says -/
theorem sp_law {g : Gi} {H : Hp} {a : Addr} {ns : List Int} {G : FN} (hO : L2.Only H) (hS : SqL g.K H a (ns.map V.int)) (h : ∃ e, G [.val (.scr ns)] = .ret (.val (.bl true)) e) : spF g 1 G [.ref a] H (fun v _ => v = .bl true) fun _ _ _ => False := by
  obtain ⟨e, h⟩ := h
  have hs : ScrAt g.K H a (ns.map V.int) := by
    rcases hS with (h | ⟨o, h⟩) | h
    · rcases hO a with n | ⟨o, xs, n⟩
      · rw [n] at h; cases h
      · rw [n] at h; cases h
    · exact .inl ⟨o, h⟩
    · exact .inr h
  refine ⟨rfl, fun _ => False, [.val (.scr ns)], fun _ _ => False, ⟨rfl, fun i o q => ?_, fun _ _ _ z => z, fun _ _ _ z => z.elim, fun _ _ z => z.elim, fun _ z => z.elim⟩, ?_⟩
  · cases i with
    | zero => cases q; exact ⟨_, rfl, .scr hs, fun _ z => z⟩
    | succ i => cases q
  · rw [h]
    intro F' H' Bs' B v s' r _ _ _
    have := r.1
    cases this; rfl
theorem walk_ofM {l : PySem.W.OpenLaw} {n k : Nat} {q : Program} {loose : List Str} {XP : (Str → Option Value) → Heap → Prop} {YP : World → Heap → Prop} {d : DefRec} {x : Str}
    (hn : l.most = some n) (hn2 : n ≤ sizeLine) (hdf : d.params.defaults = []) (hr : Room k callerA)
    (F : ∀ (w : World) (mg : Str → Option Value) (fa : Addr) (h : Heap), YP w h → h.Ns mainGlobals mg → mg d.name = some (.ref fa) →
      ∃ (K : PySem.W.Frag) (fd : FuncData) (sp : Sp), K.In h ∧ (∀ (s : Shared) (u : Value), BindsTo s fd ⟨[u], []⟩ [(x, u)]) ∧
        (∀ (H : Hp) (a : Addr) (ns : List Int), ns.length ≤ n → L2.Only H → SqL K H a (ns.map V.int) → sp [.ref a] H (fun v _ => v = .bl true) fun _ _ _ => False) ∧
        ∀ base : Heap, K.In base → base.Ns mainGlobals mg → FnOk l.prog w K mg base (L2.CX l.prog w) k fa fd [x] sp) :
    PySem.W.WalkO q loose XP YP l.row.toRowW d [] (fun f vs => PySem.call f vs) := by
  refine Att.attach_call hn hdf fun w s₀ s₁ mg mb fa o pm cd doc a vs ns G Y ho hd hcd hmg hobj hints hlen hg => ?_
  obtain ⟨K, fd, sp, KX, hb, hsp, hF⟩ := F w mg fa _ Y G.T.g hmg
  refine law_call KX G.T.g G.T.b G.T.builtins G.T.nolimit hg hobj hints (Nat.le_trans hlen hn2) hr hF hb (fun H hO hS => hsp H a ns hlen hO hS) fun H e s' h => ?_
  obtain ⟨_, _, _, _, _, _, _, _, _, _, _, _, z⟩ := h
  exact z
end Mv
end
/-! file Bx -/
section
set_option linter.all false
set_option autoImplicit false
set_option maxRecDepth 100000
set_option maxHeartbeats 0
set_option Elab.async false
/-! Bx: the functions that the laws share (printed by gen.py). -/
namespace Bx
open PySem PySem.Spec PyProof.Rows L2 Mv
def B_is_number : SS := retS (andE (op1 (isiP [.int]) (nm 0)) (notE (op1 (isiP [.bl]) (nm 0))))
def F_is_number : FN := mkF 1 [true] B_is_number
def B_is_long : SS := retS (andE (op1 (isiP [.tup]) (nm 0)) (op2 (bop eqB) (opN lenP [nm 0]) (nm 1)))
def F_is_long : FN := mkF 2 [true, true] B_is_long
def B_tupled (F : FN) : SS := retS (ifE (tst (op1 (isiP [.lst, .tup]) (nm 0))) (opN tupleP [compS (srcE (nm 0)) (gN 1) (ret true) (callF F [nm 1]) [1]]) (nm 0))
def F_tupled : Nat → FN
  | 0 => fun _ => .bad
  | k + 1 => mkF 2 [true] (B_tupled (F_tupled k))
def B_are_numbers : SS := retS (andE (op1 (isiP [.tup]) (nm 0)) (opN allP [compS (srcE (nm 0)) (gN 1) (ret true) (callF F_is_number [nm 1]) [1]]))
def F_are_numbers : FN := mkF 2 [true] B_are_numbers
def B_is_sign : SS := retS (andE (callF F_is_number [nm 0]) (op2 (bop inB) (nm 0) (tupD [cst (.int 1), op1 negP (cst (.int 1))])))
def F_is_sign : FN := mkF 1 [true] B_is_sign
def B_are_signs : SS := retS (andE (op1 (isiP [.tup]) (nm 0)) (opN allP [compS (srcE (nm 0)) (gN 1) (ret true) (callF F_is_sign [nm 1]) [1]]))
def F_are_signs : FN := mkF 2 [true] B_are_signs
def B_is_order_in : SS := retS (andE (callF F_are_numbers [nm 0]) (andE (op2 (bop geB) (opN lenP [nm 0]) (cst (.int 3))) (op2 (bop eqB) (opN sortedP [nm 0]) (opN (rgP false) [opN lenP [nm 0]]))))
def F_is_order_in : FN := mkF 1 [true] B_is_order_in
def B_is_place_in : SS := seqS (ifS (tOrS (tNotS (tst (callF F_is_long [nm 0, cst (.int 3)]))) (tOrS (tNotS (tst (callF F_is_order_in [op2 getP (nm 0) (cst (.int 0))]))) (tNotS (tst (callF F_are_signs [op2 getP (nm 0) (cst (.int 2))]))))) (retS (cst (.bl false))) (skipS)) (seqS (asgS 1 (opN lenP [op2 getP (nm 0) (cst (.int 0))])) (seqS (ifS (tOrS (tstB (op2 (bop neB) (opN lenP [op2 getP (nm 0) (cst (.int 2))]) (nm 1))) (tNotS (tst (callF F_is_long [op2 getP (nm 0) (cst (.int 1)), op2 subP (nm 1) (cst (.int 1))])))) (retS (cst (.bl false))) (skipS)) (retS (opN allP [compS (srcE (op2 getP (nm 0) (cst (.int 1)))) (gN 2) (ret true) (andE (callF F_are_numbers [nm 2]) (op2 (bop eqB) (opN lenP [nm 2]) (nm 1))) [2]]))))
def F_is_place_in : FN := mkF 3 [true] B_is_place_in
def B_is_step_in : SS := seqS (ifS (tOrS (tNotS (tst (op1 (isiP [.tup]) (nm 1)))) (tOrS (tstB (op2 (bop eqB) (nm 1) (tupD []))) (tNotS (tst (op1 (isiP [.str]) (op2 getP (nm 1) (cst (.int 0)))))))) (retS (cst (.bl false))) (skipS)) (seqS (ifS (tNotS (tst (callF F_are_numbers [slE (nm 1) (prtP (cst (.int 1))) (noP)]))) (retS (cst (.bl false))) (skipS)) (seqS (ifS (tstB (op2 (bop eqB) (op2 getP (nm 1) (cst (.int 0))) (cst (.str "tip")))) (retS (andE (op2 (bop eqB) (opN lenP [nm 1]) (cst (.int 3))) (andE (chE leB ltB (cst (.int 0)) (op2 getP (nm 1) (cst (.int 1))) (op2 subP (nm 0) (cst (.int 1)))) (callF F_is_sign [op2 getP (nm 1) (cst (.int 2))])))) (skipS)) (seqS (ifS (tOrS (tstB (op2 (bop neB) (op2 getP (nm 1) (cst (.int 0))) (cst (.str "turn")))) (tstB (op2 (bop neB) (opN lenP [nm 1]) (cst (.int 6))))) (retS (cst (.bl false))) (skipS)) (retS (andE (chE3 leB ltB ltB (cst (.int 0)) (op2 getP (nm 1) (cst (.int 1))) (op2 getP (nm 1) (cst (.int 2))) (op2 subP (nm 0) (cst (.int 1)))) (callF F_are_signs [slE (nm 1) (prtP (cst (.int 3))) (noP)]))))))
def F_is_step_in : FN := mkF 2 [true, true] B_is_step_in
def B_sure_place : SS := seqS (asgS 1 (callF (F_tupled 12) [nm 0])) (seqS (ifS (tNotS (tst (callF F_is_place_in [nm 1]))) (raiseS "Unfit") (skipS)) (retS (nm 1)))
def F_sure_place : FN := mkF 2 [true] B_sure_place
def B_sure_order : SS := seqS (asgS 1 (callF (F_tupled 12) [nm 0])) (seqS (ifS (tNotS (tst (callF F_is_order_in [nm 1]))) (raiseS "Unfit") (skipS)) (retS (nm 1)))
def F_sure_order : FN := mkF 2 [true] B_sure_order
def B_sure_step : SS := seqS (asgS 2 (callF (F_tupled 12) [nm 1])) (seqS (ifS (tNotS (tst (callF F_is_step_in [nm 0, nm 2]))) (raiseS "Unfit") (skipS)) (retS (nm 2)))
def F_sure_step : FN := mkF 3 [true, true] B_sure_step
def B_added : SS := seqS (asgS 2 (opN listP [nm 0])) (seqS (forS (srcE (nm 1)) (gT [gN 3, gN 4]) (asgG (gL putO 2 (nm 3)) (op2 addP (op2 getP (nm 2) (nm 3)) (nm 4)))) (retS (opN tupleP [nm 2])))
def F_added : FN := mkF 5 [true, true] B_added
def B_exchanged_at : SS := seqS (asgS 3 (opN listP [nm 0])) (seqS (asgG (gT [gL putO 3 (nm 1), gL putO 3 (nm 2)]) (tupD [op2 getP (nm 0) (nm 2), op2 getP (nm 0) (nm 1)])) (retS (opN tupleP [nm 3])))
def F_exchanged_at : FN := mkF 4 [true, true, true] B_exchanged_at
def B_turned_sign : SS := retS (opN tupleP [compS (srcN (nm 0)) (gT [gN 2, gN 3]) (ret true) (ifE (tstB (op2 (bop eqB) (nm 2) (nm 1))) (op2 subP (cst (.int 0)) (nm 3)) (nm 3)) [2, 3]])
def F_turned_sign : FN := mkF 4 [true, true] B_turned_sign
def B_with_row : SS := retS (op2 addP (op2 addP (slE (nm 0) (noP) (prtP (nm 1))) (tupD [nm 2])) (slE (nm 0) (prtP (op2 addP (nm 1) (cst (.int 1)))) (noP)))
def F_with_row : FN := mkF 3 [true, true, true] B_with_row
def B_tipped_in : SS := seqS (asgG (gT [gN 3, gN 4, gN 5]) (nm 0)) (seqS (asgS 6 (op2 subP (opN lenP [nm 3]) (cst (.int 1)))) (seqS (parS [7, 8] [op2 getP (nm 3) (nm 1), op2 getP (nm 3) (nm 6)]) (seqS (asgS 9 (callF F_added [op2 getP (nm 4) (nm 1), tupD [tupD [nm 7, nm 2], tupD [nm 8, nm 2]]])) (seqS (asgS 10 (callF F_turned_sign [nm 5, ifE (tstB (op2 (bop eqB) (nm 2) (cst (.int 1)))) (nm 7) (nm 8)])) (retS (tupD [callF F_exchanged_at [nm 3, nm 1, nm 6], callF F_with_row [nm 4, nm 1, nm 9], nm 10]))))))
def F_tipped_in : FN := mkF 11 [true, true, true] B_tipped_in
def B_turned_in : SS := seqS (asgG (gT [gN 2, gN 3, gN 4]) (nm 0)) (seqS (asgG (gT [gN 5, gN 6, gN 7, gN 8, gN 9]) (nm 1)) (seqS (parS [10, 11] [op2 getP (nm 2) (nm 5), op2 getP (nm 2) (nm 6)]) (seqS (asgS 12 (callF F_added [op2 getP (nm 3) (nm 5), tupD [tupD [nm 10, nm 7], tupD [nm 11, op2 mulP (nm 9) (nm 8)]]])) (seqS (asgS 13 (callF F_added [op2 getP (nm 3) (nm 6), tupD [tupD [nm 10, op2 subP (cst (.int 0)) (op2 mulP (nm 9) (nm 7))], tupD [nm 11, nm 8]]])) (seqS (asgS 14 (callF F_with_row [callF F_with_row [nm 3, nm 5, nm 12], nm 6, nm 13])) (retS (tupD [callF F_exchanged_at [nm 2, nm 5, nm 6], nm 14, callF F_turned_sign [nm 4, ifE (tstB (op2 (bop eqB) (nm 9) (cst (.int 1)))) (nm 11) (nm 10)]])))))))
def F_turned_in : FN := mkF 15 [true, true] B_turned_in
def B_stepped_in : SS := retS (ifE (tstB (op2 (bop eqB) (op2 getP (nm 1) (cst (.int 0))) (cst (.str "tip")))) (callF F_tipped_in [nm 0, op2 getP (nm 1) (cst (.int 1)), op2 getP (nm 1) (cst (.int 2))]) (callF F_turned_in [nm 0, slE (nm 1) (prtP (cst (.int 1))) (noP)]))
def F_stepped_in : FN := mkF 2 [true, true] B_stepped_in
def B_sign_of : SS := seqS (asgS 1 (cst (.int 1))) (seqS (forS (srcN (nm 0)) (gT [gN 2, gN 3]) (forS (srcE (slE (nm 0) (prtP (op2 addP (nm 2) (cst (.int 1)))) (noP))) (gN 4) (ifS (tstB (op2 (bop ltB) (nm 4) (nm 3))) (asgS 1 (op2 subP (cst (.int 0)) (nm 1))) (skipS)))) (retS (nm 1)))
def F_sign_of : FN := mkF 5 [true] B_sign_of
def B_is_order : SS := retS (callF F_is_order_in [nm 0])
def F_is_order : FN := mkF 1 [true] B_is_order
def B_stepped : SS := seqS (asgS 2 (callF F_sure_place [nm 0])) (retS (callF F_stepped_in [nm 2, callF F_sure_step [opN lenP [op2 getP (nm 2) (cst (.int 0))], nm 1]]))
def F_stepped : FN := mkF 3 [true, true] B_stepped
def B_order_sign : SS := retS (callF F_sign_of [callF F_sure_order [nm 0]])
def F_order_sign : FN := mkF 1 [true] B_order_sign
def B_are_steps_in : SS := retS (andE (op1 (isiP [.tup]) (nm 1)) (opN allP [compS (srcE (nm 1)) (gN 2) (ret true) (callF F_is_step_in [nm 0, nm 2]) [2]]))
def F_are_steps_in : FN := mkF 3 [true, true] B_are_steps_in
def B_sure_steps : SS := seqS (asgS 2 (callF (F_tupled 12) [nm 1])) (seqS (ifS (tNotS (tst (callF F_are_steps_in [nm 0, nm 2]))) (raiseS "Unfit") (skipS)) (retS (nm 2)))
def F_sure_steps : FN := mkF 3 [true, true] B_sure_steps
def B_behind_in : SS := seqS (forS (srcE (nm 1)) (gN 2) (asgS 0 (callF F_stepped_in [nm 0, nm 2]))) (retS (nm 0))
def F_behind_in : FN := mkF 3 [false, true] B_behind_in
def B_box_behind : SS := seqS (asgS 2 (callF F_sure_place [nm 0])) (retS (callF F_behind_in [nm 2, callF F_sure_steps [opN lenP [op2 getP (nm 2) (cst (.int 0))], nm 1]]))
def F_box_behind : FN := mkF 3 [true, true] B_box_behind
def B_order_tree : SS := seqS (asgS 2 (opN (rgP true) [nm 0])) (seqS (parS [3, 4] [dicD putO (flatF [(nm 2, cst .non)]), lstD [nm 2]]) (seqS (whileL (tstB (op2 (bop gtB) (opN lenP [nm 4]) (cst (.int 0)))) (seqS (asgS 5 (mLs popO 4 [cst (.int 0)])) (forS (srcE (nm 1)) (gN 6) (seqS (asgS 7 (callF F_exchanged_at [nm 5, op2 getP (nm 6) (cst (.int 0)), op2 getP (nm 6) (cst (.int 1))])) (ifS (tstB (op2 (bop ninB) (nm 7) (nm 3))) (seqS (asgG (gL putO 3 (nm 7)) (tupD [nm 5, nm 6])) (exprS (mLs appO 4 [nm 7]))) (skipS))))) 100000) (retS (nm 3))))
def F_order_tree : FN := mkF 8 [true, true] B_order_tree
def B_ways_back : SS := seqS (asgS 2 (lstD [])) (seqS (whileL (tstB (op2 notNP (op2 getP (nm 0) (nm 1)) (cst .non))) (seqS (asgG (gT [gN 1, gN 3]) (op2 getP (nm 0) (nm 1))) (exprS (mLs appO 2 [nm 3]))) 100000) (retS (op1 revP (nm 2))))
def F_ways_back : FN := mkF 4 [true, false] B_ways_back
def B_tips_of : SS := retS (opN tupleP [compS (srcE (nm 0)) (gN 1) (ret true) (tupD [cst (.str "tip"), op2 getP (nm 1) (cst (.int 0)), cst (.int 1)]) [1]])
def F_tips_of : FN := mkF 2 [true] B_tips_of
def B_tip_tree : SS := retS (callF F_order_tree [nm 0, compS (srcR [op2 subP (nm 0) (cst (.int 1))]) (gN 1) (ret true) (tupD [nm 1, op2 subP (nm 0) (cst (.int 1))]) [1]])
def F_tip_tree : FN := mkF 2 [true] B_tip_tree
def B_to_order : SS := retS (callF F_tips_of [callF F_ways_back [callF F_tip_tree [opN lenP [nm 0]], nm 0]])
def F_to_order : FN := mkF 1 [true] B_to_order
def B_order_tips : SS := retS (callF F_to_order [callF F_sure_order [nm 0]])
def F_order_tips : FN := mkF 1 [true] B_order_tips
def B_rounds_of : SS := seqS (parS [1, 2] [ret (.v (.dc [])), cst (.int 0)]) (seqS (forS (srcR [opN lenP [nm 0]]) (gN 3) (ifS (tAndS (tstB (op2 (bop ninB) (nm 3) (nm 1))) (tstB (op2 (bop neB) (op2 getP (nm 0) (nm 3)) (nm 3)))) (seqS (asgS 2 (op2 addP (nm 2) (cst (.int 1)))) (seqS (asgS 4 (nm 3)) (whileL (tstB (op2 (bop ninB) (nm 4) (nm 1))) (seqS (asgG (gL putO 1 (nm 4)) (cst (.bl true))) (asgS 4 (op2 getP (nm 0) (nm 4)))) 100000))) (skipS))) (retS (nm 2)))
def F_rounds_of : FN := mkF 5 [true] B_rounds_of
def B_order_steps : SS := seqS (asgS 1 (callF F_sure_order [nm 0])) (seqS (parS [2, 3] [op2 subP (opN lenP [nm 1]) (cst (.int 1)), compS (srcN (nm 1)) (gT [gN 4, gN 5]) (tstB (op2 (bop neB) (nm 5) (nm 4))) (nm 4) [4, 5]]) (retS (op2 subP (op2 addP (opN lenP [nm 3]) (callF F_rounds_of [nm 1])) (op2 mulP (cst (.int 2)) (opN intP [op2 (bop inB) (nm 2) (nm 3)])))))
def F_order_steps : FN := mkF 6 [true] B_order_steps
def B__law_box : SS := seqS (asgS 2 (ifE (tstB (op2 (bop ltB) (nm 1) (opN lenP [nm 0]))) (op2 getP (nm 0) (nm 1)) (cst (.int 0)))) (retS (lstD [op2 mulP (opN absP [nm 2]) (opN intP [op2 (bop geB) (opN absP [nm 2]) (op2 powP (cst (.int 10)) (cst (.int 18)))]), op2 addP (op2 addP (op2 modP (opN intP [nm 2]) (cst (.int 2305843009213693951))) (op2 mulP (cst (.int 39373)) (nm 1))) (cst (.int 3194060)), cst (.int 0)]))
def F__law_box : FN := mkF 3 [true, true] B__law_box
def B__law_take : SS := seqS (ifS (tstB (op2 (bop gtB) (op2 getP (nm 0) (cst (.int 0))) (cst (.int 0)))) (seqS (asgS 2 (op2 modP (opN intP [op2 getP (nm 0) (cst (.int 0))]) (nm 1))) (seqS (asgG (gL putO 0 (cst (.int 0))) (op2 fdivP (op2 getP (nm 0) (cst (.int 0))) (nm 1))) (retS (nm 2)))) (skipS)) (seqS (asgG (gL putO 0 (cst (.int 2))) (op2 addP (op2 getP (nm 0) (cst (.int 2))) (cst (.int 1)))) (seqS (asgS 3 (op2 modP (opN intP [op2 mulP (op2 addP (op2 getP (nm 0) (cst (.int 1))) (op2 mulP (cst (.int 48271)) (op2 getP (nm 0) (cst (.int 2))))) (op2 addP (cst (.int 39373)) (op2 getP (nm 0) (cst (.int 2))))]) (cst (.int 2147483647)))) (seqS (asgS 4 (op2 addP (op2 modP (opN intP [nm 3]) (cst (.int 40009))) (cst (.int 7)))) (seqS (asgS 5 (op2 modP (opN intP [op2 mulP (op2 addP (op2 addP (nm 3) (op2 getP (nm 0) (cst (.int 2)))) (op2 fdivP (op2 getP (nm 0) (cst (.int 1))) (cst (.int 1000003)))) (nm 4)]) (cst (.int 2147483629)))) (retS (op2 modP (opN intP [op2 fdivP (op2 modP (opN intP [op2 addP (op2 mulP (nm 5) (cst (.int 48271))) (nm 3)]) (cst (.int 2147483587))) (cst (.int 64))]) (nm 1)))))))
def F__law_take : FN := mkF 6 [true, true] B__law_take
def B__law_cells : SS := seqS (asgS 2 (orE (opN listP [slE (nm 0) (noP) (prtP (nm 1))]) (lstD [cst (.int 0)]))) (seqS (forS (srcN (slE (nm 0) (prtP (nm 1)) (prtP (cst (.int 63))))) (gT [gN 3, gN 4]) (seqS (asgS 5 (op2 modP (opN intP [nm 3]) (nm 1))) (asgG (gL putO 2 (nm 5)) (op2 addP (op2 getP (nm 2) (nm 5)) (op2 mulP (nm 4) (op2 addP (nm 3) (cst (.int 2)))))))) (retS (nm 2)))
def F__law_cells : FN := mkF 6 [true, true] B__law_cells
def B__law_pick : SS := seqS (parS [3, 4] [opN listP [nm 1], lstD []]) (seqS (forS (srcR [opN minP [opN intP [nm 2], opN lenP [nm 3]]]) (gN 5) (exprS (mLs appO 4 [mLs popO 3 [callF F__law_take [nm 0, opN lenP [nm 3]]]]))) (retS (nm 4)))
def F__law_pick : FN := mkF 6 [true, true, true] B__law_pick
def B__law_same (F : FN) : SS := seqS (ifS (tst (op1 (isiP [.lst, .tup]) (nm 1))) (seqS (ifS (tOrS (tstB (op2 (bop neB) (op1 (isiP [.lst]) (nm 0)) (op1 (isiP [.lst]) (nm 1)))) (tstB (op2 (bop neB) (op1 (isiP [.tup]) (nm 0)) (op1 (isiP [.tup]) (nm 1))))) (retS (cst (.bl false))) (skipS)) (retS (andE (op2 (bop eqB) (opN lenP [nm 0]) (opN lenP [nm 1])) (opN allP [compS (srcZ (nm 0) (nm 1)) (gT [gN 2, gN 3]) (ret true) (callF F [nm 2, nm 3]) [2, 3]])))) (skipS)) (seqS (ifS (tstB (op2 isNP (nm 1) (cst .non))) (retS (op2 isNP (nm 0) (cst .non))) (skipS)) (seqS (ifS (tst (op1 (isiP [.bl, .str]) (nm 1))) (retS (andE (op2 (bop eqB) (op1 (isiP [.bl]) (nm 0)) (op1 (isiP [.bl]) (nm 1))) (andE (op2 (bop eqB) (op1 (isiP [.str]) (nm 0)) (op1 (isiP [.str]) (nm 1))) (op2 (bop eqB) (nm 0) (nm 1))))) (skipS)) (retS (andE (op1 (isiP [.int]) (nm 0)) (andE (notE (op1 (isiP [.bl]) (nm 0))) (op2 (bop eqB) (nm 0) (nm 1)))))))
def F__law_same : Nat → FN
  | 0 => fun _ => .bad
  | k + 1 => mkF 4 [true, true] (B__law_same (F__law_same k))
def B__law_flip : SS := retS (op2 addP (op2 addP (slE (nm 0) (noP) (prtP (nm 1))) (tupD [op1 negP (op2 getP (nm 0) (nm 1))])) (slE (nm 0) (prtP (op2 addP (nm 1) (cst (.int 1)))) (noP)))
def F__law_flip : FN := mkF 2 [true, true] B__law_flip
def B__law_first : SS := retS (tupD [opN (rgP true) [nm 0], op2 mulP (tupD [op2 mulP (tupD [cst (.int 0)]) (nm 0)]) (op2 subP (nm 0) (cst (.int 1))), op2 mulP (tupD [cst (.int 1)]) (nm 0)])
def F__law_first : FN := mkF 1 [true] B__law_first
def B__law_traded : SS := seqS (asgS 3 (opN listP [nm 0])) (seqS (asgG (gT [gL putO 3 (nm 1), gL putO 3 (nm 2)]) (tupD [op2 getP (nm 3) (nm 2), op2 getP (nm 3) (nm 1)])) (retS (opN tupleP [nm 3])))
def F__law_traded : FN := mkF 4 [true, true, true] B__law_traded
def B__law_more : SS := seqS (asgS 2 (compSL (srcE (nm 0)) (gN 3) (ret true) (opN listP [nm 3]) [3])) (seqS (forS (srcE (nm 1)) (gT [gN 4, gN 5, gN 6]) (asgG (gLL 2 (.inl 4) (.inl 5)) (op2 addP (ixLL 2 (.inl 4) (.inl 5)) (nm 6)))) (retS (opN tupleP [compS (srcE (nm 2)) (gN 3) (ret true) (opN tupleP [nm 3]) [3]])))
def F__law_more : FN := mkF 7 [true, true] B__law_more
def B__law_put : SS := seqS (asgG (gT [gN 2, gN 3, gN 4]) (nm 0)) (seqS (ifS (tstB (op2 (bop eqB) (op2 getP (nm 1) (cst (.int 0))) (cst (.str "tip")))) (seqS (parS [5, 6] [op2 getP (nm 1) (cst (.int 1)), op2 getP (nm 1) (cst (.int 2))]) (seqS (parS [7, 8] [op2 getP (nm 2) (nm 5), op2 getP (nm 2) (op1 negP (cst (.int 1)))]) (seqS (asgS 9 (lstD [tupD [nm 5, nm 7, nm 6], tupD [nm 5, nm 8, nm 6]])) (retS (tupD [callF F__law_traded [nm 2, nm 5, op2 subP (opN lenP [nm 2]) (cst (.int 1))], callF F__law_more [nm 3, nm 9], callF F__law_flip [nm 4, ifE (tstB (op2 (bop eqB) (nm 6) (cst (.int 1)))) (nm 7) (nm 8)]]))))) (skipS)) (seqS (asgG (gT [gN 10, gN 11, gN 12, gN 13, gN 14]) (slE (nm 1) (prtP (cst (.int 1))) (noP))) (seqS (parS [7, 15] [op2 getP (nm 2) (nm 10), op2 getP (nm 2) (nm 11)]) (seqS (asgS 9 (lstD [tupD [nm 10, nm 7, nm 12], tupD [nm 10, nm 15, op2 mulP (nm 14) (nm 13)], tupD [nm 11, nm 7, op2 subP (cst (.int 0)) (op2 mulP (nm 14) (nm 12))], tupD [nm 11, nm 15, nm 13]])) (retS (tupD [callF F__law_traded [nm 2, nm 10, nm 11], callF F__law_more [nm 3, nm 9], callF F__law_flip [nm 4, ifE (tstB (op2 (bop eqB) (nm 14) (cst (.int 1)))) (nm 15) (nm 7)]]))))))
def F__law_put : FN := mkF 16 [true, true] B__law_put
def B__law_put_all : SS := seqS (forS (srcE (nm 1)) (gN 2) (asgS 0 (callF F__law_put [nm 0, nm 2]))) (retS (nm 0))
def F__law_put_all : FN := mkF 3 [false, true] B__law_put_all
def B__law_all_orders : SS := seqS (asgS 1 (lstD [tupD []])) (seqS (forS (srcR [nm 0]) (gN 2) (seqS (asgS 3 (lstD [])) (seqS (forS (srcE (nm 1)) (gN 4) (asgS 3 (op2 addP (nm 3) (compS (srcR [nm 0]) (gN 5) (tstB (op2 (bop ninB) (nm 5) (nm 4))) (op2 addP (nm 4) (tupD [nm 5])) [5])))) (asgS 1 (nm 3))))) (retS (nm 1)))
def F__law_all_orders : FN := mkF 6 [true] B__law_all_orders
def B__law_count : SS := seqS (asgS 1 (compS (srcN (nm 0)) (gT [gN 2, gN 3]) (tstB (op2 (bop neB) (nm 3) (nm 2))) (nm 2) [2, 3])) (seqS (parS [4, 5] [opN listP [nm 1], cst (.int 0)]) (seqS (whileL (tstB (op2 (bop neB) (nm 4) (lstD []))) (seqS (asgS 6 (op2 getP (nm 4) (cst (.int 0)))) (seqS (whileL (tstB (op2 (bop inB) (nm 6) (nm 4))) (seqS (asgS 4 (compS (srcE (nm 4)) (gN 3) (tstB (op2 (bop neB) (nm 3) (nm 6))) (nm 3) [3])) (asgS 6 (op2 getP (nm 0) (nm 6)))) 100000) (asgS 5 (op2 addP (nm 5) (cst (.int 1)))))) 100000) (retS (op2 subP (op2 addP (opN lenP [nm 1]) (nm 5)) (ifE (tstB (op2 (bop neB) (op2 getP (nm 0) (op1 negP (cst (.int 1)))) (op2 subP (opN lenP [nm 0]) (cst (.int 1))))) (cst (.int 2)) (cst (.int 0)))))))
def F__law_count : FN := mkF 7 [true] B__law_count
def B_is_from : SS := retS (andE (callF F_is_number [nm 0]) (op2 (bop geB) (nm 0) (nm 1)))
def F_is_from : FN := mkF 2 [true, true] B_is_from
def B_sure_sides : SS := seqS (ifS (tNotS (tst (callF F_is_from [nm 0, cst (.int 3)]))) (raiseS "Unfit") (skipS)) (retS (nm 0))
def F_sure_sides : FN := mkF 1 [true] B_sure_sides
def B_start_in : SS := retS (tupD [opN (rgP true) [nm 0], op2 mulP (tupD [op2 mulP (tupD [cst (.int 0)]) (nm 0)]) (op2 subP (nm 0) (cst (.int 1))), op2 mulP (tupD [cst (.int 1)]) (nm 0)])
def F_start_in : FN := mkF 1 [true] B_start_in
def B_is_place : SS := retS (callF F_is_place_in [nm 0])
def F_is_place : FN := mkF 1 [true] B_is_place
def B_box_start : SS := retS (callF F_start_in [callF F_sure_sides [nm 0]])
def F_box_start : FN := mkF 1 [true] B_box_start
def B_back_step : SS := seqS (ifS (tstB (op2 (bop eqB) (op2 getP (nm 0) (cst (.int 0))) (cst (.str "tip")))) (retS (tupD [cst (.str "tip"), op2 getP (nm 0) (cst (.int 1)), op2 subP (cst (.int 0)) (op2 getP (nm 0) (cst (.int 2)))])) (skipS)) (seqS (asgG (gT [gN 1, gN 2, gN 3, gN 4, gN 5, gN 6]) (nm 0)) (retS (ifE (tstB (op2 (bop eqB) (nm 6) (cst (.int 1)))) (tupD [cst (.str "turn"), nm 2, nm 3, op2 subP (cst (.int 0)) (nm 5), nm 4, op1 negP (cst (.int 1))]) (tupD [cst (.str "turn"), nm 2, nm 3, nm 5, op2 subP (cst (.int 0)) (nm 4), cst (.int 1)]))))
def F_back_step : FN := mkF 7 [true] B_back_step
def B_back_row : SS := retS (opN tupleP [compS (srcE (op1 revP (nm 0))) (gN 1) (ret true) (callF F_back_step [nm 1]) [1]])
def F_back_row : FN := mkF 2 [true] B_back_row
def B_short_in : SS := seqS (asgS 1 (lstD [])) (seqS (forS (srcE (nm 0)) (gN 2) (ifS (tAndS (tstB (op2 (bop neB) (nm 1) (lstD []))) (tstB (op2 (bop eqB) (callF F_back_step [op2 getP (nm 1) (op1 negP (cst (.int 1)))]) (nm 2)))) (exprS (mLs popO 1 [])) (exprS (mLs appO 1 [nm 2])))) (retS (opN tupleP [nm 1])))
def F_short_in : FN := mkF 3 [true] B_short_in
def B_put_in_box : SS := seqS (asgS 2 (op2 getP (nm 0) (cst (.int 0)))) (seqS (parS [3, 4] [opN listP [op2 getP (nm 0) (cst (.int 2))], compSL (srcE (op2 getP (nm 0) (cst (.int 1)))) (gN 5) (ret true) (opN listP [nm 5]) [5]]) (seqS (forS (srcN (nm 2)) (gT [gN 6, gN 7]) (seqS (asgG (gL putO 3 (nm 7)) (op2 mulP (op2 getP (nm 3) (nm 7)) (op2 getP (op2 getP (nm 1) (cst (.int 2))) (nm 6)))) (forS (srcN (op2 getP (nm 1) (cst (.int 1)))) (gT [gN 8, gN 5]) (asgG (gLL 4 (.inl 8) (.inl 7)) (op2 addP (ixLL 4 (.inl 8) (.inl 7)) (op2 getP (nm 5) (nm 6))))))) (retS (tupD [opN tupleP [compS (srcE (op2 getP (nm 1) (cst (.int 0)))) (gN 7) (ret true) (op2 getP (nm 2) (nm 7)) [7]], opN tupleP [compS (srcE (nm 4)) (gN 5) (ret true) (opN tupleP [nm 5]) [5]], opN tupleP [nm 3]]))))
def F_put_in_box : FN := mkF 9 [true, true] B_put_in_box
def B_back_in : SS := seqS (asgG (gT [gN 1, gN 2, gN 3]) (nm 0)) (seqS (asgS 4 (opN tupleP [compS (srcR [opN lenP [nm 1]]) (gN 5) (ret true) (opM isLst indexO (nm 1) [nm 5]) [5]])) (seqS (asgS 6 (opN tupleP [compS (srcE (nm 2)) (gN 8) (ret true) (opN tupleP [compS (srcE (nm 1)) (gN 7) (ret true) (op2 subP (cst (.int 0)) (op2 getP (nm 8) (nm 7))) [7]]) [8]])) (retS (tupD [nm 4, nm 6, opN tupleP [compS (srcE (nm 1)) (gN 7) (ret true) (op2 getP (nm 3) (nm 7)) [7]]]))))
def F_back_in : FN := mkF 9 [true] B_back_in
def B_box_undone : SS := retS (callF F_back_row [callF F_sure_steps [callF F_sure_sides [nm 0], nm 1]])
def F_box_undone : FN := mkF 2 [true, true] B_box_undone
def B_box_shortened : SS := retS (callF F_short_in [callF F_sure_steps [callF F_sure_sides [nm 0], nm 1]])
def F_box_shortened : FN := mkF 2 [true, true] B_box_shortened
def B_put_behind_box : SS := seqS (parS [2, 3] [callF F_sure_place [nm 0], callF F_sure_place [nm 1]]) (seqS (ifS (tstB (op2 (bop neB) (opN lenP [op2 getP (nm 2) (cst (.int 0))]) (opN lenP [op2 getP (nm 3) (cst (.int 0))]))) (raiseS "Unfit") (skipS)) (retS (callF F_put_in_box [nm 2, nm 3])))
def F_put_behind_box : FN := mkF 4 [true, true] B_put_behind_box
def B_back_from_box : SS := retS (callF F_back_in [callF F_sure_place [nm 0]])
def F_back_from_box : FN := mkF 1 [true] B_back_from_box
def B_odd_at : SS := retS (op2 (bop neB) (op2 (bop eqB) (nm 2) (nm 1)) (op2 (bop eqB) (nm 2) (op2 getP (nm 0) (nm 1))))
def F_odd_at : FN := mkF 3 [true, true, true] B_odd_at
def B_is_odd_rightly : SS := retS (op2 (bop eqB) (op2 modP (op2 getP (op2 getP (nm 1) (nm 2)) (nm 3)) (cst (.int 2))) (opN intP [callF F_odd_at [nm 0, nm 2, nm 3]]))
def F_is_odd_rightly : FN := mkF 4 [true, true, true, true] B_is_odd_rightly
def B_wrong_numbers : SS := seqS (asgS 2 (lstD [])) (seqS (forS (srcR [opN lenP [nm 1]]) (gN 3) (exprS (mLs extO 2 [compS (srcR [opN lenP [nm 0]]) (gN 4) (tNotS (tst (callF F_is_odd_rightly [nm 0, nm 1, nm 3, nm 4]))) (tupD [nm 3, nm 4]) [4]]))) (retS (nm 2)))
def F_wrong_numbers : FN := mkF 5 [true, true] B_wrong_numbers
def B_is_half_right : SS := seqS (asgS 2 (op2 fdivP (opN sumP [compS (srcE (nm 1)) (gN 3) (ret true) (opN sumP [nm 3]) [3]]) (cst (.int 2)))) (retS (op2 (bop eqB) (op2 modP (nm 2) (cst (.int 2))) (opN intP [op2 (bop eqB) (callF F_sign_of [nm 0]) (op1 negP (cst (.int 1)))])))
def F_is_half_right : FN := mkF 4 [true, true] B_is_half_right
def B_sign_by : SS := seqS (asgS 3 (opN sumP [compS (srcE (nm 1)) (gN 4) (ret true) (op2 getP (nm 4) (nm 2)) [4]])) (seqS (asgS 5 (op2 subP (opN lenP [nm 0]) (cst (.int 1)))) (seqS (asgS 6 (ifE (tAndS (tstB (op2 (bop eqB) (op2 getP (nm 0) (nm 5)) (nm 2))) (tstB (op2 (bop neB) (nm 2) (nm 5)))) (op2 fdivP (op2 addP (nm 3) (cst (.int 1))) (cst (.int 2))) (op2 fdivP (nm 3) (cst (.int 2))))) (retS (ifE (tstB (op2 (bop eqB) (op2 modP (nm 6) (cst (.int 2))) (cst (.int 0)))) (cst (.int 1)) (op1 negP (cst (.int 1)))))))
def F_sign_by : FN := mkF 7 [true, true, true] B_sign_by
def B_signs_in : SS := retS (opN tupleP [compS (srcR [opN lenP [nm 0]]) (gN 2) (ret true) (callF F_sign_by [nm 0, nm 1, nm 2]) [2]])
def F_signs_in : FN := mkF 3 [true, true] B_signs_in
def B_bars_in_box : SS := seqS (asgG (gT [gN 1, gN 2, gN 3]) (nm 0)) (seqS (asgS 4 (callF F_wrong_numbers [nm 1, nm 2])) (seqS (asgS 5 (compS (srcE (nm 4)) (gT [gN 6, gN 7]) (ret true) (tupD [cst (.str "axis"), nm 6, nm 7]) [6, 7])) (seqS (ifS (tstB (op2 (bop eqB) (nm 4) (lstD []))) (seqS (ifS (tNotS (tst (callF F_is_half_right [nm 1, nm 2]))) (exprS (mLs appO 5 [tupD [cst (.str "half")]])) (skipS)) (seqS (asgS 8 (callF F_signs_in [nm 1, nm 2])) (exprS (mLs extO 5 [compS (srcR [opN lenP [nm 1]]) (gN 7) (tstB (op2 (bop neB) (op2 getP (nm 8) (nm 7)) (op2 getP (nm 3) (nm 7)))) (tupD [cst (.str "sign"), nm 7]) [7]])))) (skipS)) (retS (nm 5)))))
def F_bars_in_box : FN := mkF 9 [true] B_bars_in_box
def B_can_tip_box : SS := retS (op2 (bop eqB) (callF F_bars_in_box [callF F_sure_place [nm 0]]) (lstD []))
def F_can_tip_box : FN := mkF 1 [true] B_can_tip_box
def B_signs_told : SS := seqS (asgS 2 (callF F_sure_order [nm 0])) (seqS (asgS 3 (callF (F_tupled 12) [nm 1])) (seqS (ifS (tOrS (tNotS (tst (callF F_is_long [nm 3, op2 subP (opN lenP [nm 2]) (cst (.int 1))]))) (tNotS (tst (opN allP [compS (srcE (nm 3)) (gN 4) (ret true) (andE (callF F_are_numbers [nm 4]) (op2 (bop eqB) (opN lenP [nm 4]) (opN lenP [nm 2]))) [4]])))) (raiseS "Unfit") (skipS)) (seqS (ifS (tOrS (tstB (op2 (bop neB) (callF F_wrong_numbers [nm 2, nm 3]) (lstD []))) (tNotS (tst (callF F_is_half_right [nm 2, nm 3])))) (raiseS "CanNot") (skipS)) (retS (callF F_signs_in [nm 2, nm 3])))))
def F_signs_told : FN := mkF 5 [true, true] B_signs_told
def B__law_of : SS := retS (op2 getP (nm 1) (callF F__law_take [nm 0, opN lenP [nm 1]]))
def F__law_of : FN := mkF 2 [true, true] B__law_of
def B__law_lists (F : FN) : SS := retS (ifE (tst (op1 (isiP [.lst, .tup]) (nm 0))) (compS (srcE (nm 0)) (gN 1) (ret true) (callF F [nm 1]) [1]) (nm 0))
def F__law_lists : Nat → FN
  | 0 => fun _ => .bad
  | k + 1 => mkF 2 [true] (B__law_lists (F__law_lists k))
def B__law_two_by : SS := seqS (asgS 2 (lstD [])) (seqS (forS (srcE (nm 0)) (gN 3) (asgS 2 (op2 addP (nm 2) (compS (srcE (nm 1)) (gN 4) (ret true) (tupD [nm 3, nm 4]) [4])))) (retS (nm 2)))
def F__law_two_by : FN := mkF 5 [true, true] B__law_two_by
def B__law_box_tips : SS := retS (compS (srcE (callF F__law_two_by [opN (rgP false) [op2 subP (nm 0) (cst (.int 1))], tupD [op1 negP (cst (.int 1)), cst (.int 1)]])) (gT [gN 1, gN 2]) (ret true) (tupD [cst (.str "tip"), nm 1, nm 2]) [1, 2])
def F__law_box_tips : FN := mkF 3 [true] B__law_box_tips
def B__law_box_turns : SS := seqS (asgS 1 (lstD [])) (seqS (forS (srcE (callF F__law_two_by [opN (rgP false) [op2 subP (nm 0) (cst (.int 1))], opN (rgP false) [op2 subP (nm 0) (cst (.int 1))]])) (gT [gN 2, gN 3]) (forS (srcE (callF F__law_two_by [tupD [op1 negP (cst (.int 1)), cst (.int 1)], tupD [op1 negP (cst (.int 1)), cst (.int 1)]])) (gT [gN 4, gN 5]) (asgS 1 (op2 addP (nm 1) (compS (srcE (tupD [op1 negP (cst (.int 1)), cst (.int 1)])) (gN 6) (tstB (op2 (bop ltB) (nm 2) (nm 3))) (tupD [cst (.str "turn"), nm 2, nm 3, nm 4, nm 5, nm 6]) [6]))))) (retS (nm 1)))
def F__law_box_turns : FN := mkF 7 [true] B__law_box_turns
def B__law_box_steps : SS := retS (opN sortedP [op2 addP (callF F__law_box_tips [nm 0]) (callF F__law_box_turns [nm 0])])
def F__law_box_steps : FN := mkF 1 [true] B__law_box_steps
def B__law_steps_drawn : SS := retS (opN tupleP [compS (srcR [nm 2]) (gN 3) (ret true) (callF F__law_of [nm 0, nm 1]) [3]])
def F__law_steps_drawn : FN := mkF 4 [true, true, true] B__law_steps_drawn
def B__law_parity : SS := seqS (asgS 1 (opN lenP [compS (srcE (callF F__law_two_by [opN (rgP false) [opN lenP [nm 0]], opN (rgP false) [opN lenP [nm 0]]])) (gT [gN 2, gN 3]) (tAndS (tstB (op2 (bop ltB) (nm 2) (nm 3))) (tstB (op2 (bop gtB) (op2 getP (nm 0) (nm 2)) (op2 getP (nm 0) (nm 3))))) (cst (.int 1)) [2, 3]])) (retS (ifE (tstB (op2 (bop eqB) (op2 modP (nm 1) (cst (.int 2))) (cst (.int 1)))) (op1 negP (cst (.int 1))) (cst (.int 1))))
def F__law_parity : FN := mkF 4 [true] B__law_parity
def B__law_is_odd_at : SS := retS (op2 (bop neB) (op2 (bop eqB) (nm 2) (nm 1)) (op2 (bop eqB) (op2 getP (nm 0) (nm 1)) (nm 2)))
def F__law_is_odd_at : FN := mkF 3 [true, true, true] B__law_is_odd_at
def B__law_off_axis : SS := seqS (asgS 2 (lstD [])) (seqS (forS (srcE (callF F__law_two_by [opN (rgP false) [op2 subP (opN lenP [nm 0]) (cst (.int 1))], opN (rgP false) [opN lenP [nm 0]]])) (gT [gN 3, gN 4]) (ifS (tstB (op2 (bop neB) (op2 (bop eqB) (op2 modP (op2 getP (op2 getP (nm 1) (nm 3)) (nm 4)) (cst (.int 2))) (cst (.int 1))) (callF F__law_is_odd_at [nm 0, nm 3, nm 4]))) (exprS (mLs appO 2 [tupD [cst (.str "axis"), nm 3, nm 4]])) (skipS))) (retS (nm 2)))
def F__law_off_axis : FN := mkF 5 [true, true] B__law_off_axis
def B__law_sign_due : SS := seqS (parS [3, 4] [opN sumP [compS (srcE (nm 1)) (gN 5) (ret true) (op2 getP (nm 5) (nm 2)) [5]], op2 subP (opN lenP [nm 0]) (cst (.int 1))]) (seqS (asgS 6 (ifE (tAndS (tstB (op2 (bop eqB) (op2 getP (nm 0) (op1 negP (cst (.int 1)))) (nm 2))) (tstB (op2 (bop neB) (nm 2) (nm 4)))) (op2 fdivP (opN intP [op2 addP (nm 3) (cst (.int 1))]) (cst (.int 2))) (op2 fdivP (opN intP [nm 3]) (cst (.int 2))))) (retS (ifE (tstB (op2 (bop eqB) (op2 modP (nm 6) (cst (.int 2))) (cst (.int 1)))) (op1 negP (cst (.int 1))) (cst (.int 1)))))
def F__law_sign_due : FN := mkF 7 [true, true, true] B__law_sign_due
def B__law_half_off : SS := retS (op2 (bop neB) (op2 (bop eqB) (op2 modP (op2 fdivP (opN sumP [compS (srcE (nm 1)) (gN 2) (ret true) (opN sumP [nm 2]) [2]]) (cst (.int 2))) (cst (.int 2))) (cst (.int 1))) (op2 (bop eqB) (callF F__law_parity [nm 0]) (op1 negP (cst (.int 1)))))
def F__law_half_off : FN := mkF 3 [true, true] B__law_half_off
def B__law_barred : SS := seqS (asgG (gT [gN 1, gN 2, gN 3]) (nm 0)) (seqS (asgS 4 (callF F__law_off_axis [nm 1, nm 2])) (seqS (ifS (tstB (op2 (bop neB) (nm 4) (lstD []))) (retS (nm 4)) (skipS)) (seqS (asgS 4 (ifE (tst (callF F__law_half_off [nm 1, nm 2])) (lstD [tupD [cst (.str "half")]]) (lstD []))) (retS (op2 addP (nm 4) (compS (srcR [opN lenP [nm 1]]) (gN 5) (tstB (op2 (bop neB) (op2 getP (nm 3) (nm 5)) (callF F__law_sign_due [nm 1, nm 2, nm 5]))) (tupD [cst (.str "sign"), nm 5]) [5]))))))
def F__law_barred : FN := mkF 6 [true] B__law_barred
def B__law_bent_spot : SS := seqS (asgG (gT [gN 2, gN 3, gN 4]) (nm 1)) (seqS (parS [5, 6] [opN lenP [nm 2], callF F__law_take [nm 0, cst (.int 6)]]) (seqS (parS [7, 8] [callF F__law_take [nm 0, op2 subP (nm 5) (cst (.int 1))], callF F__law_take [nm 0, nm 5]]) (seqS (ifS (tstB (op2 (bop eqB) (nm 6) (cst (.int 0)))) (retS (tupD [nm 2, callF F__law_more [nm 3, lstD [tupD [nm 7, nm 8, cst (.int 1)]]], nm 4])) (skipS)) (seqS (ifS (tstB (op2 (bop eqB) (nm 6) (cst (.int 1)))) (retS (tupD [nm 2, callF F__law_more [nm 3, lstD [tupD [nm 7, nm 8, op2 subP (cst (.int 2)) (op2 mulP (cst (.int 4)) (callF F__law_take [nm 0, cst (.int 2)]))]]], nm 4])) (skipS)) (seqS (ifS (tstB (op2 (bop eqB) (nm 6) (cst (.int 2)))) (retS (tupD [nm 2, nm 3, callF F__law_flip [nm 4, nm 8]])) (skipS)) (seqS (ifS (tstB (op2 (bop eqB) (nm 6) (cst (.int 3)))) (retS (tupD [nm 2, nm 3, callF F__law_flip [callF F__law_flip [nm 4, nm 8], callF F__law_take [nm 0, nm 5]]])) (skipS)) (seqS (ifS (tstB (op2 (bop eqB) (nm 6) (cst (.int 4)))) (retS (tupD [nm 2, callF F__law_more [nm 3, lstD [tupD [nm 7, nm 8, cst (.int 2)], tupD [callF F__law_take [nm 0, op2 subP (nm 5) (cst (.int 1))], nm 8, op1 negP (cst (.int 2))]]], nm 4])) (skipS)) (retS (tupD [callF F__law_traded [nm 2, nm 7, op2 subP (nm 5) (cst (.int 1))], nm 3, nm 4])))))))))
def F__law_bent_spot : FN := mkF 9 [true, true] B__law_bent_spot
def B__law_undoing : SS := seqS (asgS 2 (callF F__law_first [nm 0])) (seqS (asgS 3 (callF F__law_put [nm 2, nm 1])) (retS (op2 getP (compS (srcE (callF F__law_box_steps [nm 0])) (gN 4) (tAndS (tstB (op2 (bop eqB) (op2 getP (nm 4) (cst (.int 0))) (op2 getP (nm 1) (cst (.int 0))))) (tstB (op2 (bop eqB) (callF F__law_put [nm 3, nm 4]) (nm 2)))) (nm 4) [4]) (cst (.int 0)))))
def F__law_undoing : FN := mkF 5 [true, true] B__law_undoing
def B__law_short : SS := seqS (asgS 2 (lstD [])) (seqS (forS (srcE (nm 1)) (gN 3) (ifS (tAndS (tstB (op2 (bop neB) (nm 2) (lstD []))) (tstB (op2 (bop eqB) (callF F__law_undoing [nm 0, op2 getP (nm 2) (op1 negP (cst (.int 1)))]) (nm 3)))) (asgS 2 (slE (nm 2) (noP) (prtP (op1 negP (cst (.int 1)))))) (exprS (mLs appO 2 [nm 3])))) (retS (opN tupleP [nm 2])))
def F__law_short : FN := mkF 4 [true, true] B__law_short
def B__law_beside : SS := seqS (asgS 2 (opN tupleP [compS (srcE (op2 getP (nm 1) (cst (.int 0)))) (gN 3) (ret true) (op2 getP (op2 getP (nm 0) (cst (.int 0))) (nm 3)) [3]])) (seqS (asgS 4 (lstD [])) (seqS (forS (srcR [op2 subP (opN lenP [nm 2]) (cst (.int 1))]) (gN 5) (seqS (asgS 6 (opN listP [op2 getP (op2 getP (nm 0) (cst (.int 1))) (nm 5)])) (seqS (forS (srcR [opN lenP [nm 2]]) (gN 7) (asgG (gL putO 6 (op2 getP (op2 getP (nm 0) (cst (.int 0))) (nm 7))) (op2 addP (op2 getP (nm 6) (op2 getP (op2 getP (nm 0) (cst (.int 0))) (nm 7))) (op2 getP (op2 getP (op2 getP (nm 1) (cst (.int 1))) (nm 5)) (nm 7))))) (exprS (mLs appO 4 [opN tupleP [nm 6]]))))) (seqS (asgS 8 (opN listP [op2 getP (nm 0) (cst (.int 2))])) (seqS (forS (srcR [opN lenP [nm 2]]) (gN 7) (asgG (gL putO 8 (op2 getP (op2 getP (nm 0) (cst (.int 0))) (nm 7))) (op2 mulP (op2 getP (nm 8) (op2 getP (op2 getP (nm 0) (cst (.int 0))) (nm 7))) (op2 getP (op2 getP (nm 1) (cst (.int 2))) (nm 7))))) (retS (tupD [nm 2, opN tupleP [nm 4], opN tupleP [nm 8]]))))))
def F__law_beside : FN := mkF 9 [true, true] B__law_beside
def B_is_swing_in : SS := seqS (ifS (tOrS (tNotS (tst (callF F_is_long [nm 1, cst (.int 2)]))) (tOrS (tNotS (tst (callF F_is_long [op2 getP (nm 1) (cst (.int 0)), op2 subP (nm 0) (cst (.int 1))]))) (tNotS (tst (callF F_are_numbers [op2 getP (nm 1) (cst (.int 0))]))))) (retS (cst (.bl false))) (skipS)) (retS (andE (op2 (bop eqB) (opN sortedP [op2 getP (nm 1) (cst (.int 0))]) (opN (rgP false) [op2 subP (nm 0) (cst (.int 1))])) (andE (callF F_is_long [op2 getP (nm 1) (cst (.int 1)), op2 subP (nm 0) (cst (.int 1))]) (callF F_are_signs [op2 getP (nm 1) (cst (.int 1))]))))
def F_is_swing_in : FN := mkF 2 [true, true] B_is_swing_in
def B_sure_swing : SS := seqS (asgS 2 (callF (F_tupled 12) [nm 1])) (seqS (ifS (tNotS (tst (callF F_is_swing_in [nm 0, nm 2]))) (raiseS "Unfit") (skipS)) (retS (nm 2)))
def F_sure_swing : FN := mkF 3 [true, true] B_sure_swing
def B_step_swung : SS := seqS (asgG (gT [gN 2, gN 3]) (nm 1)) (seqS (ifS (tstB (op2 (bop eqB) (op2 getP (nm 0) (cst (.int 0))) (cst (.str "tip")))) (retS (tupD [cst (.str "tip"), op2 getP (nm 2) (op2 getP (nm 0) (cst (.int 1))), op2 mulP (op2 getP (nm 0) (cst (.int 2))) (op2 getP (nm 3) (op2 getP (nm 0) (cst (.int 1))))])) (skipS)) (seqS (asgG (gT [gN 4, gN 5, gN 6, gN 7, gN 8, gN 9]) (nm 0)) (seqS (parS [10, 11] [tupD [op2 getP (nm 2) (nm 5), op2 mulP (nm 7) (op2 getP (nm 3) (nm 5))], tupD [op2 getP (nm 2) (nm 6), op2 mulP (nm 8) (op2 getP (nm 3) (nm 6))]]) (seqS (asgS 12 (op2 mulP (op2 mulP (nm 9) (op2 getP (nm 3) (nm 5))) (op2 getP (nm 3) (nm 6)))) (seqS (ifS (tstB (op2 (bop ltB) (op2 getP (nm 10) (cst (.int 0))) (op2 getP (nm 11) (cst (.int 0))))) (retS (tupD [cst (.str "turn"), op2 getP (nm 10) (cst (.int 0)), op2 getP (nm 11) (cst (.int 0)), op2 getP (nm 10) (cst (.int 1)), op2 getP (nm 11) (cst (.int 1)), nm 12])) (skipS)) (retS (tupD [cst (.str "turn"), op2 getP (nm 11) (cst (.int 0)), op2 getP (nm 10) (cst (.int 0)), op2 getP (nm 11) (cst (.int 1)), op2 getP (nm 10) (cst (.int 1)), op2 subP (cst (.int 0)) (nm 12)])))))))
def F_step_swung : FN := mkF 13 [true, true] B_step_swung
def B_swung_in : SS := seqS (asgG (gT [gN 2, gN 3]) (nm 1)) (seqS (asgG (gT [gN 4, gN 5, gN 6]) (nm 0)) (seqS (parS [7, 8, 9] [opN listP [nm 4], opN listP [nm 5], opN listP [nm 6]]) (seqS (forS (srcN (nm 2)) (gT [gN 10, gN 11]) (seqS (asgG (gL putO 7 (nm 11)) (op2 getP (nm 4) (nm 10))) (seqS (asgG (gL putO 8 (nm 11)) (opN tupleP [compS (srcE (op2 getP (nm 5) (nm 10))) (gN 12) (ret true) (op2 mulP (op2 getP (nm 3) (nm 10)) (nm 12)) [12]])) (asgG (gL putO 9 (op2 getP (nm 4) (nm 10))) (op2 mulP (op2 getP (nm 3) (nm 10)) (op2 getP (nm 6) (op2 getP (nm 4) (nm 10)))))))) (retS (tupD [opN tupleP [nm 7], opN tupleP [nm 8], opN tupleP [nm 9]])))))
def F_swung_in : FN := mkF 13 [true, true] B_swung_in
def B_is_box_row : SS := retS (callF F_are_steps_in [callF F_sure_sides [nm 0], nm 1])
def F_is_box_row : FN := mkF 2 [true, true] B_is_box_row
def B_places_along : SS := seqS (asgS 2 (callF F_sure_place [nm 0])) (seqS (asgS 3 (lstD [nm 2])) (seqS (forS (srcE (callF F_sure_steps [opN lenP [op2 getP (nm 2) (cst (.int 0))], nm 1])) (gN 4) (exprS (mLs appO 3 [callF F_stepped_in [op2 getP (nm 3) (op1 negP (cst (.int 1))), nm 4]]))) (retS (nm 3))))
def F_places_along : FN := mkF 5 [true, true] B_places_along
def B_step_back : SS := retS (callF F_back_step [callF F_sure_step [callF F_sure_sides [nm 0], nm 1]])
def F_step_back : FN := mkF 2 [true, true] B_step_back
def B_is_swing : SS := retS (callF F_is_swing_in [callF F_sure_sides [nm 0], nm 1])
def F_is_swing : FN := mkF 2 [true, true] B_is_swing
def B_box_swung : SS := seqS (asgS 3 (callF F_sure_sides [nm 0])) (seqS (asgS 4 (callF F_sure_steps [nm 3, nm 1])) (seqS (asgS 5 (callF F_sure_swing [nm 3, nm 2])) (retS (opN tupleP [compS (srcE (nm 4)) (gN 6) (ret true) (callF F_step_swung [nm 6, nm 5]) [6]]))))
def F_box_swung : FN := mkF 7 [true, true, true] B_box_swung
def B_place_swung : SS := seqS (asgS 2 (callF F_sure_place [nm 0])) (retS (callF F_swung_in [nm 2, callF F_sure_swing [opN lenP [op2 getP (nm 2) (cst (.int 0))], nm 1]]))
def F_place_swung : FN := mkF 3 [true, true] B_place_swung
def B__law_spoil : SS := ifS (tst (op1 (isiP [.lst]) (nm 0))) (exprS (mLs appO 0 [tupD []])) (skipS)
def F__law_spoil : FN := mkF 1 [true] B__law_spoil
def B__law_swung_step : SS := seqS (asgG (gT [gN 2, gN 3]) (nm 1)) (seqS (ifS (tstB (op2 (bop eqB) (op2 getP (nm 0) (cst (.int 0))) (cst (.str "tip")))) (retS (tupD [cst (.str "tip"), op2 getP (nm 2) (op2 getP (nm 0) (cst (.int 1))), op2 mulP (op2 getP (nm 3) (op2 getP (nm 0) (cst (.int 1)))) (op2 getP (nm 0) (cst (.int 2)))])) (skipS)) (seqS (asgG (gT [gN 4, gN 5, gN 6, gN 7, gN 8]) (slE (nm 0) (prtP (cst (.int 1))) (noP))) (seqS (parS [9, 10, 6, 7, 8] [op2 getP (nm 2) (nm 4), op2 getP (nm 2) (nm 5), op2 mulP (nm 6) (op2 getP (nm 3) (nm 4)), op2 mulP (nm 7) (op2 getP (nm 3) (nm 5)), op2 mulP (op2 mulP (nm 8) (op2 getP (nm 3) (nm 4))) (op2 getP (nm 3) (nm 5))]) (retS (ifE (tstB (op2 (bop ltB) (nm 9) (nm 10))) (tupD [cst (.str "turn"), nm 9, nm 10, nm 6, nm 7, nm 8]) (tupD [cst (.str "turn"), nm 10, nm 9, nm 7, nm 6, op2 subP (cst (.int 0)) (nm 8)]))))))
def F__law_swung_step : FN := mkF 11 [true, true] B__law_swung_step
def B__law_swing : SS := retS (tupD [opN tupleP [callF F__law_pick [nm 0, opN (rgP false) [op2 subP (nm 1) (cst (.int 1))], op2 subP (nm 1) (cst (.int 1))]], opN tupleP [compS (srcR [op2 subP (nm 1) (cst (.int 1))]) (gN 2) (ret true) (op2 subP (cst (.int 1)) (op2 mulP (cst (.int 2)) (callF F__law_take [nm 0, cst (.int 2)]))) [2]]])
def F__law_swing : FN := mkF 3 [true, true] B__law_swing
def B__law_spot_swung : SS := seqS (parS [2, 3, 4] [opN listP [op2 getP (nm 0) (cst (.int 0))], opN listP [op2 getP (nm 0) (cst (.int 1))], opN listP [op2 getP (nm 0) (cst (.int 2))]]) (seqS (forS (srcN (op2 getP (nm 1) (cst (.int 0)))) (gT [gN 5, gN 6]) (seqS (parS [7, 8] [op2 getP (op2 getP (nm 0) (cst (.int 0))) (nm 5), op2 getP (op2 getP (nm 1) (cst (.int 1))) (nm 5)]) (seqS (asgG (gT [gL putO 2 (nm 6), gL putO 3 (nm 6)]) (tupD [nm 7, opN tupleP [compS (srcE (op2 getP (op2 getP (nm 0) (cst (.int 1))) (nm 5))) (gN 9) (ret true) (op2 mulP (nm 8) (nm 9)) [9]]])) (asgG (gL putO 4 (nm 7)) (op2 mulP (op2 getP (nm 4) (nm 7)) (nm 8)))))) (retS (tupD [opN tupleP [nm 2], opN tupleP [nm 3], opN tupleP [nm 4]])))
def F__law_spot_swung : FN := mkF 10 [true, true] B__law_spot_swung
def B_is_box_in : SS := retS (andE (callF F_are_numbers [nm 0]) (andE (op2 (bop geB) (opN lenP [nm 0]) (cst (.int 3))) (opN allP [compS (srcE (nm 0)) (gN 1) (ret true) (op2 (bop geB) (nm 1) (cst (.int 1))) [1]])))
def F_is_box_in : FN := mkF 2 [true] B_is_box_in
def B_sure_box : SS := seqS (asgS 1 (callF (F_tupled 12) [nm 0])) (seqS (ifS (tNotS (tst (callF F_is_box_in [nm 1]))) (raiseS "Unfit") (skipS)) (retS (nm 1)))
def F_sure_box : FN := mkF 2 [true] B_sure_box
def B_sure_boxed : SS := seqS (parS [2, 3] [callF F_sure_box [nm 0], callF F_sure_place [nm 1]]) (seqS (ifS (tstB (op2 (bop neB) (opN lenP [nm 2]) (opN lenP [op2 getP (nm 3) (cst (.int 0))]))) (raiseS "Unfit") (skipS)) (retS (tupD [nm 2, nm 3])))
def F_sure_boxed : FN := mkF 4 [true, true] B_sure_boxed
def B_middle_in : SS := retS (opN tupleP [compS (srcE (op2 getP (nm 1) (cst (.int 1)))) (gN 4) (ret true) (opN sumP [compS (srcZ (nm 4) (nm 0)) (gT [gN 2, gN 3]) (ret true) (op2 mulP (nm 2) (nm 3)) [2, 3]]) [4]])
def F_middle_in : FN := mkF 5 [true, true] B_middle_in
def B_box_middle : SS := seqS (asgG (gT [gN 2, gN 3]) (callF F_sure_boxed [nm 0, nm 1])) (retS (callF F_middle_in [nm 2, nm 3]))
def F_box_middle : FN := mkF 4 [true, true] B_box_middle
def B_shifted : SS := retS (opN tupleP [compS (srcZ (nm 0) (nm 1)) (gT [gN 3, gN 4]) (ret true) (op2 addP (nm 3) (op2 mulP (nm 2) (nm 4))) [3, 4]])
def F_shifted : FN := mkF 5 [true, true, true] B_shifted
def B_round_in : SS := seqS (asgS 1 (opN lenP [op2 getP (nm 0) (cst (.int 0))])) (seqS (asgS 2 (callF F_start_in [nm 1])) (seqS (parS [3, 4] [nm 0, cst (.int 1)]) (seqS (whileL (tOrS (tstB (op2 (bop neB) (op2 getP (nm 3) (cst (.int 0))) (op2 getP (nm 2) (cst (.int 0))))) (tstB (op2 (bop neB) (op2 getP (nm 3) (cst (.int 2))) (op2 getP (nm 2) (cst (.int 2)))))) (parS [3, 4] [callF F_put_in_box [nm 3, nm 0], op2 addP (nm 4) (cst (.int 1))]) 100000) (retS (tupD [nm 4, nm 3])))))
def F_round_in : FN := mkF 5 [true] B_round_in
def B_box_round : SS := seqS (asgS 2 (callF F_sure_sides [nm 0])) (retS (op2 getP (callF F_round_in [callF F_behind_in [callF F_start_in [nm 2], callF F_sure_steps [nm 2, nm 1]]]) (cst (.int 0))))
def F_box_round : FN := mkF 3 [true, true] B_box_round
def B_box_drift : SS := seqS (asgS 2 (callF F_sure_sides [nm 0])) (retS (op2 getP (op2 getP (callF F_round_in [callF F_behind_in [callF F_start_in [nm 2], callF F_sure_steps [nm 2, nm 1]]]) (cst (.int 1))) (cst (.int 1))))
def F_box_drift : FN := mkF 3 [true, true] B_box_drift
def B_box_repeated : SS := seqS (asgS 3 (callF F_sure_sides [nm 0])) (seqS (asgS 4 (callF F_sure_steps [nm 3, nm 1])) (seqS (ifS (tOrS (tNotS (tst (callF F_is_number [nm 2]))) (tstB (op2 (bop ltB) (nm 2) (cst (.int 0))))) (raiseS "Unfit") (skipS)) (seqS (asgS 5 (callF F_behind_in [callF F_start_in [nm 3], nm 4])) (seqS (asgG (gT [gN 6, gN 7]) (callF F_round_in [nm 5])) (seqS (asgS 8 (callF F_start_in [nm 3])) (seqS (forS (srcR [op2 modP (nm 2) (nm 6)]) (gN 9) (asgS 8 (callF F_put_in_box [nm 8, nm 5]))) (seqS (asgS 10 (op2 fdivP (nm 2) (nm 6))) (seqS (asgS 11 (compS (srcZ (op2 getP (nm 8) (cst (.int 1))) (op2 getP (nm 7) (cst (.int 1)))) (gT [gN 12, gN 13]) (ret true) (callF F_shifted [nm 12, nm 13, nm 10]) [12, 13])) (retS (tupD [op2 getP (nm 8) (cst (.int 0)), opN tupleP [nm 11], op2 getP (nm 8) (cst (.int 2))]))))))))))
def F_box_repeated : FN := mkF 14 [true, true, true] B_box_repeated
def B__law_crate : SS := seqS (asgS 2 (callF F__law_take [nm 0, cst (.int 4)])) (seqS (ifS (tstB (op2 (bop eqB) (nm 2) (cst (.int 0)))) (retS (op2 mulP (tupD [op2 addP (cst (.int 1)) (callF F__law_take [nm 0, cst (.int 4)])]) (nm 1))) (skipS)) (seqS (asgS 3 (compS (srcR [nm 1]) (gN 4) (ret true) (op2 addP (cst (.int 1)) (callF F__law_take [nm 0, ifE (tstB (op2 (bop eqB) (nm 2) (cst (.int 1)))) (cst (.int 6)) (cst (.int 3))])) [4])) (seqS (ifS (tstB (op2 (bop eqB) (nm 2) (cst (.int 3)))) (asgG (gL putO 3 (callF F__law_take [nm 0, nm 1])) (op2 addP (cst (.int 1)) (callF F__law_take [nm 0, cst (.int 1000)]))) (skipS)) (retS (opN tupleP [nm 3])))))
def F__law_crate : FN := mkF 5 [true, true] B__law_crate
def B__law_mean : SS := retS (opN tupleP [compS (srcE (op2 getP (nm 1) (cst (.int 1)))) (gN 4) (ret true) (opN sumP [compS (srcZ (nm 4) (nm 0)) (gT [gN 2, gN 3]) (ret true) (op2 mulP (nm 2) (nm 3)) [2, 3]]) [4]])
def F__law_mean : FN := mkF 5 [true, true] B__law_mean
def B__law_again : SS := seqS (parS [2, 3, 4] [callF F__law_first [opN lenP [op2 getP (nm 0) (cst (.int 0))]], nm 0, nm 1]) (seqS (whileL (tstB (op2 (bop gtB) (nm 4) (cst (.int 0)))) (seqS (asgS 2 (ifE (tstB (op2 (bop eqB) (op2 modP (nm 4) (cst (.int 2))) (cst (.int 1)))) (callF F__law_beside [nm 2, nm 3]) (nm 2))) (parS [3, 4] [callF F__law_beside [nm 3, nm 3], op2 fdivP (nm 4) (cst (.int 2))])) 100000) (retS (nm 2)))
def F__law_again : FN := mkF 5 [true, true] B__law_again
def B_turn_bars_in : SS := seqS (parS [1, 2] [op2 getP (nm 0) (cst (.int 0)), op2 getP (nm 0) (cst (.int 1))]) (seqS (asgS 3 (op2 subP (opN lenP [nm 1]) (cst (.int 1)))) (seqS (asgS 4 (ifE (tstB (op2 (bop neB) (op2 getP (nm 1) (nm 3)) (nm 3))) (lstD [tupD [cst (.str "stands")]]) (lstD []))) (seqS (exprS (mLs extO 4 [compS (srcN (nm 2)) (gT [gN 5, gN 6]) (tstB (op2 (bop neB) (op2 getP (nm 6) (nm 3)) (cst (.int 0)))) (tupD [cst (.str "number"), nm 5]) [5, 6]])) (retS (ifE (tstB (op2 (bop neB) (nm 4) (lstD []))) (nm 4) (callF F_bars_in_box [nm 0]))))))
def F_turn_bars_in : FN := mkF 7 [true] B_turn_bars_in
def B_can_turn_box : SS := retS (op2 (bop eqB) (callF F_turn_bars_in [callF F_sure_place [nm 0]]) (lstD []))
def F_can_turn_box : FN := mkF 1 [true] B_can_turn_box
def B_greatest_in : SS := seqS (asgS 1 (cst (.int 0))) (seqS (forS (srcE (nm 0)) (gN 2) (whileL (tstB (op2 (bop neB) (nm 2) (cst (.int 0)))) (parS [1, 2] [nm 2, op2 modP (nm 1) (nm 2)]) 100000)) (retS (nm 1)))
def F_greatest_in : FN := mkF 3 [true] B_greatest_in
def B_two_mixed : SS := seqS (parS [2, 3] [tupD [cst (.int 1), cst (.int 0), nm 0], tupD [cst (.int 0), cst (.int 1), nm 1]]) (seqS (whileL (tstB (op2 (bop neB) (op2 getP (nm 3) (cst (.int 2))) (cst (.int 0)))) (seqS (asgS 4 (op2 fdivP (op2 getP (nm 2) (cst (.int 2))) (op2 getP (nm 3) (cst (.int 2))))) (parS [2, 3] [nm 3, opN tupleP [compS (srcZ (nm 2) (nm 3)) (gT [gN 5, gN 6]) (ret true) (op2 subP (nm 5) (op2 mulP (nm 4) (nm 6))) [5, 6]]])) 100000) (retS (tupD [op2 getP (nm 2) (cst (.int 0)), op2 getP (nm 2) (cst (.int 1))])))
def F_two_mixed : FN := mkF 7 [true, true] B_two_mixed
def B_mixed_in : SS := seqS (parS [1, 2] [lstD [], cst (.int 0)]) (seqS (forS (srcE (nm 0)) (gN 3) (seqS (asgG (gT [gN 4, gN 5]) (callF F_two_mixed [nm 2, nm 3])) (seqS (asgS 1 (op2 addP (compS (srcE (nm 1)) (gN 6) (ret true) (op2 mulP (nm 4) (nm 6)) [6]) (lstD [nm 5]))) (asgS 2 (op2 addP (op2 mulP (nm 4) (nm 2)) (op2 mulP (nm 5) (nm 3))))))) (retS (nm 1)))
def F_mixed_in : FN := mkF 7 [true] B_mixed_in
def B_odd_lengths : SS := retS (opN sumP [compS (srcN (nm 0)) (gT [gN 3, gN 4]) (tst (callF F_odd_at [nm 1, nm 2, nm 3])) (nm 4) [3, 4]])
def F_odd_lengths : FN := mkF 5 [true, true, true] B_odd_lengths
def B_rest_of : SS := seqS (parS [3, 4] [op2 subP (opN lenP [nm 0]) (cst (.int 1)), lstD []]) (seqS (forS (srcR [opN lenP [nm 0]]) (gN 5) (seqS (asgS 6 (andE (op2 (bop neB) (nm 5) (nm 3)) (op2 (bop neB) (op2 getP (nm 1) (nm 5)) (nm 5)))) (exprS (mLs appO 4 [op2 modP (op2 addP (opN intP [op2 (bop eqB) (op2 getP (nm 2) (nm 5)) (op1 negP (cst (.int 1)))]) (opN intP [nm 6])) (cst (.int 2))])))) (retS (nm 4)))
def F_rest_of : FN := mkF 7 [true, true, true] B_rest_of
def B_product_of : SS := seqS (asgS 1 (cst (.int 1))) (seqS (forS (srcE (nm 0)) (gN 2) (asgS 1 (op2 mulP (nm 1) (nm 2)))) (retS (nm 1)))
def F_product_of : FN := mkF 3 [true] B_product_of
def B_sum_in : SS := seqS (asgS 5 (compS (srcN (nm 3)) (gT [gN 6, gN 7]) (ret true) (op2 fdivP (op2 subP (nm 7) (callF F_odd_lengths [nm 0, nm 1, nm 6])) (cst (.int 2))) [6, 7])) (seqS (asgS 8 (callF F_rest_of [nm 0, nm 1, nm 2])) (retS (op2 subP (opN sumP [nm 5]) (opN sumP [compS (srcE (nm 4)) (gN 9) (ret true) (op2 mulP (op2 getP (nm 0) (nm 9)) (op2 getP (nm 8) (nm 9))) [9]]))))
def F_sum_in : FN := mkF 10 [true, true, true, true, true] B_sum_in
def B_there_bars_in : SS := seqS (ifS (tstB (op2 (bop neB) (callF F_product_of [nm 2]) (callF F_sign_of [nm 1]))) (retS (lstD [tupD [cst (.str "sign")]])) (skipS)) (seqS (asgS 5 (op2 mulP (cst (.int 2)) (callF F_greatest_in [compS (srcE (nm 4)) (gN 6) (ret true) (op2 getP (nm 0) (nm 6)) [6]]))) (seqS (asgS 7 (compS (srcN (nm 3)) (gT [gN 8, gN 9]) (tstB (op2 (bop neB) (op2 modP (op2 subP (nm 9) (callF F_odd_lengths [nm 0, nm 1, nm 8])) (nm 5)) (cst (.int 0)))) (tupD [cst (.str "axis"), nm 8]) [8, 9])) (seqS (ifS (tAndS (tstB (op2 (bop eqB) (nm 7) (lstD []))) (tstB (op2 (bop neB) (op2 modP (callF F_sum_in [nm 0, nm 1, nm 2, nm 3, nm 4]) (nm 5)) (cst (.int 0))))) (retS (lstD [tupD [cst (.str "sum")]])) (skipS)) (retS (nm 7)))))
def F_there_bars_in : FN := mkF 10 [true, true, true, true, true] B_there_bars_in
def B_all_sides : SS := retS (opN (rgP false) [opN lenP [nm 0]])
def F_all_sides : FN := mkF 1 [true] B_all_sides
def B_tip_bars : SS := retS (callF F_there_bars_in [nm 0, nm 1, nm 2, nm 3, callF F_all_sides [nm 0]])
def F_tip_bars : FN := mkF 4 [true, true, true, true] B_tip_bars
def B_turn_bars : SS := seqS (asgS 4 (op2 subP (opN lenP [nm 0]) (cst (.int 1)))) (seqS (ifS (tOrS (tstB (op2 (bop neB) (op2 getP (nm 1) (nm 4)) (nm 4))) (tstB (op2 (bop neB) (op2 getP (nm 2) (nm 4)) (cst (.int 1))))) (retS (lstD [tupD [cst (.str "stands")]])) (skipS)) (retS (callF F_there_bars_in [nm 0, nm 1, nm 2, nm 3, opN (rgP false) [nm 4]])))
def F_turn_bars : FN := mkF 5 [true, true, true, true] B_turn_bars
def B_numbers_by : SS := seqS (asgS 3 (compS (srcE (nm 1)) (gN 4) (ret true) (op2 getP (nm 0) (nm 4)) [4])) (seqS (parS [5, 6] [op2 fdivP (nm 2) (callF F_greatest_in [nm 3]), op2 mulP (lstD [cst (.int 0)]) (opN lenP [nm 0])]) (seqS (forS (srcZ (nm 1) (callF F_mixed_in [nm 3])) (gT [gN 4, gN 7]) (asgG (gL putO 6 (nm 4)) (op2 mulP (nm 7) (nm 5)))) (retS (nm 6))))
def F_numbers_by : FN := mkF 8 [true, true, true] B_numbers_by
def B_place_by : SS := seqS (asgS 5 (compS (srcN (nm 3)) (gT [gN 6, gN 7]) (ret true) (op2 fdivP (op2 subP (nm 7) (callF F_odd_lengths [nm 0, nm 1, nm 6])) (cst (.int 2))) [6, 7])) (seqS (parS [8, 9] [callF F_rest_of [nm 0, nm 1, nm 2], lstD []]) (seqS (forS (srcE (slE (nm 5) (noP) (prtP (op1 negP (cst (.int 1)))))) (gN 10) (seqS (exprS (mLs appO 9 [callF F_numbers_by [nm 0, nm 4, nm 10]])) (asgS 8 (compS (srcZ (nm 8) (op2 getP (nm 9) (op1 negP (cst (.int 1))))) (gT [gN 7, gN 11]) (ret true) (op2 modP (op2 subP (nm 7) (nm 11)) (cst (.int 2))) [7, 11])))) (seqS (asgS 12 (op2 subP (op2 getP (nm 5) (op1 negP (cst (.int 1)))) (opN sumP [compS (srcZ (nm 0) (nm 8)) (gT [gN 13, gN 7]) (ret true) (op2 mulP (nm 13) (nm 7)) [13, 7]]))) (seqS (asgS 14 (callF F_numbers_by [nm 0, nm 4, op2 fdivP (nm 12) (cst (.int 2))])) (seqS (exprS (mLs appO 9 [compS (srcZ (nm 8) (nm 14)) (gT [gN 7, gN 11]) (ret true) (op2 addP (nm 7) (op2 mulP (cst (.int 2)) (nm 11))) [7, 11]])) (seqS (asgS 15 (lstD [])) (seqS (forS (srcN (nm 9)) (gT [gN 6, gN 16]) (exprS (mLs appO 15 [opN tupleP [compS (srcN (nm 16)) (gT [gN 17, gN 7]) (ret true) (op2 addP (op2 mulP (cst (.int 2)) (nm 7)) (opN intP [callF F_odd_at [nm 1, nm 6, nm 17]])) [17, 7]]]))) (retS (tupD [nm 1, opN tupleP [nm 15], nm 2])))))))))
def F_place_by : FN := mkF 18 [true, true, true, true, true] B_place_by
def B_both_signs : SS := seqS (asgS 1 (lstD [])) (seqS (forS (srcE (nm 0)) (gN 2) (exprS (mLs extO 1 [lstD [tupD [nm 2, op1 negP (cst (.int 1))], tupD [nm 2, cst (.int 1)]]]))) (retS (nm 1)))
def F_both_signs : FN := mkF 3 [true] B_both_signs
def B_all_signs : SS := seqS (asgS 1 (lstD [tupD []])) (seqS (forS (srcR [nm 0]) (gN 2) (asgS 1 (compS (srcE (callF F_both_signs [nm 1])) (gT [gN 3, gN 4]) (ret true) (op2 addP (nm 3) (tupD [nm 4])) [3, 4]))) (retS (nm 1)))
def F_all_signs : FN := mkF 5 [true] B_all_signs
def B_sure_goal : SS := seqS (parS [3, 4, 5] [callF F_sure_box [nm 0], callF (F_tupled 12) [nm 1], callF (F_tupled 12) [nm 2]]) (seqS (ifS (tOrS (tNotS (tst (callF F_are_numbers [nm 4]))) (tstB (op2 (bop neB) (opN sortedP [nm 4]) (opN (rgP false) [opN lenP [nm 3]])))) (raiseS "Unfit") (skipS)) (seqS (ifS (tOrS (tNotS (tst (callF F_is_long [nm 5, op2 subP (opN lenP [nm 3]) (cst (.int 1))]))) (tNotS (tst (callF F_are_numbers [nm 5])))) (raiseS "Unfit") (skipS)) (retS (tupD [nm 3, nm 4, nm 5]))))
def F_sure_goal : FN := mkF 6 [true, true, true] B_sure_goal
def B_sure_signed : SS := seqS (parS [4, 5] [callF F_sure_box [nm 0], callF (F_tupled 12) [nm 1]]) (seqS (ifS (tOrS (tNotS (tst (callF F_are_numbers [nm 5]))) (tstB (op2 (bop neB) (opN sortedP [nm 5]) (opN (rgP false) [opN lenP [nm 4]])))) (raiseS "Unfit") (skipS)) (seqS (asgS 6 (callF (F_tupled 12) [nm 2])) (seqS (ifS (tOrS (tNotS (tst (callF F_is_long [nm 6, opN lenP [nm 4]]))) (tNotS (tst (callF F_are_signs [nm 6])))) (raiseS "Unfit") (skipS)) (retS (tupD [nm 4, nm 5, nm 6, op2 getP (callF F_sure_goal [nm 4, nm 5, nm 3]) (cst (.int 2))])))))
def F_sure_signed : FN := mkF 7 [true, true, true, true] B_sure_signed
def B_is_there_in : SS := seqS (ifS (tOrS (tNotS (tst (callF F_is_place_in [nm 4]))) (tOrS (tstB (op2 (bop neB) (op2 getP (nm 4) (cst (.int 0))) (nm 1))) (tstB (op2 (bop neB) (op2 getP (nm 4) (cst (.int 2))) (nm 2))))) (retS (cst (.bl false))) (skipS)) (retS (op2 (bop eqB) (callF F_middle_in [nm 0, nm 4]) (nm 3)))
def F_is_there_in : FN := mkF 5 [true, true, true, true, true] B_is_there_in
def B_box_spacing : SS := retS (callF F_greatest_in [callF F_sure_box [nm 0]])
def F_box_spacing : FN := mkF 1 [true] B_box_spacing
def B_box_there : SS := seqS (asgG (gT [gN 4, gN 5, gN 6, gN 7]) (callF F_sure_signed [nm 0, nm 1, nm 2, nm 3])) (retS (op2 (bop eqB) (callF F_tip_bars [nm 4, nm 5, nm 6, nm 7]) (lstD [])))
def F_box_there : FN := mkF 8 [true, true, true, true] B_box_there
def B_there_bars : SS := seqS (asgG (gT [gN 4, gN 5, gN 6, gN 7]) (callF F_sure_signed [nm 0, nm 1, nm 2, nm 3])) (retS (opN tupleP [opN sortedP [callF F_tip_bars [nm 4, nm 5, nm 6, nm 7]]]))
def F_there_bars : FN := mkF 8 [true, true, true, true] B_there_bars
def B_place_there : SS := seqS (asgG (gT [gN 4, gN 5, gN 6, gN 7]) (callF F_sure_signed [nm 0, nm 1, nm 2, nm 3])) (seqS (ifS (tstB (op2 (bop neB) (callF F_tip_bars [nm 4, nm 5, nm 6, nm 7]) (lstD []))) (raiseS "CanNot") (skipS)) (retS (callF F_place_by [nm 4, nm 5, nm 6, nm 7, callF F_all_sides [nm 4]])))
def F_place_there : FN := mkF 8 [true, true, true, true] B_place_there
def B_is_place_there : SS := seqS (asgG (gT [gN 5, gN 6, gN 7, gN 8]) (callF F_sure_signed [nm 0, nm 1, nm 2, nm 3])) (retS (andE (callF F_is_there_in [nm 5, nm 6, nm 7, nm 8, nm 4]) (op2 (bop eqB) (callF F_bars_in_box [nm 4]) (lstD []))))
def F_is_place_there : FN := mkF 9 [true, true, true, true, true] B_is_place_there
def B_signs_there : SS := seqS (asgG (gT [gN 3, gN 4, gN 5]) (callF F_sure_goal [nm 0, nm 1, nm 2])) (retS (compS (srcE (callF F_all_signs [opN lenP [nm 3]])) (gN 6) (tstB (op2 (bop eqB) (callF F_tip_bars [nm 3, nm 4, nm 6, nm 5]) (lstD []))) (nm 6) [6]))
def F_signs_there : FN := mkF 7 [true, true, true] B_signs_there
def B_box_turned_there : SS := seqS (asgG (gT [gN 4, gN 5, gN 6, gN 7]) (callF F_sure_signed [nm 0, nm 1, nm 2, nm 3])) (retS (op2 (bop eqB) (callF F_turn_bars [nm 4, nm 5, nm 6, nm 7]) (lstD [])))
def F_box_turned_there : FN := mkF 8 [true, true, true, true] B_box_turned_there
def B_turn_place_there : SS := seqS (asgG (gT [gN 4, gN 5, gN 6, gN 7]) (callF F_sure_signed [nm 0, nm 1, nm 2, nm 3])) (seqS (ifS (tstB (op2 (bop neB) (callF F_turn_bars [nm 4, nm 5, nm 6, nm 7]) (lstD []))) (raiseS "CanNot") (skipS)) (retS (callF F_place_by [nm 4, nm 5, nm 6, nm 7, opN (rgP false) [op2 subP (opN lenP [nm 4]) (cst (.int 1))]])))
def F_turn_place_there : FN := mkF 8 [true, true, true, true] B_turn_place_there
def B__law_turn_barred : SS := seqS (parS [1, 2] [lstD [], op2 subP (opN lenP [op2 getP (nm 0) (cst (.int 0))]) (cst (.int 1))]) (seqS (forS (srcN (op2 getP (nm 0) (cst (.int 1)))) (gT [gN 3, gN 4]) (ifS (tstB (op2 (bop neB) (op2 getP (nm 4) (nm 2)) (cst (.int 0)))) (exprS (mLs appO 1 [tupD [cst (.str "number"), nm 3]])) (skipS))) (seqS (ifS (tstB (op2 (bop neB) (op2 getP (op2 getP (nm 0) (cst (.int 0))) (op1 negP (cst (.int 1)))) (nm 2))) (exprS (mLs appO 1 [tupD [cst (.str "stands")]])) (skipS)) (retS (ifE (tstB (op2 (bop neB) (nm 1) (lstD []))) (nm 1) (callF F__law_barred [nm 0])))))
def F__law_turn_barred : FN := mkF 5 [true] B__law_turn_barred
def B__law_gcd : SS := seqS (asgS 1 (cst (.int 0))) (seqS (forS (srcE (nm 0)) (gN 2) (seqS (parS [3, 4] [nm 1, nm 2]) (seqS (whileL (tstB (op2 (bop gtB) (nm 4) (cst (.int 0)))) (parS [3, 4] [nm 4, op2 modP (nm 3) (nm 4)]) 100000) (asgS 1 (nm 3))))) (retS (nm 1)))
def F__law_gcd : FN := mkF 5 [true] B__law_gcd
def B_ascends : SS := retS (opN allP [compS (srcR [op2 subP (opN lenP [nm 0]) (cst (.int 1))]) (gN 1) (ret true) (op2 (bop ltB) (op2 getP (nm 0) (nm 1)) (op2 getP (nm 0) (op2 addP (nm 1) (cst (.int 1))))) [1]])
def F_ascends : FN := mkF 2 [true] B_ascends
def B_are_row_numbers : SS := retS (andE (callF F_are_numbers [nm 0]) (andE (op2 (bop geB) (opN lenP [nm 0]) (cst (.int 3))) (op2 (bop eqB) (op2 modP (opN sumP [nm 0]) (cst (.int 2))) (cst (.int 0)))))
def F_are_row_numbers : FN := mkF 1 [true] B_are_row_numbers
def B_sure_numbers : SS := seqS (asgS 1 (callF (F_tupled 12) [nm 0])) (seqS (ifS (tNotS (tst (callF F_are_row_numbers [nm 1]))) (raiseS "Unfit") (skipS)) (retS (nm 1)))
def F_sure_numbers : FN := mkF 2 [true] B_sure_numbers
def B_aboves_of : SS := retS (compS (srcE (nm 0)) (gN 1) (ret true) (opN maxP [cst (.int 0), nm 1]) [1])
def F_aboves_of : FN := mkF 2 [true] B_aboves_of
def B_belows_of : SS := retS (compS (srcE (nm 0)) (gN 1) (ret true) (opN maxP [cst (.int 0), op2 subP (cst (.int 0)) (nm 1)]) [1])
def F_belows_of : FN := mkF 2 [true] B_belows_of
def B_more_in : SS := seqS (parS [1, 2] [callF F_aboves_of [nm 0], callF F_belows_of [nm 0]]) (retS (opN maxP [op2 subP (op2 mulP (cst (.int 2)) (opN maxP [nm 1])) (opN sumP [nm 1]), op2 subP (op2 mulP (cst (.int 2)) (opN maxP [nm 2])) (opN sumP [nm 2]), op2 modP (opN sumP [nm 1]) (cst (.int 2))]))
def F_more_in : FN := mkF 3 [true] B_more_in
def B_fewest_in : SS := retS (op2 addP (op2 fdivP (opN sumP [compS (srcE (nm 0)) (gN 1) (ret true) (opN absP [nm 1]) [1]]) (cst (.int 2))) (callF F_more_in [nm 0]))
def F_fewest_in : FN := mkF 2 [true] B_fewest_in
def B_filled : SS := seqS (asgS 1 (callF F_more_in [nm 0])) (seqS (parS [2, 3] [callF F_aboves_of [nm 0], callF F_belows_of [nm 0]]) (seqS (asgS 4 (tupD [op2 fdivP (op2 addP (opN sumP [nm 2]) (nm 1)) (cst (.int 2)), op2 fdivP (op2 addP (opN sumP [nm 3]) (nm 1)) (cst (.int 2))])) (seqS (asgS 5 (lstD [])) (seqS (forS (srcZ (nm 2) (nm 3)) (gT [gN 6, gN 7]) (seqS (asgS 8 (opN minP [nm 1, op2 subP (op2 getP (nm 4) (cst (.int 0))) (nm 6), op2 subP (op2 getP (nm 4) (cst (.int 1))) (nm 7)])) (seqS (exprS (mLs appO 5 [nm 8])) (asgS 1 (op2 subP (nm 1) (nm 8)))))) (retS (nm 5))))))
def F_filled : FN := mkF 9 [true] B_filled
def B_paired : SS := seqS (parS [1, 2, 3] [op2 fdivP (opN sumP [nm 0]) (cst (.int 2)), lstD [], cst (.int 0)]) (seqS (forS (srcN (nm 0)) (gT [gN 4, gN 5]) (seqS (exprS (mLs appO 2 [tupD [nm 4, nm 3, op2 addP (nm 3) (nm 5)]])) (asgS 3 (op2 addP (nm 3) (nm 5))))) (seqS (asgS 6 (ret (.v (.dc [])))) (seqS (forS (srcE (nm 2)) (gT [gN 7, gN 8, gN 9]) (forS (srcE (nm 2)) (gT [gN 10, gN 11, gN 12]) (seqS (asgS 13 (op2 subP (opN minP [nm 9, op2 subP (nm 12) (nm 1)]) (opN maxP [nm 8, op2 subP (nm 11) (nm 1), cst (.int 0)]))) (ifS (tstB (op2 (bop gtB) (nm 13) (cst (.int 0)))) (seqS (asgS 14 (tupD [opN minP [nm 7, nm 10], opN maxP [nm 7, nm 10]])) (asgG (gL putO 6 (nm 14)) (op2 addP (opM isDic dgetO (nm 6) [nm 14, cst (.int 0)]) (nm 13)))) (skipS))))) (retS (compS (srcE (opN sortedP [nm 6])) (gT [gN 7, gN 10]) (ret true) (tupD [nm 7, nm 10, op2 getP (nm 6) (tupD [nm 7, nm 10])]) [7, 10])))))
def F_paired : FN := mkF 15 [true] B_paired
def B_pairs_in : SS := seqS (asgS 1 (callF F_filled [nm 0])) (seqS (asgS 2 (compS (srcZ (callF F_aboves_of [nm 0]) (nm 1)) (gT [gN 3, gN 4]) (ret true) (op2 addP (nm 3) (nm 4)) [3, 4])) (seqS (asgS 5 (compS (srcZ (callF F_belows_of [nm 0]) (nm 1)) (gT [gN 3, gN 4]) (ret true) (op2 addP (nm 3) (nm 4)) [3, 4])) (retS (opN sortedP [op2 addP (callF F_paired [nm 2]) (compS (srcE (callF F_paired [nm 5])) (gT [gN 6, gN 7, gN 8]) (ret true) (tupD [nm 6, nm 7, op2 subP (cst (.int 0)) (nm 8)]) [6, 7, 8])]))))
def F_pairs_in : FN := mkF 9 [true] B_pairs_in
def B_come_to : SS := seqS (asgS 2 (op2 mulP (lstD [cst (.int 0)]) (nm 0))) (seqS (forS (srcE (nm 1)) (gT [gN 3, gN 4, gN 5]) (seqS (asgG (gL putO 2 (nm 3)) (op2 addP (op2 getP (nm 2) (nm 3)) (nm 5))) (asgG (gL putO 2 (nm 4)) (op2 addP (op2 getP (nm 2) (nm 4)) (nm 5))))) (retS (opN tupleP [nm 2])))
def F_come_to : FN := mkF 6 [true, true] B_come_to
def B_is_plan_in : SS := seqS (ifS (tOrS (tNotS (tst (op1 (isiP [.tup]) (nm 1)))) (tNotS (tst (opN allP [compS (srcE (nm 1)) (gN 2) (ret true) (andE (callF F_is_long [nm 2, cst (.int 3)]) (callF F_are_numbers [nm 2])) [2]])))) (retS (cst (.bl false))) (skipS)) (seqS (ifS (tNotS (tst (callF F_ascends [compS (srcE (nm 1)) (gN 2) (ret true) (slE (nm 2) (noP) (prtP (cst (.int 2)))) [2]]))) (retS (cst (.bl false))) (skipS)) (retS (opN allP [compS (srcE (nm 1)) (gN 2) (ret true) (andE (chE3 leB ltB ltB (cst (.int 0)) (op2 getP (nm 2) (cst (.int 0))) (op2 getP (nm 2) (cst (.int 1))) (nm 0)) (op2 (bop neB) (op2 getP (nm 2) (cst (.int 2))) (cst (.int 0)))) [2]])))
def F_is_plan_in : FN := mkF 3 [true, true] B_is_plan_in
def B_are_weights_in : SS := seqS (ifS (tOrS (tNotS (tst (callF F_are_numbers [nm 0]))) (tstB (op2 (bop neB) (opN lenP [nm 0]) (nm 1)))) (retS (cst (.bl false))) (skipS)) (seqS (forS (srcN (nm 0)) (gT [gN 2, gN 3]) (ifS (tNotS (tst (opN allP [compS (srcE (slE (nm 0) (noP) (prtP (nm 2)))) (gN 4) (ret true) (chE leB leB (op1 negP (cst (.int 2))) (op2 addP (nm 3) (nm 4)) (cst (.int 2))) [4]]))) (retS (cst (.bl false))) (skipS))) (retS (cst (.bl true))))
def F_are_weights_in : FN := mkF 5 [true, true] B_are_weights_in
def B_shown_by_weights : SS := seqS (asgS 2 (opN sumP [compS (srcZ (nm 0) (nm 1)) (gT [gN 3, gN 4]) (ret true) (op2 mulP (nm 3) (nm 4)) [3, 4]])) (seqS (asgS 5 (op2 fdivP (opN sumP [nm 0]) (cst (.int 2)))) (seqS (asgS 6 (opN maxP [cst (.int 0), op2 fdivP (op2 addP (nm 2) (cst (.int 1))) (cst (.int 2))])) (retS (op2 addP (nm 6) (op2 modP (op2 subP (nm 6) (nm 5)) (cst (.int 2)))))))
def F_shown_by_weights : FN := mkF 7 [true, true] B_shown_by_weights
def B_weights_in : SS := seqS (parS [1, 2, 3] [callF F_aboves_of [nm 0], callF F_belows_of [nm 0], callF F_more_in [nm 0]]) (seqS (ifS (tAndS (tstB (op2 (bop gtB) (nm 3) (cst (.int 0)))) (tstB (op2 (bop eqB) (nm 3) (op2 subP (op2 mulP (cst (.int 2)) (opN maxP [nm 1])) (opN sumP [nm 1]))))) (retS (opN tupleP [compS (srcR [opN lenP [nm 0]]) (gN 4) (ret true) (ifE (tstB (op2 (bop eqB) (nm 4) (opM isLst indexO (nm 1) [opN maxP [nm 1]]))) (cst (.int 3)) (op1 negP (cst (.int 1)))) [4]])) (skipS)) (seqS (ifS (tAndS (tstB (op2 (bop gtB) (nm 3) (cst (.int 0)))) (tstB (op2 (bop eqB) (nm 3) (op2 subP (op2 mulP (cst (.int 2)) (opN maxP [nm 2])) (opN sumP [nm 2]))))) (retS (opN tupleP [compS (srcR [opN lenP [nm 0]]) (gN 4) (ret true) (ifE (tstB (op2 (bop eqB) (nm 4) (opM isLst indexO (nm 2) [opN maxP [nm 2]]))) (op1 negP (cst (.int 3))) (cst (.int 1))) [4]])) (skipS)) (retS (opN tupleP [compS (srcE (nm 0)) (gN 5) (ret true) (op2 subP (opN intP [op2 (bop gtB) (nm 5) (cst (.int 0))]) (opN intP [op2 (bop ltB) (nm 5) (cst (.int 0))])) [5]]))))
def F_weights_in : FN := mkF 6 [true] B_weights_in
def B_fewest_pairs : SS := retS (callF F_fewest_in [callF F_sure_numbers [nm 0]])
def F_fewest_pairs : FN := mkF 1 [true] B_fewest_pairs
def B_pairs_come_to : SS := seqS (ifS (tOrS (tNotS (tst (callF F_is_number [nm 0]))) (tstB (op2 (bop ltB) (nm 0) (cst (.int 3))))) (raiseS "Unfit") (skipS)) (seqS (asgS 2 (callF (F_tupled 12) [nm 1])) (seqS (ifS (tNotS (tst (callF F_is_plan_in [nm 0, nm 2]))) (raiseS "Unfit") (skipS)) (retS (callF F_come_to [nm 0, nm 2]))))
def F_pairs_come_to : FN := mkF 3 [true, true] B_pairs_come_to
def B_pair_plan : SS := retS (opN tupleP [callF F_pairs_in [callF F_sure_numbers [nm 0]]])
def F_pair_plan : FN := mkF 1 [true] B_pair_plan
def B_is_pair_plan : SS := seqS (asgS 2 (callF F_sure_numbers [nm 0])) (retS (andE (callF F_is_plan_in [opN lenP [nm 2], nm 1]) (op2 (bop eqB) (callF F_come_to [opN lenP [nm 2], nm 1]) (nm 2))))
def F_is_pair_plan : FN := mkF 3 [true, true] B_is_pair_plan
def B_pair_weights : SS := retS (callF F_weights_in [callF F_sure_numbers [nm 0]])
def F_pair_weights : FN := mkF 1 [true] B_pair_weights
def B_are_weights : SS := seqS (ifS (tOrS (tNotS (tst (callF F_is_number [nm 0]))) (tstB (op2 (bop ltB) (nm 0) (cst (.int 3))))) (raiseS "Unfit") (skipS)) (retS (callF F_are_weights_in [nm 1, nm 0]))
def F_are_weights : FN := mkF 2 [true, true] B_are_weights
def B_pairs_shown : SS := seqS (parS [2, 3] [callF F_sure_numbers [nm 0], callF (F_tupled 12) [nm 1]]) (seqS (ifS (tNotS (tst (callF F_are_weights_in [nm 3, opN lenP [nm 2]]))) (raiseS "Unfit") (skipS)) (retS (callF F_shown_by_weights [nm 2, nm 3])))
def F_pairs_shown : FN := mkF 4 [true, true] B_pairs_shown
def B__law_fewest_by : SS := seqS (parS [1, 2] [compS (srcE (nm 0)) (gN 3) (tstB (op2 (bop gtB) (nm 3) (cst (.int 0)))) (nm 3) [3], compS (srcE (nm 0)) (gN 3) (tstB (op2 (bop ltB) (nm 3) (cst (.int 0)))) (op2 subP (cst (.int 0)) (nm 3)) [3]]) (seqS (asgS 4 (lstD [cst (.int 0), op2 modP (opN sumP [nm 1]) (cst (.int 2))])) (seqS (forS (srcE (tupD [nm 1, nm 2])) (gN 5) (ifS (tstB (op2 (bop neB) (nm 5) (lstD []))) (exprS (mLs appO 4 [op2 subP (op2 mulP (cst (.int 2)) (opN maxP [nm 5])) (opN sumP [nm 5])])) (skipS))) (retS (op2 fdivP (op2 addP (op2 addP (opN sumP [nm 1]) (opN sumP [nm 2])) (op2 mulP (cst (.int 2)) (opN maxP [nm 4]))) (cst (.int 2))))))
def F__law_fewest_by : FN := mkF 6 [true] B__law_fewest_by
def B__law_size : SS := retS (opN sumP [compS (srcE (nm 0)) (gT [gN 1, gN 2, gN 3]) (ret true) (opN absP [nm 3]) [1, 2, 3]])
def F__law_size : FN := mkF 4 [true] B__law_size
def B__law_pairs_of : SS := seqS (asgS 1 (lstD [])) (seqS (forS (srcR [nm 0]) (gN 2) (asgS 1 (op2 addP (nm 1) (compS (srcR [nm 2]) (gN 3) (ret true) (tupD [nm 3, nm 2]) [3])))) (retS (nm 1)))
def F__law_pairs_of : FN := mkF 4 [true] B__law_pairs_of
def B__law_told_so : SS := retS (ifE (tAndS (tst (op1 (isiP [.lst]) (nm 0))) (tAndS (tstB (op2 (bop neB) (nm 0) (lstD []))) (tst (op1 (isiP [.str]) (op2 getP (nm 0) (cst (.int 0))))))) (lstD [cst (.str "told")]) (nm 0))
def F__law_told_so : FN := mkF 1 [true] B__law_told_so
def B__law_signs_all : SS := seqS (asgS 1 (lstD [tupD []])) (seqS (forS (srcR [nm 0]) (gN 2) (asgS 1 (op2 addP (compS (srcE (nm 1)) (gN 3) (ret true) (op2 addP (nm 3) (tupD [op1 negP (cst (.int 1))])) [3]) (compS (srcE (nm 1)) (gN 3) (ret true) (op2 addP (nm 3) (tupD [cst (.int 1)])) [3])))) (retS (opN sortedP [nm 1])))
def F__law_signs_all : FN := mkF 4 [true] B__law_signs_all
def B__law_is_good : SS := seqS (asgS 2 (cst (.int 1))) (seqS (forS (srcE (nm 0)) (gN 3) (asgS 2 (op2 mulP (nm 2) (nm 3)))) (retS (op2 (bop eqB) (nm 2) (nm 1))))
def F__law_is_good : FN := mkF 4 [true, true] B__law_is_good
def B_is_box : SS := retS (callF F_is_box_in [nm 0])
def F_is_box : FN := mkF 1 [true] B_is_box
def B_both_in : SS := seqS (asgS 3 (callF F_start_in [nm 0])) (retS (tupD [callF F_behind_in [nm 3, nm 1], callF F_behind_in [nm 3, nm 2]]))
def F_both_in : FN := mkF 4 [true, true, true] B_both_in
def B_are_put_alike : SS := retS (andE (op2 (bop eqB) (op2 getP (nm 1) (cst (.int 0))) (op2 getP (nm 2) (cst (.int 0)))) (andE (op2 (bop eqB) (op2 getP (nm 1) (cst (.int 2))) (op2 getP (nm 2) (cst (.int 2)))) (op2 (bop eqB) (callF F_middle_in [nm 0, nm 1]) (callF F_middle_in [nm 0, nm 2]))))
def F_are_put_alike : FN := mkF 3 [true, true, true] B_are_put_alike
def B_parting_in : SS := seqS (asgS 2 (opN lenP [op2 getP (nm 0) (cst (.int 0))])) (seqS (asgS 3 (op2 mulP (tupD [cst (.int 1)]) (nm 2))) (seqS (ifS (tNotS (tst (callF F_are_put_alike [nm 3, nm 0, nm 1]))) (retS (nm 3)) (skipS)) (seqS (forS (srcZ (op2 getP (nm 0) (cst (.int 1))) (op2 getP (nm 1) (cst (.int 1)))) (gT [gN 4, gN 5]) (forS (srcR [nm 2]) (gN 6) (ifS (tstB (op2 (bop neB) (op2 getP (nm 4) (nm 6)) (op2 getP (nm 5) (nm 6)))) (retS (op2 addP (op2 addP (slE (nm 3) (noP) (prtP (nm 6))) (tupD [cst (.int 2)])) (slE (nm 3) (prtP (op2 addP (nm 6) (cst (.int 1)))) (noP)))) (skipS)))) (retS (cst .non)))))
def F_parting_in : FN := mkF 7 [true, true] B_parting_in
def B_sure_rows : SS := seqS (asgS 3 (callF F_sure_sides [nm 0])) (retS (tupD [nm 3, callF F_sure_steps [nm 3, nm 1], callF F_sure_steps [nm 3, nm 2]]))
def F_sure_rows : FN := mkF 4 [true, true, true] B_sure_rows
def B_are_box_alike : SS := seqS (asgG (gT [gN 3, gN 4, gN 5]) (callF F_sure_rows [nm 0, nm 1, nm 2])) (seqS (asgG (gT [gN 6, gN 7]) (callF F_both_in [nm 3, nm 4, nm 5])) (retS (op2 (bop eqB) (nm 6) (nm 7))))
def F_are_box_alike : FN := mkF 8 [true, true, true] B_are_box_alike
def B_box_alike_for : SS := seqS (asgS 3 (callF F_sure_box [nm 0])) (seqS (asgG (gT [gN 4, gN 5, gN 6]) (callF F_sure_rows [opN lenP [nm 3], nm 1, nm 2])) (seqS (asgG (gT [gN 7, gN 8]) (callF F_both_in [opN lenP [nm 3], nm 5, nm 6])) (retS (callF F_are_put_alike [nm 3, nm 7, nm 8]))))
def F_box_alike_for : FN := mkF 9 [true, true, true] B_box_alike_for
def B_box_parting : SS := seqS (asgG (gT [gN 3, gN 4, gN 5]) (callF F_sure_rows [nm 0, nm 1, nm 2])) (seqS (asgG (gT [gN 6, gN 7]) (callF F_both_in [nm 3, nm 4, nm 5])) (seqS (ifS (tstB (op2 (bop eqB) (nm 6) (nm 7))) (raiseS "CanNot") (skipS)) (retS (callF F_parting_in [nm 6, nm 7]))))
def F_box_parting : FN := mkF 8 [true, true, true] B_box_parting
def B_is_box_parting : SS := seqS (asgG (gT [gN 4, gN 5, gN 6]) (callF F_sure_rows [nm 0, nm 1, nm 2])) (seqS (ifS (tOrS (tNotS (tst (callF F_is_box_in [nm 3]))) (tstB (op2 (bop neB) (opN lenP [nm 3]) (nm 4)))) (retS (cst (.bl false))) (skipS)) (seqS (asgG (gT [gN 7, gN 8]) (callF F_both_in [nm 4, nm 5, nm 6])) (retS (notE (callF F_are_put_alike [nm 3, nm 7, nm 8])))))
def F_is_box_parting : FN := mkF 9 [true, true, true, true] B_is_box_parting
def B__law_four : SS := seqS (asgS 2 (callF F__law_first [nm 0])) (seqS (forS (srcE (tupD [cst (.int 1), op1 negP (cst (.int 1))])) (gN 3) (seqS (parS [4, 5] [lstD [], nm 1]) (seqS (forS (srcR [cst (.int 4)]) (gN 6) (seqS (exprS (mLs appO 4 [nm 5])) (asgS 5 (op2 addP (slE (nm 5) (noP) (prtP (cst (.int 3)))) (tupD [op2 subP (cst (.int 0)) (op2 mulP (nm 3) (op2 getP (nm 5) (cst (.int 4)))), op2 mulP (nm 3) (op2 getP (nm 5) (cst (.int 3))), op2 getP (nm 5) (cst (.int 5))]))))) (ifS (tstB (op2 (bop eqB) (callF F__law_put_all [nm 2, opN tupleP [nm 4]]) (nm 2))) (retS (opN tupleP [nm 4])) (skipS))))) (retS (tupD [])))
def F__law_four : FN := mkF 7 [true, true] B__law_four
def B__law_is_whole : SS := retS (andE (op1 (isiP [.int]) (nm 0)) (notE (op1 (isiP [.bl]) (nm 0))))
def F__law_is_whole : FN := mkF 1 [true] B__law_is_whole
def B__law_for : SS := retS (andE (op2 (bop eqB) (op2 getP (nm 1) (cst (.int 0))) (op2 getP (nm 2) (cst (.int 0)))) (andE (op2 (bop eqB) (op2 getP (nm 1) (cst (.int 2))) (op2 getP (nm 2) (cst (.int 2)))) (op2 (bop eqB) (callF F__law_mean [nm 0, nm 1]) (callF F__law_mean [nm 0, nm 2]))))
def F__law_for : FN := mkF 3 [true, true, true] B__law_for
def B__law_parts : SS := seqS (ifS (tOrS (tNotS (tst (op1 (isiP [.tup]) (nm 1)))) (tOrS (tstB (op2 (bop neB) (opN lenP [nm 1]) (nm 0))) (tstB (op2 (bop neB) (compS (srcE (nm 1)) (gN 4) (tOrS (tNotS (tst (callF F__law_is_whole [nm 4]))) (tstB (op2 (bop ltB) (nm 4) (cst (.int 1))))) (cst (.int 1)) [4]) (lstD []))))) (retS (cst (.bl false))) (skipS)) (retS (notE (callF F__law_for [nm 1, nm 2, nm 3])))
def F__law_parts : FN := mkF 5 [true, true, true, true] B__law_parts
def B__law_changed : SS := seqS (parS [3, 4] [callF F__law_take [nm 0, cst (.int 5)], callF F__law_take [nm 0, op2 addP (opN lenP [nm 2]) (cst (.int 1))]]) (seqS (asgG (gT [gN 5, gN 6]) (callF F__law_pick [nm 0, opN (rgP false) [op2 subP (nm 1) (cst (.int 1))], cst (.int 2)])) (seqS (parS [7, 8] [tupD [cst (.str "tip"), nm 5, op2 subP (cst (.int 1)) (op2 mulP (cst (.int 2)) (callF F__law_take [nm 0, cst (.int 2)]))], tupD [cst (.str "tip"), nm 6, op2 subP (cst (.int 1)) (op2 mulP (cst (.int 2)) (callF F__law_take [nm 0, cst (.int 2)]))]]) (seqS (ifS (tstB (op2 (bop eqB) (nm 3) (cst (.int 0)))) (retS (tupD [op2 addP (op2 addP (slE (nm 2) (noP) (prtP (nm 4))) (op2 mulP (tupD [nm 7, nm 8]) (cst (.int 3)))) (slE (nm 2) (prtP (nm 4)) (noP)), op2 addP (op2 addP (slE (nm 2) (noP) (prtP (nm 4))) (op2 mulP (tupD [nm 8, nm 7]) (cst (.int 3)))) (slE (nm 2) (prtP (nm 4)) (noP))])) (skipS)) (seqS (ifS (tstB (op2 (bop eqB) (nm 3) (cst (.int 1)))) (retS (tupD [op2 addP (op2 addP (slE (nm 2) (noP) (prtP (nm 4))) (tupD [nm 7, tupD [cst (.str "tip"), nm 5, op2 subP (cst (.int 0)) (op2 getP (nm 7) (cst (.int 2)))]])) (slE (nm 2) (prtP (nm 4)) (noP)), nm 2])) (skipS)) (seqS (ifS (tstB (op2 (bop eqB) (nm 3) (cst (.int 2)))) (retS (tupD [op2 addP (nm 2) (op2 mulP (tupD [nm 7]) (cst (.int 4))), op2 addP (nm 2) (op2 mulP (tupD [nm 8]) (cst (.int 4)))])) (skipS)) (seqS (ifS (tstB (op2 (bop eqB) (nm 3) (cst (.int 3)))) (retS (tupD [op2 addP (op2 mulP (tupD [nm 7]) (cst (.int 4))) (nm 2), op2 addP (nm 2) (op2 mulP (tupD [nm 7]) (cst (.int 4)))])) (skipS)) (retS (tupD [op2 addP (op2 addP (slE (nm 2) (noP) (prtP (nm 4))) (tupD [callF F__law_of [nm 0, callF F__law_box_steps [nm 1]]])) (slE (nm 2) (prtP (nm 4)) (noP)), nm 2]))))))))
def F__law_changed : FN := mkF 9 [true, true, true] B__law_changed
def B_size_in : SS := retS (opN sumP [compS (srcE (nm 0)) (gN 2) (ret true) (opN sumP [compS (srcE (nm 2)) (gN 1) (ret true) (opN absP [nm 1]) [1]]) [2]])
def F_size_in : FN := mkF 3 [true] B_size_in
def B_sure_few : SS := ifS (tstB (op2 (bop gtB) (callF F_size_in [op2 getP (nm 0) (cst (.int 1))]) (cst (.int 1000)))) (raiseS "TooMany") (skipS)
def F_sure_few : FN := mkF 1 [true] B_sure_few
def B_turn_tree : SS := seqS (asgS 1 (lstD [])) (seqS (forS (srcR [op2 subP (nm 0) (cst (.int 1))]) (gN 2) (exprS (mLs extO 1 [compS (srcR [op2 addP (nm 2) (cst (.int 1)), op2 subP (nm 0) (cst (.int 1))]) (gN 3) (ret true) (tupD [nm 2, nm 3]) [3]]))) (retS (callF F_order_tree [nm 0, nm 1])))
def F_turn_tree : FN := mkF 4 [true] B_turn_tree
def B_turns_of : SS := retS (opN tupleP [compS (srcE (nm 0)) (gN 1) (ret true) (tupD [cst (.str "turn"), op2 getP (nm 1) (cst (.int 0)), op2 getP (nm 1) (cst (.int 1)), cst (.int 1), cst (.int 1), cst (.int 1)]) [1]])
def F_turns_of : FN := mkF 2 [true] B_turns_of
def B_to_both : SS := seqS (asgS 5 (compS (srcE (nm 0)) (gN 6) (tAndS (tstB (op2 (bop eqB) (op2 getP (nm 6) (nm 1)) (nm 2))) (tOrS (tstB (op2 isNP (nm 4) (cst .non))) (tstB (op2 (bop eqB) (op2 getP (nm 6) (nm 3)) (nm 4))))) (nm 6) [6])) (retS (callF F_turns_of [callF F_ways_back [nm 0, op2 getP (nm 5) (cst (.int 0))]]))
def F_to_both : FN := mkF 7 [true, true, true, true, true] B_to_both
def B_gone_round : SS := seqS (asgS 3 (ifE (tstB (op2 (bop geB) (nm 2) (cst (.int 0)))) (op2 mulP (nm 1) (nm 2)) (op2 mulP (callF F_back_row [nm 1]) (op2 subP (cst (.int 0)) (nm 2))))) (retS (ifE (tstB (op2 (bop neB) (nm 2) (cst (.int 0)))) (op2 addP (op2 addP (nm 0) (nm 3)) (callF F_back_row [nm 0])) (tupD [])))
def F_gone_round : FN := mkF 4 [true, true, true] B_gone_round
def B_apart_loop : SS := retS (tupD [tupD [cst (.str "turn"), nm 0, nm 1, cst (.int 1), cst (.int 1), cst (.int 1)], tupD [cst (.str "turn"), nm 0, nm 1, op1 negP (cst (.int 1)), op1 negP (cst (.int 1)), op1 negP (cst (.int 1))]])
def F_apart_loop : FN := mkF 2 [true, true] B_apart_loop
def B_alike_loop : SS := retS (tupD [tupD [cst (.str "turn"), nm 0, nm 1, cst (.int 1), cst (.int 1), cst (.int 1)], tupD [cst (.str "turn"), nm 0, nm 1, cst (.int 1), cst (.int 1), op1 negP (cst (.int 1))]])
def F_alike_loop : FN := mkF 2 [true, true] B_alike_loop
def B_half_round : SS := retS (op2 mulP (tupD [tupD [cst (.str "turn"), nm 0, nm 1, cst (.int 1), cst (.int 1), cst (.int 1)]]) (cst (.int 2)))
def F_half_round : FN := mkF 2 [true, true] B_half_round
def B_row_in_turns : SS := seqS (parS [1, 2] [op2 getP (nm 0) (cst (.int 0)), op2 getP (nm 0) (cst (.int 1))]) (seqS (asgS 3 (opN lenP [nm 1])) (seqS (asgS 4 (callF F_turn_tree [nm 3])) (seqS (asgS 5 (callF F_turns_of [callF F_ways_back [nm 4, nm 1]])) (seqS (asgS 6 (callF F_behind_in [callF F_start_in [nm 3], nm 5])) (seqS (asgS 7 (compSL (srcZ (nm 2) (op2 getP (nm 6) (cst (.int 1)))) (gT [gN 10, gN 11]) (ret true) (compS (srcZ (nm 10) (nm 11)) (gT [gN 8, gN 9]) (ret true) (op2 fdivP (op2 subP (nm 8) (nm 9)) (cst (.int 2))) [8, 9]) [10, 11])) (seqS (parS [12, 13] [tupD [], op2 subP (nm 3) (cst (.int 1))]) (seqS (forS (srcR [cst (.int 1), nm 13]) (gN 14) (forS (srcR [nm 13]) (gN 15) (seqS (asgS 12 (op2 addP (nm 12) (callF F_gone_round [callF F_to_both [nm 4, cst (.int 0), nm 15, nm 14, cst .non], callF F_apart_loop [cst (.int 0), nm 14], op2 subP (cst (.int 0)) (ixLL 7 (.inl 14) (.inl 15))]))) (asgG (gLL 7 (.inr 0) (.inl 15)) (op2 addP (ixLL 7 (.inr 0) (.inl 15)) (ixLL 7 (.inl 14) (.inl 15))))))) (seqS (forS (srcR [cst (.int 1), nm 13]) (gN 15) (seqS (asgS 12 (op2 addP (nm 12) (callF F_gone_round [callF F_to_both [nm 4, cst (.int 0), cst (.int 0), cst (.int 1), nm 15], callF F_half_round [cst (.int 0), cst (.int 1)], ixLL 7 (.inr 0) (.inl 15)]))) (asgG (gLL 7 (.inr 0) (.inr 0)) (op2 subP (ixLL 7 (.inr 0) (.inr 0)) (ixLL 7 (.inr 0) (.inl 15)))))) (seqS (asgS 16 (op2 fdivP (ixLL 7 (.inr 0) (.inr 0)) (cst (.int 2)))) (seqS (asgS 12 (op2 addP (nm 12) (callF F_gone_round [callF F_to_both [nm 4, cst (.int 0), cst (.int 0), cst (.int 1), cst .non], callF F_apart_loop [cst (.int 0), cst (.int 1)], nm 16]))) (retS (op2 addP (op2 addP (nm 12) (callF F_gone_round [callF F_to_both [nm 4, cst (.int 1), cst (.int 0), cst (.int 0), cst .non], callF F_alike_loop [cst (.int 0), cst (.int 1)], nm 16])) (nm 5)))))))))))))
def F_row_in_turns : FN := mkF 17 [true] B_row_in_turns
def B_are_turns_to : SS := seqS (asgS 2 (opN lenP [op2 getP (nm 0) (cst (.int 0))])) (seqS (ifS (tOrS (tNotS (tst (op1 (isiP [.tup]) (nm 1)))) (tNotS (tst (opN allP [compS (srcE (nm 1)) (gN 3) (ret true) (andE (callF F_is_step_in [nm 2, nm 3]) (op2 (bop eqB) (op2 getP (nm 3) (cst (.int 0))) (cst (.str "turn")))) [3]])))) (retS (cst (.bl false))) (skipS)) (retS (op2 (bop eqB) (callF F_behind_in [callF F_start_in [nm 2], nm 1]) (nm 0))))
def F_are_turns_to : FN := mkF 4 [true, true] B_are_turns_to
def B_box_turn_bars : SS := retS (opN tupleP [opN sortedP [callF F_turn_bars_in [callF F_sure_place [nm 0]]]])
def F_box_turn_bars : FN := mkF 1 [true] B_box_turn_bars
def B_is_box_turn_bar : SS := seqS (asgS 2 (callF F_sure_place [nm 0])) (seqS (ifS (tOrS (tNotS (tst (op1 (isiP [.tup]) (nm 1)))) (tOrS (tstB (op2 (bop eqB) (nm 1) (tupD []))) (tOrS (tNotS (tst (op1 (isiP [.str]) (op2 getP (nm 1) (cst (.int 0)))))) (tNotS (tst (callF F_are_numbers [slE (nm 1) (prtP (cst (.int 1))) (noP)])))))) (retS (cst (.bl false))) (skipS)) (retS (op2 (bop inB) (nm 1) (callF F_turn_bars_in [nm 2]))))
def F_is_box_turn_bar : FN := mkF 3 [true, true] B_is_box_turn_bar
def B_box_turn_row : SS := seqS (asgS 1 (callF F_sure_place [nm 0])) (seqS (ifS (tstB (op2 (bop neB) (callF F_turn_bars_in [nm 1]) (lstD []))) (raiseS "CanNot") (skipS)) (seqS (exprS (callF F_sure_few [nm 1])) (retS (callF F_row_in_turns [nm 1]))))
def F_box_turn_row : FN := mkF 2 [true] B_box_turn_row
def B_is_box_turn_row : SS := retS (callF F_are_turns_to [callF F_sure_place [nm 0], nm 1])
def F_is_box_turn_row : FN := mkF 2 [true, true] B_is_box_turn_row
def B__law_is_step : SS := retS (andE (op1 (isiP [.tup]) (nm 1)) (andE (op2 (bop neB) (nm 1) (tupD [])) (andE (op1 (isiP [.str]) (op2 getP (nm 1) (cst (.int 0)))) (andE (opN allP [compS (srcE (slE (nm 1) (prtP (cst (.int 1))) (noP))) (gN 2) (ret true) (callF F__law_is_whole [nm 2]) [2]]) (op2 (bop inB) (nm 1) (callF F__law_box_steps [nm 0]))))))
def F__law_is_step : FN := mkF 3 [true, true] B__law_is_step
def B__law_leads : SS := seqS (ifS (tOrS (tNotS (tst (op1 (isiP [.tup]) (nm 1)))) (tstB (op2 (bop neB) (compS (srcE (nm 1)) (gN 4) (tNotS (tst (callF F__law_is_step [nm 0, nm 4]))) (cst (.int 1)) [4]) (lstD [])))) (retS (cst (.bl false))) (skipS)) (seqS (ifS (tstB (op2 (bop neB) (compS (srcE (nm 1)) (gN 4) (tstB (op2 (bop ninB) (op2 getP (nm 4) (cst (.int 0))) (nm 3))) (cst (.int 1)) [4]) (lstD []))) (retS (cst (.bl false))) (skipS)) (retS (op2 (bop eqB) (callF F__law_put_all [callF F__law_first [nm 0], nm 1]) (nm 2))))
def F__law_leads : FN := mkF 5 [true, true, true, true] B__law_leads
def B_to_pair : SS := seqS (asgS 4 (compS (srcE (nm 0)) (gN 5) (tstB (op2 (bop eqB) (opN sortedP [tupD [op2 getP (nm 5) (nm 1), op2 getP (nm 5) (op1 negP (cst (.int 1)))]]) (lstD [nm 2, nm 3]))) (nm 5) [5])) (retS (callF F_tips_of [callF F_ways_back [nm 0, op2 getP (nm 4) (cst (.int 0))]]))
def F_to_pair : FN := mkF 6 [true, true, true, true] B_to_pair
def B_sure_there : SS := seqS (asgS 1 (callF F_sure_place [nm 0])) (seqS (ifS (tstB (op2 (bop gtB) (opN lenP [callF F_bars_in_box [nm 1]]) (cst (.int 0)))) (raiseS "CanNot") (skipS)) (retS (nm 1)))
def F_sure_there : FN := mkF 2 [true] B_sure_there
def B_are_tips_to : SS := seqS (asgS 2 (opN lenP [op2 getP (nm 0) (cst (.int 0))])) (seqS (ifS (tOrS (tNotS (tst (op1 (isiP [.tup]) (nm 1)))) (tNotS (tst (opN allP [compS (srcE (nm 1)) (gN 3) (ret true) (andE (callF F_is_step_in [nm 2, nm 3]) (op2 (bop eqB) (op2 getP (nm 3) (cst (.int 0))) (cst (.str "tip")))) [3]])))) (retS (cst (.bl false))) (skipS)) (retS (op2 (bop eqB) (callF F_behind_in [callF F_start_in [nm 2], nm 1]) (nm 0))))
def F_are_tips_to : FN := mkF 4 [true, true] B_are_tips_to
def B_box_bars : SS := retS (opN tupleP [opN sortedP [callF F_bars_in_box [callF F_sure_place [nm 0]]]])
def F_box_bars : FN := mkF 1 [true] B_box_bars
def B_is_box_bar : SS := seqS (asgS 2 (callF F_sure_place [nm 0])) (seqS (ifS (tOrS (tNotS (tst (op1 (isiP [.tup]) (nm 1)))) (tOrS (tstB (op2 (bop eqB) (nm 1) (tupD []))) (tOrS (tNotS (tst (op1 (isiP [.str]) (op2 getP (nm 1) (cst (.int 0)))))) (tNotS (tst (callF F_are_numbers [slE (nm 1) (prtP (cst (.int 1))) (noP)])))))) (retS (cst (.bl false))) (skipS)) (retS (op2 (bop inB) (nm 1) (callF F_bars_in_box [nm 2]))))
def F_is_box_bar : FN := mkF 3 [true, true] B_is_box_bar
def B_is_box_tip_row : SS := retS (callF F_are_tips_to [callF F_sure_place [nm 0], nm 1])
def F_is_box_tip_row : FN := mkF 2 [true, true] B_is_box_tip_row
def B__law_has_bool : SS := retS (op2 (bop neB) (compS (srcE (nm 0)) (gN 1) (tst (op1 (isiP [.bl]) (nm 1))) (cst (.int 1)) [1]) (lstD []))
def F__law_has_bool : FN := mkF 2 [true] B__law_has_bool
def B__law_all_far : SS := seqS (asgS 1 (dicD putO (flatF [(opN (rgP true) [nm 0], cst (.int 0))]))) (seqS (asgS 2 (opN listP [nm 1])) (seqS (whileL (tstB (op2 (bop neB) (nm 2) (lstD []))) (seqS (asgS 3 (lstD [])) (seqS (forS (srcE (nm 2)) (gN 4) (forS (srcR [op2 subP (nm 0) (cst (.int 1))]) (gN 5) (seqS (asgS 6 (callF F__law_traded [nm 4, nm 5, op2 subP (nm 0) (cst (.int 1))])) (ifS (tstB (op2 (bop ninB) (nm 6) (nm 1))) (seqS (asgG (gL putO 1 (nm 6)) (op2 addP (op2 getP (nm 1) (nm 4)) (cst (.int 1)))) (exprS (mLs appO 3 [nm 6]))) (skipS))))) (asgS 2 (nm 3)))) 100000) (retS (nm 1))))
def F__law_all_far : FN := mkF 7 [true] B__law_all_far
def B_box_height : SS := seqS (asgG (gT [gN 2, gN 3]) (callF F_sure_boxed [nm 0, nm 1])) (retS (op2 getP (nm 2) (op2 getP (op2 getP (nm 3) (cst (.int 0))) (op1 negP (cst (.int 1))))))
def F_box_height : FN := mkF 4 [true, true] B_box_height
def B_side_looks : SS := seqS (asgS 2 (callF F_sure_place [nm 0])) (seqS (ifS (tOrS (tNotS (tst (callF F_is_number [nm 1]))) (tNotS (tstB (chE leB ltB (cst (.int 0)) (nm 1) (opN lenP [op2 getP (nm 2) (cst (.int 0))]))))) (raiseS "Unfit") (skipS)) (retS (tupD [opM isLst indexO (op2 getP (nm 2) (cst (.int 0))) [nm 1], op2 getP (op2 getP (nm 2) (cst (.int 2))) (nm 1)])))
def F_side_looks : FN := mkF 3 [true, true] B_side_looks
def B_tips_at_least : SS := seqS (asgS 1 (callF F_sure_place [nm 0])) (seqS (ifS (tst (opN anyP [compS (srcE (op2 getP (nm 1) (cst (.int 1)))) (gN 2) (ret true) (op2 (bop eqB) (op2 modP (opN sumP [nm 2]) (cst (.int 2))) (cst (.int 1))) [2]])) (raiseS "CanNot") (skipS)) (retS (opN sumP [compS (srcE (op2 getP (nm 1) (cst (.int 1)))) (gN 2) (ret true) (callF F_fewest_in [nm 2]) [2]])))
def F_tips_at_least : FN := mkF 3 [true] B_tips_at_least
def B__law_is_flat : SS := retS (andE (op2 (bop eqB) (op2 getP (op2 getP (nm 0) (cst (.int 0))) (op1 negP (cst (.int 1)))) (op2 subP (opN lenP [op2 getP (nm 0) (cst (.int 0))]) (cst (.int 1)))) (op2 (bop eqB) (compS (srcE (op2 getP (nm 0) (cst (.int 1)))) (gN 1) (tstB (op2 (bop neB) (op2 getP (nm 1) (op1 negP (cst (.int 1)))) (cst (.int 0)))) (cst (.int 1)) [1]) (lstD [])))
def F__law_is_flat : FN := mkF 2 [true] B__law_is_flat
def B_tips_in : SS := seqS (asgS 1 (lstD [])) (seqS (forS (srcR [op2 subP (nm 0) (cst (.int 1))]) (gN 2) (exprS (mLs extO 1 [compS (srcE (tupD [op1 negP (cst (.int 1)), cst (.int 1)])) (gN 3) (ret true) (tupD [cst (.str "tip"), nm 2, nm 3]) [3]]))) (retS (nm 1)))
def F_tips_in : FN := mkF 4 [true] B_tips_in
def B_corners_of_turns : SS := seqS (asgS 0 (lstD [])) (seqS (forS (srcE (tupD [op1 negP (cst (.int 1)), cst (.int 1)])) (gN 1) (forS (srcE (tupD [op1 negP (cst (.int 1)), cst (.int 1)])) (gN 2) (exprS (mLs extO 0 [compS (srcE (tupD [op1 negP (cst (.int 1)), cst (.int 1)])) (gN 3) (ret true) (tupD [nm 1, nm 2, nm 3]) [3]])))) (retS (nm 0)))
def F_corners_of_turns : FN := mkF 4 [] B_corners_of_turns
def B__law_rings : SS := seqS (parS [3, 4] [ret (.v (.dc [])), lstD [callF F__law_first [nm 0]]]) (seqS (asgG (gL putO 3 (op2 getP (nm 4) (cst (.int 0)))) (cst (.int 0))) (seqS (forS (srcR [nm 2]) (gN 5) (seqS (asgS 6 (lstD [])) (seqS (forS (srcE (nm 4)) (gN 7) (forS (srcE (nm 1)) (gN 8) (seqS (asgS 9 (callF F__law_put [nm 7, nm 8])) (ifS (tstB (op2 (bop ninB) (nm 9) (nm 3))) (seqS (asgG (gL putO 3 (nm 9)) (op2 addP (nm 5) (cst (.int 1)))) (exprS (mLs appO 6 [nm 9]))) (skipS))))) (asgS 4 (nm 6))))) (retS (nm 3))))
def F__law_rings : FN := mkF 10 [true, true, true] B__law_rings
def B_axis_pairs : SS := seqS (asgS 2 (callF F_sure_place [nm 0])) (seqS (ifS (tOrS (tNotS (tst (callF F_is_number [nm 1]))) (tNotS (tstB (chE leB ltB (cst (.int 0)) (nm 1) (opN lenP [op2 getP (nm 2) (cst (.int 1))]))))) (raiseS "Unfit") (skipS)) (seqS (ifS (tstB (op2 (bop eqB) (op2 modP (opN sumP [op2 getP (op2 getP (nm 2) (cst (.int 1))) (nm 1)]) (cst (.int 2))) (cst (.int 1)))) (raiseS "CanNot") (skipS)) (retS (callF F_fewest_in [op2 getP (op2 getP (nm 2) (cst (.int 1))) (nm 1)]))))
def F_axis_pairs : FN := mkF 3 [true, true] B_axis_pairs
def B__law_fewest : SS := seqS (parS [1, 2] [compS (srcE (nm 0)) (gN 3) (tstB (op2 (bop gtB) (nm 3) (cst (.int 0)))) (nm 3) [3], compS (srcE (nm 0)) (gN 3) (tstB (op2 (bop ltB) (nm 3) (cst (.int 0)))) (op2 subP (cst (.int 0)) (nm 3)) [3]]) (seqS (asgS 4 (lstD [cst (.int 0), op2 modP (opN intP [opN sumP [nm 1]]) (cst (.int 2))])) (seqS (forS (srcE (tupD [nm 1, nm 2])) (gN 5) (ifS (tstB (op2 (bop neB) (nm 5) (lstD []))) (exprS (mLs appO 4 [op2 subP (op2 mulP (cst (.int 2)) (opN maxP [nm 5])) (opN sumP [nm 5])])) (skipS))) (retS (op2 addP (op2 fdivP (op2 addP (opN sumP [nm 1]) (opN sumP [nm 2])) (cst (.int 2))) (opN maxP [nm 4])))))
def F__law_fewest : FN := mkF 6 [true] B__law_fewest
def B__law_come_to : SS := seqS (asgS 2 (op2 mulP (lstD [cst (.int 0)]) (nm 0))) (seqS (forS (srcE (nm 1)) (gT [gN 3, gN 4, gN 5]) (asgG (gT [gL putO 2 (nm 3), gL putO 2 (nm 4)]) (tupD [op2 addP (op2 getP (nm 2) (nm 3)) (nm 5), op2 addP (op2 getP (nm 2) (nm 4)) (nm 5)]))) (retS (opN tupleP [nm 2])))
def F__law_come_to : FN := mkF 6 [true, true] B__law_come_to
def B__law_are_weights : SS := seqS (ifS (tOrS (tNotS (tst (op1 (isiP [.tup]) (nm 1)))) (tOrS (tstB (op2 (bop neB) (opN lenP [nm 1]) (nm 0))) (tstB (op2 (bop neB) (compS (srcE (nm 1)) (gN 2) (tNotS (tst (callF F__law_is_whole [nm 2]))) (cst (.int 1)) [2]) (lstD []))))) (retS (cst (.bl false))) (skipS)) (retS (op2 (bop eqB) (compS (srcE (callF F__law_two_by [opN (rgP false) [nm 0], opN (rgP false) [nm 0]])) (gT [gN 3, gN 4]) (tAndS (tstB (op2 (bop ltB) (nm 3) (nm 4))) (tNotS (tstB (chE leB leB (op1 negP (cst (.int 2))) (op2 addP (op2 getP (nm 1) (nm 3)) (op2 getP (nm 1) (nm 4))) (cst (.int 2)))))) (cst (.int 1)) [3, 4]) (lstD [])))
def F__law_are_weights : FN := mkF 5 [true, true] B__law_are_weights
def B__law_shown : SS := seqS (parS [2, 3] [opN sumP [compS (srcZ (nm 0) (nm 1)) (gT [gN 4, gN 5]) (ret true) (op2 mulP (nm 4) (nm 5)) [4, 5]], op2 modP (op2 fdivP (opN intP [opN sumP [nm 0]]) (cst (.int 2))) (cst (.int 2))]) (seqS (asgS 6 (opN maxP [cst (.int 0), op2 fdivP (opN intP [op2 addP (nm 2) (cst (.int 1))]) (cst (.int 2))])) (retS (ifE (tstB (op2 (bop eqB) (op2 modP (opN intP [nm 6]) (cst (.int 2))) (nm 3))) (nm 6) (op2 addP (nm 6) (cst (.int 1))))))
def F__law_shown : FN := mkF 7 [true, true] B__law_shown
def B__law_numbers : SS := seqS (asgS 2 (callF F__law_take [nm 0, cst (.int 5)])) (seqS (asgS 3 (op2 getP (tupD [cst (.int 3), cst (.int 6), cst (.int 40), cst (.int 1000), op2 powP (cst (.int 10)) (cst (.int 11))]) (nm 2))) (seqS (asgS 4 (compS (srcR [nm 1]) (gN 5) (ret true) (op2 subP (callF F__law_take [nm 0, op2 addP (op2 mulP (cst (.int 2)) (nm 3)) (cst (.int 1))]) (nm 3)) [5])) (seqS (ifS (tstB (op2 (bop eqB) (callF F__law_take [nm 0, cst (.int 3)]) (cst (.int 0)))) (asgG (gL putO 4 (callF F__law_take [nm 0, nm 1])) (cst (.int 0))) (skipS)) (seqS (ifS (tstB (op2 (bop eqB) (callF F__law_take [nm 0, cst (.int 3)]) (cst (.int 0)))) (asgS 4 (compS (srcE (nm 4)) (gN 6) (ret true) (opN absP [nm 6]) [6])) (skipS)) (seqS (ifS (tstB (op2 (bop eqB) (op2 modP (opN sumP [nm 4]) (cst (.int 2))) (cst (.int 1)))) (asgG (gL putO 4 (op1 negP (cst (.int 1)))) (op2 addP (op2 getP (nm 4) (op1 negP (cst (.int 1)))) (cst (.int 1)))) (skipS)) (retS (opN tupleP [nm 4])))))))
def F__law_numbers : FN := mkF 7 [true, true] B__law_numbers
def B__law_weights : SS := seqS (parS [2, 3] [callF F__law_take [nm 0, cst (.int 3)], callF F__law_take [nm 0, nm 1]]) (seqS (asgS 4 (compS (srcR [nm 1]) (gN 5) (ret true) (op2 subP (cst (.int 1)) (op2 mulP (cst (.int 2)) (callF F__law_take [nm 0, cst (.int 2)]))) [5])) (seqS (ifS (tstB (op2 (bop eqB) (nm 2) (cst (.int 1)))) (seqS (asgS 6 (op2 subP (cst (.int 1)) (op2 mulP (cst (.int 2)) (callF F__law_take [nm 0, cst (.int 2)])))) (seqS (asgS 4 (op2 mulP (lstD [op2 subP (cst (.int 0)) (nm 6)]) (nm 1))) (asgG (gL putO 4 (nm 3)) (op2 mulP (cst (.int 3)) (nm 6))))) (skipS)) (seqS (ifS (tstB (op2 (bop eqB) (nm 2) (cst (.int 2)))) (asgG (gL putO 4 (nm 3)) (cst (.int 0))) (skipS)) (retS (opN tupleP [nm 4])))))
def F__law_weights : FN := mkF 7 [true, true] B__law_weights
def B_is_there_bar : SS := seqS (asgG (gT [gN 5, gN 6, gN 7, gN 8]) (callF F_sure_signed [nm 0, nm 1, nm 2, nm 3])) (seqS (ifS (tOrS (tNotS (tst (op1 (isiP [.tup]) (nm 4)))) (tOrS (tstB (op2 (bop eqB) (nm 4) (tupD []))) (tOrS (tNotS (tst (op1 (isiP [.str]) (op2 getP (nm 4) (cst (.int 0)))))) (tNotS (tst (callF F_are_numbers [slE (nm 4) (prtP (cst (.int 1))) (noP)])))))) (retS (cst (.bl false))) (skipS)) (retS (op2 (bop inB) (nm 4) (callF F_tip_bars [nm 5, nm 6, nm 7, nm 8]))))
def F_is_there_bar : FN := mkF 9 [true, true, true, true, true] B_is_there_bar
def B_is_turn_place_there : SS := seqS (asgG (gT [gN 5, gN 6, gN 7, gN 8]) (callF F_sure_signed [nm 0, nm 1, nm 2, nm 3])) (retS (andE (callF F_is_there_in [nm 5, nm 6, nm 7, nm 8, nm 4]) (op2 (bop eqB) (callF F_turn_bars_in [nm 4]) (lstD []))))
def F_is_turn_place_there : FN := mkF 9 [true, true, true, true, true] B_is_turn_place_there
def B__law_divisor : SS := seqS (asgS 1 (cst (.int 0))) (seqS (forS (srcE (nm 0)) (gN 2) (whileL (tstB (op2 (bop gtB) (nm 2) (cst (.int 0)))) (parS [1, 2] [nm 2, ifE (tstB (op2 (bop gtB) (nm 1) (cst (.int 0)))) (op2 modP (nm 1) (nm 2)) (cst (.int 0))]) 100000)) (retS (nm 1)))
def F__law_divisor : FN := mkF 3 [true] B__law_divisor
def B__law_wanted : SS := seqS (asgS 3 (orE (op2 (bop eqB) (op2 getP (nm 0) (nm 2)) (nm 2)) (op2 (bop eqB) (nm 2) (op2 subP (opN lenP [nm 0]) (cst (.int 1)))))) (retS (op2 (bop eqB) (op2 (bop eqB) (op2 getP (nm 1) (nm 2)) (op1 negP (cst (.int 1)))) (nm 3)))
def F__law_wanted : FN := mkF 4 [true, true, true] B__law_wanted
def B__law_bars_by : SS := seqS (parS [5, 6] [cst (.int 1), callF F__law_divisor [compS (srcE (nm 4)) (gN 7) (ret true) (op2 getP (nm 0) (nm 7)) [7]]]) (seqS (forS (srcE (nm 2)) (gN 7) (asgS 5 (op2 mulP (nm 5) (nm 7)))) (seqS (ifS (tstB (op2 (bop neB) (nm 5) (callF F__law_parity [nm 1]))) (retS (lstD [tupD [cst (.str "sign")]])) (skipS)) (seqS (asgS 8 (lstD [])) (seqS (forS (srcN (nm 3)) (gT [gN 9, gN 10]) (seqS (asgS 11 (compS (srcR [opN lenP [nm 0]]) (gN 7) (tst (callF F__law_is_odd_at [nm 1, nm 9, nm 7])) (op2 getP (nm 0) (nm 7)) [7])) (exprS (mLs appO 8 [op2 subP (nm 10) (opN sumP [nm 11])])))) (seqS (asgS 12 (compS (srcN (nm 8)) (gT [gN 13, gN 7]) (tstB (op2 (bop neB) (op2 modP (nm 7) (op2 mulP (cst (.int 2)) (nm 6))) (cst (.int 0)))) (tupD [cst (.str "axis"), nm 13]) [13, 7])) (seqS (ifS (tstB (op2 (bop neB) (nm 12) (lstD []))) (retS (nm 12)) (skipS)) (seqS (asgS 14 (opN sumP [compS (srcE (nm 4)) (gN 7) (tst (callF F__law_wanted [nm 1, nm 2, nm 7])) (op2 getP (nm 0) (nm 7)) [7]])) (retS (ifE (tstB (op2 (bop neB) (op2 modP (opN intP [op2 subP (op2 fdivP (opN intP [opN sumP [nm 8]]) (cst (.int 2))) (nm 14)]) (op2 mulP (cst (.int 2)) (nm 6))) (cst (.int 0)))) (lstD [tupD [cst (.str "sum")]]) (lstD []))))))))))
def F__law_bars_by : FN := mkF 15 [true, true, true, true, true] B__law_bars_by
def B__law_bars_of : SS := retS (callF F__law_bars_by [nm 0, nm 1, nm 2, nm 3, opN (rgP false) [opN lenP [nm 0]]])
def F__law_bars_of : FN := mkF 4 [true, true, true, true] B__law_bars_of
def B__law_turn_bars_of : SS := seqS (ifS (tOrS (tstB (op2 (bop neB) (op2 getP (nm 1) (op1 negP (cst (.int 1)))) (op2 subP (opN lenP [nm 1]) (cst (.int 1))))) (tstB (op2 (bop eqB) (op2 getP (nm 2) (op1 negP (cst (.int 1)))) (op1 negP (cst (.int 1)))))) (retS (lstD [tupD [cst (.str "stands")]])) (skipS)) (retS (callF F__law_bars_by [nm 0, nm 1, nm 2, nm 3, opN (rgP false) [op2 subP (opN lenP [nm 0]) (cst (.int 1))]]))
def F__law_turn_bars_of : FN := mkF 4 [true, true, true, true] B__law_turn_bars_of
def B__law_is_there : SS := seqS (asgG (gT [gN 3, gN 4, gN 5, gN 6]) (nm 1)) (seqS (asgS 7 (opN lenP [nm 3])) (seqS (ifS (tOrS (tNotS (tst (op1 (isiP [.tup]) (nm 0)))) (tOrS (tstB (op2 (bop neB) (opN lenP [nm 0]) (cst (.int 3)))) (tOrS (tstB (op2 (bop neB) (op2 getP (nm 0) (cst (.int 0))) (nm 4))) (tOrS (tstB (op2 (bop neB) (op2 getP (nm 0) (cst (.int 2))) (nm 5))) (tNotS (tst (op1 (isiP [.tup]) (op2 getP (nm 0) (cst (.int 1)))))))))) (retS (cst (.bl false))) (skipS)) (seqS (ifS (tOrS (tstB (op2 (bop neB) (opN lenP [op2 getP (nm 0) (cst (.int 1))]) (op2 subP (nm 7) (cst (.int 1))))) (tstB (op2 (bop neB) (compS (srcE (op2 getP (nm 0) (cst (.int 1)))) (gN 8) (tOrS (tNotS (tst (op1 (isiP [.tup]) (nm 8)))) (tstB (op2 (bop neB) (opN lenP [nm 8]) (nm 7)))) (cst (.int 1)) [8]) (lstD [])))) (retS (cst (.bl false))) (skipS)) (seqS (ifS (tstB (op2 (bop neB) (compS (srcE (op2 getP (nm 0) (cst (.int 1)))) (gN 8) (tstB (op2 (bop neB) (compS (srcE (nm 8)) (gN 9) (tNotS (tst (callF F__law_is_whole [nm 9]))) (cst (.int 1)) [9]) (lstD []))) (cst (.int 1)) [8]) (lstD []))) (retS (cst (.bl false))) (skipS)) (retS (andE (op2 (bop eqB) (callF F__law_mean [nm 3, nm 0]) (nm 6)) (op2 (bop eqB) (ifE (tst (nm 2)) (callF F__law_turn_barred [nm 0]) (callF F__law_barred [nm 0])) (lstD []))))))))
def F__law_is_there : FN := mkF 10 [true, true, true] B__law_is_there
def B__law_all_signs : SS := seqS (asgS 1 (lstD [tupD []])) (seqS (forS (srcR [nm 0]) (gN 2) (seqS (asgS 3 (lstD [])) (seqS (forS (srcE (nm 1)) (gN 4) (asgS 3 (op2 addP (nm 3) (lstD [op2 addP (nm 4) (tupD [op1 negP (cst (.int 1))]), op2 addP (nm 4) (tupD [cst (.int 1)])])))) (asgS 1 (nm 3))))) (retS (nm 1)))
def F__law_all_signs : FN := mkF 5 [true] B__law_all_signs
def B_lower_in : SS := seqS (parS [2, 3] [compS (srcE (op2 getP (nm 1) (cst (.int 0)))) (gN 4) (ret true) (op2 getP (nm 0) (nm 4)) [4], callF F_middle_in [nm 0, nm 1]]) (seqS (asgS 5 (opN tupleP [compS (srcZ (nm 3) (nm 2)) (gT [gN 6, gN 7]) (ret true) (op2 subP (nm 6) (nm 7)) [6, 7]])) (retS (tupD [nm 5, opN tupleP [compS (srcZ (nm 3) (nm 2)) (gT [gN 6, gN 7]) (ret true) (op2 addP (nm 6) (nm 7)) [6, 7]]])))
def F_lower_in : FN := mkF 8 [true, true] B_lower_in
def B_is_step : SS := retS (callF F_is_step_in [callF F_sure_sides [nm 0], nm 1])
def F_is_step : FN := mkF 2 [true, true] B_is_step
def B_box_lower : SS := seqS (asgG (gT [gN 2, gN 3]) (callF F_sure_boxed [nm 0, nm 1])) (retS (callF F_lower_in [nm 2, nm 3]))
def F_box_lower : FN := mkF 4 [true, true] B_box_lower
def B_grown_by : SS := seqS (asgS 2 (lstD [])) (seqS (forS (srcE (nm 0)) (gN 3) (exprS (mLs extO 2 [compS (srcE (nm 1)) (gN 4) (ret true) (op2 addP (nm 3) (tupD [nm 4])) [4]]))) (retS (nm 2)))
def F_grown_by : FN := mkF 5 [true, true] B_grown_by
def B__law_corners : SS := seqS (asgS 2 (lstD [tupD []])) (seqS (forS (srcN (callF F__law_mean [nm 0, nm 1])) (gT [gN 3, gN 4]) (seqS (asgS 5 (op2 getP (nm 0) (op2 getP (op2 getP (nm 1) (cst (.int 0))) (nm 3)))) (asgS 2 (op2 addP (compS (srcE (nm 2)) (gN 6) (ret true) (op2 addP (nm 6) (tupD [op2 subP (nm 4) (nm 5)])) [6]) (compS (srcE (nm 2)) (gN 6) (ret true) (op2 addP (nm 6) (tupD [op2 addP (nm 4) (nm 5)])) [6]))))) (seqS (asgS 7 (op2 mulP (cst (.int 2)) (op2 getP (nm 0) (op2 getP (op2 getP (nm 1) (cst (.int 0))) (op1 negP (cst (.int 1))))))) (retS (opN sortedP [op2 addP (compS (srcE (nm 2)) (gN 6) (ret true) (op2 addP (nm 6) (tupD [cst (.int 0)])) [6]) (compS (srcE (nm 2)) (gN 6) (ret true) (op2 addP (nm 6) (tupD [nm 7])) [6])]))))
def F__law_corners : FN := mkF 8 [true, true] B__law_corners
def B_is_within : SS := retS (andE (callF F_is_number [nm 0]) (chE leB leB (nm 1) (nm 0) (nm 2)))
def F_is_within : FN := mkF 3 [true, true, true] B_is_within
def B_more_at : SS := retS (op2 addP (op2 addP (slE (nm 0) (noP) (prtP (nm 1))) (tupD [op2 addP (op2 getP (nm 0) (nm 1)) (nm 2)])) (slE (nm 0) (prtP (op2 addP (nm 1) (cst (.int 1)))) (noP)))
def F_more_at : FN := mkF 3 [true, true, true] B_more_at
def B_flipped : SS := retS (callF F_more_at [nm 0, nm 1, op2 mulP (op1 negP (cst (.int 2))) (op2 getP (nm 0) (nm 1))])
def F_flipped : FN := mkF 2 [true, true] B_flipped
def B_place_of_stand : SS := seqS (asgS 1 (callF (F_tupled 12) [nm 0])) (seqS (ifS (tNotS (tst (callF F_is_long [nm 1, cst (.int 4)]))) (raiseS "Unfit") (skipS)) (retS (callF F_sure_place [tupD [op2 getP (nm 1) (cst (.int 0)), slE (nm 1) (prtP (cst (.int 1))) (prtP (cst (.int 3))), op2 getP (nm 1) (cst (.int 3))]])))
def F_place_of_stand : FN := mkF 2 [true] B_place_of_stand
def B_stand_of_place : SS := seqS (asgG (gT [gN 1, gN 2, gN 3]) (callF F_sure_place [nm 0])) (seqS (ifS (tstB (op2 (bop neB) (opN lenP [nm 1]) (cst (.int 3)))) (raiseS "CanNot") (skipS)) (retS (tupD [nm 1, op2 getP (nm 2) (cst (.int 0)), op2 getP (nm 2) (cst (.int 1)), nm 3])))
def F_stand_of_place : FN := mkF 4 [true] B_stand_of_place
def B_is_move : SS := seqS (ifS (tst (callF F_is_long [nm 0, cst (.int 2)])) (retS (andE (op2 (bop eqB) (op2 getP (nm 0) (cst (.int 0))) (cst (.str "tip"))) (callF F_is_within [op2 getP (nm 0) (cst (.int 1)), cst (.int 0), cst (.int 3)]))) (skipS)) (seqS (ifS (tOrS (tNotS (tst (callF F_is_long [nm 0, cst (.int 3)]))) (tOrS (tstB (op2 (bop neB) (op2 getP (nm 0) (cst (.int 0))) (cst (.str "turn")))) (tNotS (tst (callF F_is_within [op2 getP (nm 0) (cst (.int 1)), cst (.int 0), cst (.int 3)]))))) (retS (cst (.bl false))) (skipS)) (retS (andE (callF F_is_number [op2 getP (nm 0) (cst (.int 2))]) (op2 (bop inB) (op2 getP (nm 0) (cst (.int 2))) (tupD [cst (.int 1), op1 negP (cst (.int 1))])))))
def F_is_move : FN := mkF 1 [true] B_is_move
def B_sure_move : SS := seqS (asgS 1 (callF (F_tupled 12) [nm 0])) (seqS (ifS (tNotS (tst (callF F_is_move [nm 1]))) (raiseS "Unfit") (skipS)) (retS (nm 1)))
def F_sure_move : FN := mkF 2 [true] B_sure_move
def B__law_corners_of : SS := seqS (parS [2, 3, 4] [callF F__law_mean [nm 0, nm 1], op2 getP (nm 1) (cst (.int 0)), lstD [tupD []]]) (seqS (forS (srcN (nm 2)) (gT [gN 5, gN 6]) (seqS (parS [7, 8] [op2 getP (nm 0) (op2 getP (nm 3) (nm 5)), lstD []]) (seqS (forS (srcE (nm 4)) (gN 9) (asgS 8 (op2 addP (nm 8) (lstD [op2 addP (nm 9) (tupD [op2 subP (nm 6) (nm 7)]), op2 addP (nm 9) (tupD [op2 addP (nm 6) (nm 7)])])))) (asgS 4 (nm 8))))) (seqS (asgS 10 (op2 mulP (cst (.int 2)) (op2 getP (nm 0) (op2 getP (nm 3) (op1 negP (cst (.int 1))))))) (retS (opN tupleP [opN sortedP [op2 addP (compS (srcE (nm 4)) (gN 9) (ret true) (op2 addP (nm 9) (tupD [cst (.int 0)])) [9]) (compS (srcE (nm 4)) (gN 9) (ret true) (op2 addP (nm 9) (tupD [nm 10])) [9])]]))))
def F__law_corners_of : FN := mkF 11 [true, true] B__law_corners_of
def B_many_in : SS := retS (opN sumP [compS (srcE (nm 0)) (gN 1) (ret true) (opN absP [op2 getP (nm 1) (cst (.int 2))]) [1]])
def F_many_in : FN := mkF 2 [true] B_many_in
def B_are_there_parts : SS := seqS (ifS (tOrS (tstB (op2 (bop neB) (opN lenP [nm 0]) (cst (.int 4)))) (tOrS (tNotS (tst (callF F_is_box_in [op2 getP (nm 0) (cst (.int 0))]))) (tNotS (tst (callF F_is_order_in [op2 getP (nm 0) (cst (.int 1))]))))) (retS (cst (.bl false))) (skipS)) (seqS (asgS 1 (opN lenP [op2 getP (nm 0) (cst (.int 0))])) (seqS (ifS (tOrS (tstB (op2 (bop neB) (opN lenP [op2 getP (nm 0) (cst (.int 1))]) (nm 1))) (tOrS (tNotS (tst (callF F_is_long [op2 getP (nm 0) (cst (.int 2)), nm 1]))) (tNotS (tst (callF F_are_signs [op2 getP (nm 0) (cst (.int 2))]))))) (retS (cst (.bl false))) (skipS)) (retS (andE (callF F_are_numbers [op2 getP (nm 0) (cst (.int 3))]) (op2 (bop eqB) (opN lenP [op2 getP (nm 0) (cst (.int 3))]) (op2 subP (nm 1) (cst (.int 1))))))))
def F_are_there_parts : FN := mkF 2 [true] B_are_there_parts
def B_is_claim_in : SS := seqS (ifS (tOrS (tNotS (tst (op1 (isiP [.tup]) (nm 0)))) (tOrS (tstB (op2 (bop ltB) (opN lenP [nm 0]) (cst (.int 2)))) (tNotS (tst (op1 (isiP [.str]) (op2 getP (nm 0) (cst (.int 0)))))))) (retS (cst (.bl false))) (skipS)) (seqS (parS [1, 2] [op2 getP (nm 0) (cst (.int 0)), slE (nm 0) (prtP (cst (.int 1))) (noP)]) (seqS (ifS (tstB (op2 (bop inB) (nm 1) (tupD [cst (.str "tips"), cst (.str "turns")]))) (retS (andE (op2 (bop eqB) (opN lenP [nm 2]) (cst (.int 1))) (callF F_is_place_in [op2 getP (nm 2) (cst (.int 0))]))) (skipS)) (seqS (ifS (tstB (op2 (bop eqB) (nm 1) (cst (.str "alike")))) (seqS (ifS (tOrS (tstB (op2 (bop neB) (opN lenP [nm 2]) (cst (.int 3)))) (tNotS (tst (callF F_is_from [op2 getP (nm 2) (cst (.int 0)), cst (.int 3)])))) (retS (cst (.bl false))) (skipS)) (retS (andE (callF F_are_steps_in [op2 getP (nm 2) (cst (.int 0)), op2 getP (nm 2) (cst (.int 1))]) (callF F_are_steps_in [op2 getP (nm 2) (cst (.int 0)), op2 getP (nm 2) (cst (.int 2))])))) (skipS)) (seqS (ifS (tstB (op2 (bop eqB) (nm 1) (cst (.str "pairs")))) (retS (andE (op2 (bop eqB) (opN lenP [nm 2]) (cst (.int 2))) (andE (callF F_are_row_numbers [op2 getP (nm 2) (cst (.int 0))]) (callF F_is_number [op2 getP (nm 2) (cst (.int 1))])))) (skipS)) (retS (andE (op2 (bop eqB) (nm 1) (cst (.str "there"))) (callF F_are_there_parts [nm 2])))))))
def F_is_claim_in : FN := mkF 3 [true] B_is_claim_in
def B_sure_claim : SS := seqS (asgS 1 (callF (F_tupled 12) [nm 0])) (seqS (ifS (tNotS (tst (callF F_is_claim_in [nm 1]))) (raiseS "Unfit") (skipS)) (retS (nm 1)))
def F_sure_claim : FN := mkF 2 [true] B_sure_claim
def B_bars_of : SS := seqS (ifS (tstB (op2 (bop eqB) (op2 getP (nm 0) (cst (.int 0))) (cst (.str "tips")))) (retS (callF F_bars_in_box [op2 getP (nm 0) (cst (.int 1))])) (skipS)) (retS (ifE (tstB (op2 (bop eqB) (op2 getP (nm 0) (cst (.int 0))) (cst (.str "turns")))) (callF F_turn_bars_in [op2 getP (nm 0) (cst (.int 1))]) (callF F_tip_bars [op2 getP (nm 0) (cst (.int 1)), op2 getP (nm 0) (cst (.int 2)), op2 getP (nm 0) (cst (.int 3)), op2 getP (nm 0) (cst (.int 4))])))
def F_bars_of : FN := mkF 1 [true] B_bars_of
def B_holds_in : SS := seqS (ifS (tstB (op2 (bop eqB) (op2 getP (nm 0) (cst (.int 0))) (cst (.str "alike")))) (seqS (asgG (gT [gN 1, gN 2]) (callF F_both_in [op2 getP (nm 0) (cst (.int 1)), op2 getP (nm 0) (cst (.int 2)), op2 getP (nm 0) (cst (.int 3))])) (retS (op2 (bop eqB) (nm 1) (nm 2)))) (skipS)) (seqS (ifS (tstB (op2 (bop eqB) (op2 getP (nm 0) (cst (.int 0))) (cst (.str "pairs")))) (retS (op2 (bop geB) (callF F_fewest_in [op2 getP (nm 0) (cst (.int 1))]) (op2 getP (nm 0) (cst (.int 2))))) (skipS)) (retS (op2 (bop eqB) (callF F_bars_of [nm 0]) (lstD []))))
def F_holds_in : FN := mkF 3 [true] B_holds_in
def B_paper_in : SS := seqS (ifS (tst (callF F_holds_in [nm 0])) (retS (cst .non)) (skipS)) (seqS (ifS (tstB (op2 (bop eqB) (op2 getP (nm 0) (cst (.int 0))) (cst (.str "alike")))) (seqS (asgG (gT [gN 1, gN 2]) (callF F_both_in [op2 getP (nm 0) (cst (.int 1)), op2 getP (nm 0) (cst (.int 2)), op2 getP (nm 0) (cst (.int 3))])) (retS (callF F_parting_in [nm 1, nm 2]))) (skipS)) (retS (ifE (tstB (op2 (bop eqB) (op2 getP (nm 0) (cst (.int 0))) (cst (.str "pairs")))) (opN tupleP [callF F_pairs_in [op2 getP (nm 0) (cst (.int 1))]]) (op2 getP (callF F_bars_of [nm 0]) (cst (.int 0))))))
def F_paper_in : FN := mkF 3 [true] B_paper_in
def B_is_bar_of : SS := seqS (ifS (tOrS (tNotS (tst (op1 (isiP [.tup]) (nm 1)))) (tOrS (tstB (op2 (bop eqB) (nm 1) (tupD []))) (tOrS (tNotS (tst (op1 (isiP [.str]) (op2 getP (nm 1) (cst (.int 0)))))) (tNotS (tst (callF F_are_numbers [slE (nm 1) (prtP (cst (.int 1))) (noP)])))))) (retS (cst (.bl false))) (skipS)) (retS (op2 (bop inB) (nm 1) (callF F_bars_of [nm 0])))
def F_is_bar_of : FN := mkF 2 [true, true] B_is_bar_of
def B_is_paper_in : SS := seqS (ifS (tstB (op2 (bop eqB) (op2 getP (nm 0) (cst (.int 0))) (cst (.str "alike")))) (seqS (ifS (tOrS (tNotS (tst (callF F_is_box_in [nm 1]))) (tstB (op2 (bop neB) (opN lenP [nm 1]) (op2 getP (nm 0) (cst (.int 1)))))) (retS (cst (.bl false))) (skipS)) (seqS (asgG (gT [gN 2, gN 3]) (callF F_both_in [op2 getP (nm 0) (cst (.int 1)), op2 getP (nm 0) (cst (.int 2)), op2 getP (nm 0) (cst (.int 3))])) (retS (notE (callF F_are_put_alike [nm 1, nm 2, nm 3]))))) (skipS)) (seqS (ifS (tstB (op2 (bop eqB) (op2 getP (nm 0) (cst (.int 0))) (cst (.str "pairs")))) (seqS (asgS 4 (opN lenP [op2 getP (nm 0) (cst (.int 1))])) (retS (andE (callF F_is_plan_in [nm 4, nm 1]) (andE (op2 (bop eqB) (callF F_come_to [nm 4, nm 1]) (op2 getP (nm 0) (cst (.int 1)))) (op2 (bop ltB) (callF F_many_in [nm 1]) (op2 getP (nm 0) (cst (.int 2)))))))) (skipS)) (retS (callF F_is_bar_of [nm 0, nm 1])))
def F_is_paper_in : FN := mkF 5 [true, true] B_is_paper_in
def B_is_reason_in : SS := seqS (ifS (tstB (op2 (bop eqB) (op2 getP (nm 0) (cst (.int 0))) (cst (.str "tips")))) (retS (callF F_are_tips_to [op2 getP (nm 0) (cst (.int 1)), nm 1])) (skipS)) (seqS (ifS (tstB (op2 (bop eqB) (op2 getP (nm 0) (cst (.int 0))) (cst (.str "turns")))) (retS (callF F_are_turns_to [op2 getP (nm 0) (cst (.int 1)), nm 1])) (skipS)) (seqS (ifS (tstB (op2 (bop eqB) (op2 getP (nm 0) (cst (.int 0))) (cst (.str "alike")))) (seqS (asgG (gT [gN 2, gN 3]) (callF F_both_in [op2 getP (nm 0) (cst (.int 1)), op2 getP (nm 0) (cst (.int 2)), op2 getP (nm 0) (cst (.int 3))])) (retS (andE (callF F_is_place_in [nm 1]) (andE (op2 (bop eqB) (nm 2) (nm 3)) (op2 (bop eqB) (nm 1) (nm 2)))))) (skipS)) (seqS (ifS (tstB (op2 (bop eqB) (op2 getP (nm 0) (cst (.int 0))) (cst (.str "pairs")))) (retS (andE (callF F_are_weights_in [nm 1, opN lenP [op2 getP (nm 0) (cst (.int 1))]]) (op2 (bop geB) (callF F_shown_by_weights [op2 getP (nm 0) (cst (.int 1)), nm 1]) (op2 getP (nm 0) (cst (.int 2)))))) (skipS)) (retS (andE (callF F_is_there_in [op2 getP (nm 0) (cst (.int 1)), op2 getP (nm 0) (cst (.int 2)), op2 getP (nm 0) (cst (.int 3)), op2 getP (nm 0) (cst (.int 4)), nm 1]) (op2 (bop eqB) (callF F_bars_in_box [nm 1]) (lstD [])))))))
def F_is_reason_in : FN := mkF 4 [true, true] B_is_reason_in
def B_is_box_claim : SS := retS (callF F_is_claim_in [nm 0])
def F_is_box_claim : FN := mkF 1 [true] B_is_box_claim
def B_box_holds : SS := retS (callF F_holds_in [callF F_sure_claim [nm 0]])
def F_box_holds : FN := mkF 1 [true] B_box_holds
def B_box_paper : SS := retS (callF F_paper_in [callF F_sure_claim [nm 0]])
def F_box_paper : FN := mkF 1 [true] B_box_paper
def B_is_box_paper : SS := retS (callF F_is_paper_in [callF F_sure_claim [nm 0], nm 1])
def F_is_box_paper : FN := mkF 2 [true, true] B_is_box_paper
def B_is_box_reason : SS := retS (callF F_is_reason_in [callF F_sure_claim [nm 0], nm 1])
def F_is_box_reason : FN := mkF 2 [true, true] B_is_box_reason
def B_first_box_false : SS := seqS (asgS 1 (callF (F_tupled 12) [nm 0])) (seqS (ifS (tOrS (tNotS (tst (op1 (isiP [.tup]) (nm 1)))) (tNotS (tst (opN allP [compS (srcE (nm 1)) (gN 2) (ret true) (callF F_is_claim_in [nm 2]) [2]])))) (raiseS "Unfit") (skipS)) (seqS (forS (srcN (nm 1)) (gT [gN 3, gN 2]) (ifS (tNotS (tst (callF F_holds_in [nm 2]))) (retS (nm 3)) (skipS))) (retS (cst .non))))
def F_first_box_false : FN := mkF 4 [true] B_first_box_false
end Bx
end
/-! file Fn_k80 -/
section
set_option linter.all false
set_option autoImplicit false
set_option maxRecDepth 100000
set_option maxHeartbeats 0
set_option Elab.async false
namespace Lk80
open PySem PySem.Spec PyProof.Rows L2 Mv Bx
/-! ### the functions -/
def B_law : SS := seqS (asgS 1 (callF F__law_box [callF F__law_cells [nm 0, cst (.int 1)], cst (.int 0)])) (seqS (asgS 2 (op2 addP (cst (.int 3)) (callF F__law_take [nm 1, cst (.int 3)]))) (seqS (asgS 3 (opN (rgP true) [nm 2])) (seqS (parS [4, 5, 6] [ret (.v (.dc [])), lstD [nm 3], cst (.int 0)]) (seqS (asgG (gL putO 4 (nm 3)) (cst (.int 0))) (seqS (whileL (tstB (op2 (bop neB) (nm 5) (lstD []))) (seqS (asgS 7 (lstD [])) (seqS (forS (srcE (nm 5)) (gN 8) (forS (srcR [op2 subP (nm 2) (cst (.int 1))]) (gN 9) (seqS (asgS 10 (callF F__law_traded [nm 8, nm 9, op2 subP (nm 2) (cst (.int 1))])) (ifS (tstB (op2 (bop ninB) (nm 10) (nm 4))) (seqS (asgG (gL putO 4 (nm 10)) (op2 addP (op2 getP (nm 4) (nm 8)) (cst (.int 1)))) (exprS (mLs appO 7 [nm 10]))) (skipS))))) (asgS 5 (nm 7)))) 100000) (seqS (ifS (tstB (op2 (bop neB) (opN sortedP [nm 4]) (callF F__law_all_orders [nm 2]))) (retS (cst (.bl false))) (skipS)) (seqS (forS (srcE (opN sortedP [nm 4])) (gN 8) (ifS (tstB (op2 (bop neB) (callF F__law_count [nm 8]) (op2 getP (nm 4) (nm 8)))) (retS (cst (.bl false))) (skipS))) (seqS (forS (srcE (callF F__law_pick [nm 1, opN sortedP [nm 4], cst (.int 14)])) (gN 8) (seqS (asgS 11 (callF F_order_tips [opN listP [nm 8]])) (seqS (asgS 12 (callF F_box_behind [callF F__law_first [nm 2], nm 11])) (seqS (asgS 13 (lstD [callF F_order_steps [nm 8], opN lenP [nm 11], op2 getP (nm 12) (cst (.int 0)), callF F_order_sign [nm 8], callF F_is_order [nm 8]])) (seqS (ifS (tOrS (tNotS (tst (callF (F__law_same 12) [nm 13, lstD [op2 getP (nm 4) (nm 8), op2 getP (nm 4) (nm 8), nm 8, op2 subP (cst (.int 1)) (op2 mulP (cst (.int 2)) (op2 modP (op2 getP (nm 4) (nm 8)) (cst (.int 2)))), cst (.bl true)]]))) (tstB (op2 (bop neB) (compS (srcE (nm 11)) (gN 14) (tOrS (tstB (op2 (bop neB) (op2 getP (nm 14) (cst (.int 0))) (cst (.str "tip")))) (tstB (op2 (bop neB) (op2 getP (nm 14) (cst (.int 2))) (cst (.int 1))))) (cst (.int 1)) [14]) (lstD [])))) (retS (cst (.bl false))) (skipS)) (seqS (asgS 9 (callF F__law_take [nm 1, op2 subP (nm 2) (cst (.int 1))])) (seqS (asgS 10 (op2 getP (callF F_stepped [nm 12, tupD [cst (.str "tip"), nm 9, cst (.int 1)]]) (cst (.int 0)))) (ifS (tOrS (tstB (op2 (bop neB) (opN absP [op2 subP (callF F_order_steps [nm 10]) (op2 getP (nm 4) (nm 8))]) (cst (.int 1)))) (tstB (op2 (bop neB) (callF F_order_sign [nm 10]) (op2 subP (cst (.int 0)) (callF F_order_sign [nm 8]))))) (retS (cst (.bl false))) (skipS))))))))) (seqS (asgS 8 (opN tupleP [callF F__law_pick [nm 1, opN (rgP false) [cst (.int 6)], cst (.int 6)]])) (seqS (asgS 11 (callF F_order_tips [nm 8])) (retS (callF (F__law_same 12) [lstD [callF F_order_steps [nm 8], opN lenP [nm 11], op2 getP (callF F__law_put_all [callF F__law_first [cst (.int 6)], nm 11]) (cst (.int 0))], lstD [callF F__law_count [nm 8], callF F__law_count [nm 8], nm 8]]))))))))))))
def F_law : FN := mkF 15 [true] B_law
def T_0 : SS := asgS 1 (callF F__law_box [callF F__law_cells [nm 0, cst (.int 1)], cst (.int 0)])
def T_1 : SS := asgS 2 (op2 addP (cst (.int 3)) (callF F__law_take [nm 1, cst (.int 3)]))
def T_2 : SS := asgS 3 (opN (rgP true) [nm 2])
def T_3 : SS := parS [4, 5, 6] [ret (.v (.dc [])), lstD [nm 3], cst (.int 0)]
def T_4 : SS := asgG (gL putO 4 (nm 3)) (cst (.int 0))
def T_5b_0 : SS := asgS 7 (lstD [])
def T_5b_1b_0b_0 : SS := asgS 10 (callF F__law_traded [nm 8, nm 9, op2 subP (nm 2) (cst (.int 1))])
def T_5b_1b_0b_1t_0 : SS := asgG (gL putO 4 (nm 10)) (op2 addP (op2 getP (nm 4) (nm 8)) (cst (.int 1)))
def T_5b_1b_0b_1t_1 : SS := exprS (mLs appO 7 [nm 10])
def T_5b_1b_0b_1t_a : SS := seqS T_5b_1b_0b_1t_0 (T_5b_1b_0b_1t_1)
def T_5b_1b_0b_1 : SS := ifS (tstB (op2 (bop ninB) (nm 10) (nm 4))) (T_5b_1b_0b_1t_a) (skipS)
def T_5b_1b_0b_a : SS := seqS T_5b_1b_0b_0 (T_5b_1b_0b_1)
def T_5b_1b_0g : TGt := gN 9
def T_5b_1b_0 : SS := forS (srcR [op2 subP (nm 2) (cst (.int 1))]) T_5b_1b_0g (T_5b_1b_0b_a)
def T_5b_1g : TGt := gN 8
def T_5b_1 : SS := forS (srcE (nm 5)) T_5b_1g (T_5b_1b_0)
def T_5b_2 : SS := asgS 5 (nm 7)
def T_5b_a : SS := seqS T_5b_0 (seqS T_5b_1 (T_5b_2))
def T_5c : SE Bool := tstB (op2 (bop neB) (nm 5) (lstD []))
def T_5 : SS := whileL T_5c (T_5b_a) 100000
def T_6t_0 : SS := retS (cst (.bl false))
def T_6 : SS := ifS (tstB (op2 (bop neB) (opN sortedP [nm 4]) (callF F__law_all_orders [nm 2]))) (T_6t_0) (skipS)
def T_7b_0t_0 : SS := retS (cst (.bl false))
def T_7b_0 : SS := ifS (tstB (op2 (bop neB) (callF F__law_count [nm 8]) (op2 getP (nm 4) (nm 8)))) (T_7b_0t_0) (skipS)
def T_7g : TGt := gN 8
def T_7 : SS := forS (srcE (opN sortedP [nm 4])) T_7g (T_7b_0)
def T_8b_0 : SS := asgS 11 (callF F_order_tips [opN listP [nm 8]])
def T_8b_1 : SS := asgS 12 (callF F_box_behind [callF F__law_first [nm 2], nm 11])
def T_8b_2 : SS := asgS 13 (lstD [callF F_order_steps [nm 8], opN lenP [nm 11], op2 getP (nm 12) (cst (.int 0)), callF F_order_sign [nm 8], callF F_is_order [nm 8]])
def T_8b_3t_0 : SS := retS (cst (.bl false))
def T_8b_3 : SS := ifS (tOrS (tNotS (tst (callF (F__law_same 12) [nm 13, lstD [op2 getP (nm 4) (nm 8), op2 getP (nm 4) (nm 8), nm 8, op2 subP (cst (.int 1)) (op2 mulP (cst (.int 2)) (op2 modP (op2 getP (nm 4) (nm 8)) (cst (.int 2)))), cst (.bl true)]]))) (tstB (op2 (bop neB) (compS (srcE (nm 11)) (gN 14) (tOrS (tstB (op2 (bop neB) (op2 getP (nm 14) (cst (.int 0))) (cst (.str "tip")))) (tstB (op2 (bop neB) (op2 getP (nm 14) (cst (.int 2))) (cst (.int 1))))) (cst (.int 1)) [14]) (lstD [])))) (T_8b_3t_0) (skipS)
def T_8b_4 : SS := asgS 9 (callF F__law_take [nm 1, op2 subP (nm 2) (cst (.int 1))])
def T_8b_5 : SS := asgS 10 (op2 getP (callF F_stepped [nm 12, tupD [cst (.str "tip"), nm 9, cst (.int 1)]]) (cst (.int 0)))
def T_8b_6t_0 : SS := retS (cst (.bl false))
def T_8b_6 : SS := ifS (tOrS (tstB (op2 (bop neB) (opN absP [op2 subP (callF F_order_steps [nm 10]) (op2 getP (nm 4) (nm 8))]) (cst (.int 1)))) (tstB (op2 (bop neB) (callF F_order_sign [nm 10]) (op2 subP (cst (.int 0)) (callF F_order_sign [nm 8]))))) (T_8b_6t_0) (skipS)
def T_8b_a : SS := seqS T_8b_0 (seqS T_8b_1 (seqS T_8b_2 (seqS T_8b_3 (seqS T_8b_4 (seqS T_8b_5 (T_8b_6))))))
def T_8g : TGt := gN 8
def T_8 : SS := forS (srcE (callF F__law_pick [nm 1, opN sortedP [nm 4], cst (.int 14)])) T_8g (T_8b_a)
def T_9 : SS := asgS 8 (opN tupleP [callF F__law_pick [nm 1, opN (rgP false) [cst (.int 6)], cst (.int 6)]])
def T_10 : SS := asgS 11 (callF F_order_tips [nm 8])
def T_11 : SS := retS (callF (F__law_same 12) [lstD [callF F_order_steps [nm 8], opN lenP [nm 11], op2 getP (callF F__law_put_all [callF F__law_first [cst (.int 6)], nm 11]) (cst (.int 0))], lstD [callF F__law_count [nm 8], callF F__law_count [nm 8], nm 8]])
def T_a : SS := seqS T_0 (seqS T_1 (seqS T_2 (seqS T_3 (seqS T_4 (seqS T_5 (seqS T_6 (seqS T_7 (seqS T_8 (seqS T_9 (seqS T_10 (T_11)))))))))))
theorem law_pieces : B_law = T_a := rfl
end Lk80
end
/-! file W_k80 -/
section
set_option linter.all false
set_option autoImplicit false
set_option maxRecDepth 100000
set_option maxHeartbeats 0
set_option Elab.async false
namespace Lk80
open PySem PySem.Spec PyProof.Rows L2 Mv Bx
def top (i : Nat) : Stmt := PySem.Challenge.pw_movedchest_k80_main_law_orders_by_fewest.main.body.getD i (.Pass ⟨0, 0, 0, 0⟩)
/-! ### the defs -/
abbrev s_is_number : Stmt := top 3
def d_is_number : He.DefD := ⟨("is_number", none), "is_number", "is_number", defArgs s_is_number, defBody s_is_number, defScope s_is_number, [], []⟩
abbrev s_is_long : Stmt := top 4
def d_is_long : He.DefD := ⟨("is_long", none), "is_long", "is_long", defArgs s_is_long, defBody s_is_long, defScope s_is_long, [], []⟩
abbrev s_tupled : Stmt := top 5
def d_tupled : He.DefD := ⟨("tupled", none), "tupled", "tupled", defArgs s_tupled, defBody s_tupled, defScope s_tupled, [], []⟩
abbrev s_are_numbers : Stmt := top 6
def d_are_numbers : He.DefD := ⟨("are_numbers", none), "are_numbers", "are_numbers", defArgs s_are_numbers, defBody s_are_numbers, defScope s_are_numbers, [], []⟩
abbrev s_is_sign : Stmt := top 13
def d_is_sign : He.DefD := ⟨("is_sign", none), "is_sign", "is_sign", defArgs s_is_sign, defBody s_is_sign, defScope s_is_sign, [], []⟩
abbrev s_are_signs : Stmt := top 14
def d_are_signs : He.DefD := ⟨("are_signs", none), "are_signs", "are_signs", defArgs s_are_signs, defBody s_are_signs, defScope s_are_signs, [], []⟩
abbrev s_is_order_in : Stmt := top 15
def d_is_order_in : He.DefD := ⟨("is_order_in", none), "is_order_in", "is_order_in", defArgs s_is_order_in, defBody s_is_order_in, defScope s_is_order_in, [], []⟩
abbrev s_is_place_in : Stmt := top 16
def d_is_place_in : He.DefD := ⟨("is_place_in", none), "is_place_in", "is_place_in", defArgs s_is_place_in, defBody s_is_place_in, defScope s_is_place_in, [], []⟩
abbrev s_is_step_in : Stmt := top 17
def d_is_step_in : He.DefD := ⟨("is_step_in", none), "is_step_in", "is_step_in", defArgs s_is_step_in, defBody s_is_step_in, defScope s_is_step_in, [], []⟩
abbrev s_sure_place : Stmt := top 18
def d_sure_place : He.DefD := ⟨("sure_place", none), "sure_place", "sure_place", defArgs s_sure_place, defBody s_sure_place, defScope s_sure_place, [], []⟩
abbrev s_sure_order : Stmt := top 19
def d_sure_order : He.DefD := ⟨("sure_order", none), "sure_order", "sure_order", defArgs s_sure_order, defBody s_sure_order, defScope s_sure_order, [], []⟩
abbrev s_sure_step : Stmt := top 20
def d_sure_step : He.DefD := ⟨("sure_step", none), "sure_step", "sure_step", defArgs s_sure_step, defBody s_sure_step, defScope s_sure_step, [], []⟩
abbrev s_added : Stmt := top 21
def d_added : He.DefD := ⟨("added", none), "added", "added", defArgs s_added, defBody s_added, defScope s_added, [], []⟩
abbrev s_exchanged_at : Stmt := top 22
def d_exchanged_at : He.DefD := ⟨("exchanged_at", none), "exchanged_at", "exchanged_at", defArgs s_exchanged_at, defBody s_exchanged_at, defScope s_exchanged_at, [], []⟩
abbrev s_turned_sign : Stmt := top 23
def d_turned_sign : He.DefD := ⟨("turned_sign", none), "turned_sign", "turned_sign", defArgs s_turned_sign, defBody s_turned_sign, defScope s_turned_sign, [], []⟩
abbrev s_with_row : Stmt := top 24
def d_with_row : He.DefD := ⟨("with_row", none), "with_row", "with_row", defArgs s_with_row, defBody s_with_row, defScope s_with_row, [], []⟩
abbrev s_tipped_in : Stmt := top 25
def d_tipped_in : He.DefD := ⟨("tipped_in", none), "tipped_in", "tipped_in", defArgs s_tipped_in, defBody s_tipped_in, defScope s_tipped_in, [], []⟩
abbrev s_turned_in : Stmt := top 26
def d_turned_in : He.DefD := ⟨("turned_in", none), "turned_in", "turned_in", defArgs s_turned_in, defBody s_turned_in, defScope s_turned_in, [], []⟩
abbrev s_stepped_in : Stmt := top 27
def d_stepped_in : He.DefD := ⟨("stepped_in", none), "stepped_in", "stepped_in", defArgs s_stepped_in, defBody s_stepped_in, defScope s_stepped_in, [], []⟩
abbrev s_sign_of : Stmt := top 28
def d_sign_of : He.DefD := ⟨("sign_of", none), "sign_of", "sign_of", defArgs s_sign_of, defBody s_sign_of, defScope s_sign_of, [], []⟩
abbrev s_is_order : Stmt := top 29
def d_is_order : He.DefD := ⟨("is_order", none), "is_order", "is_order", defArgs s_is_order, defBody s_is_order, defScope s_is_order, [], []⟩
abbrev s_stepped : Stmt := top 30
def d_stepped : He.DefD := ⟨("stepped", none), "stepped", "stepped", defArgs s_stepped, defBody s_stepped, defScope s_stepped, [], []⟩
abbrev s_order_sign : Stmt := top 31
def d_order_sign : He.DefD := ⟨("order_sign", none), "order_sign", "order_sign", defArgs s_order_sign, defBody s_order_sign, defScope s_order_sign, [], []⟩
abbrev s_are_steps_in : Stmt := top 33
def d_are_steps_in : He.DefD := ⟨("are_steps_in", none), "are_steps_in", "are_steps_in", defArgs s_are_steps_in, defBody s_are_steps_in, defScope s_are_steps_in, [], []⟩
abbrev s_sure_steps : Stmt := top 34
def d_sure_steps : He.DefD := ⟨("sure_steps", none), "sure_steps", "sure_steps", defArgs s_sure_steps, defBody s_sure_steps, defScope s_sure_steps, [], []⟩
abbrev s_behind_in : Stmt := top 35
def d_behind_in : He.DefD := ⟨("behind_in", none), "behind_in", "behind_in", defArgs s_behind_in, defBody s_behind_in, defScope s_behind_in, [], []⟩
abbrev s_box_behind : Stmt := top 36
def d_box_behind : He.DefD := ⟨("box_behind", none), "box_behind", "box_behind", defArgs s_box_behind, defBody s_box_behind, defScope s_box_behind, [], []⟩
abbrev s_order_tree : Stmt := top 38
def d_order_tree : He.DefD := ⟨("order_tree", none), "order_tree", "order_tree", defArgs s_order_tree, defBody s_order_tree, defScope s_order_tree, [], []⟩
abbrev s_ways_back : Stmt := top 39
def d_ways_back : He.DefD := ⟨("ways_back", none), "ways_back", "ways_back", defArgs s_ways_back, defBody s_ways_back, defScope s_ways_back, [], []⟩
abbrev s_tips_of : Stmt := top 40
def d_tips_of : He.DefD := ⟨("tips_of", none), "tips_of", "tips_of", defArgs s_tips_of, defBody s_tips_of, defScope s_tips_of, [], []⟩
abbrev s_tip_tree : Stmt := top 41
def d_tip_tree : He.DefD := ⟨("tip_tree", none), "tip_tree", "tip_tree", defArgs s_tip_tree, defBody s_tip_tree, defScope s_tip_tree, [], []⟩
abbrev s_to_order : Stmt := top 42
def d_to_order : He.DefD := ⟨("to_order", none), "to_order", "to_order", defArgs s_to_order, defBody s_to_order, defScope s_to_order, [], []⟩
abbrev s_order_tips : Stmt := top 43
def d_order_tips : He.DefD := ⟨("order_tips", none), "order_tips", "order_tips", defArgs s_order_tips, defBody s_order_tips, defScope s_order_tips, [], []⟩
abbrev s_rounds_of : Stmt := top 45
def d_rounds_of : He.DefD := ⟨("rounds_of", none), "rounds_of", "rounds_of", defArgs s_rounds_of, defBody s_rounds_of, defScope s_rounds_of, [], []⟩
abbrev s_order_steps : Stmt := top 44
def d_order_steps : He.DefD := ⟨("order_steps", none), "order_steps", "order_steps", defArgs s_order_steps, defBody s_order_steps, defScope s_order_steps, [], []⟩
abbrev s__law_box : Stmt := top 47
def d__law_box : He.DefD := ⟨("_law_box", none), "_law_box", "_law_box", defArgs s__law_box, defBody s__law_box, defScope s__law_box, [], []⟩
abbrev s__law_take : Stmt := top 48
def d__law_take : He.DefD := ⟨("_law_take", none), "_law_take", "_law_take", defArgs s__law_take, defBody s__law_take, defScope s__law_take, [], []⟩
abbrev s__law_cells : Stmt := top 49
def d__law_cells : He.DefD := ⟨("_law_cells", none), "_law_cells", "_law_cells", defArgs s__law_cells, defBody s__law_cells, defScope s__law_cells, [], []⟩
abbrev s__law_pick : Stmt := top 50
def d__law_pick : He.DefD := ⟨("_law_pick", none), "_law_pick", "_law_pick", defArgs s__law_pick, defBody s__law_pick, defScope s__law_pick, [], []⟩
abbrev s__law_same : Stmt := top 51
def d__law_same : He.DefD := ⟨("_law_same", none), "_law_same", "_law_same", defArgs s__law_same, defBody s__law_same, defScope s__law_same, [], []⟩
abbrev s__law_flip : Stmt := top 52
def d__law_flip : He.DefD := ⟨("_law_flip", none), "_law_flip", "_law_flip", defArgs s__law_flip, defBody s__law_flip, defScope s__law_flip, [], []⟩
abbrev s__law_first : Stmt := top 53
def d__law_first : He.DefD := ⟨("_law_first", none), "_law_first", "_law_first", defArgs s__law_first, defBody s__law_first, defScope s__law_first, [], []⟩
abbrev s__law_traded : Stmt := top 54
def d__law_traded : He.DefD := ⟨("_law_traded", none), "_law_traded", "_law_traded", defArgs s__law_traded, defBody s__law_traded, defScope s__law_traded, [], []⟩
abbrev s__law_more : Stmt := top 55
def d__law_more : He.DefD := ⟨("_law_more", none), "_law_more", "_law_more", defArgs s__law_more, defBody s__law_more, defScope s__law_more, [], []⟩
abbrev s__law_put : Stmt := top 56
def d__law_put : He.DefD := ⟨("_law_put", none), "_law_put", "_law_put", defArgs s__law_put, defBody s__law_put, defScope s__law_put, [], []⟩
abbrev s__law_put_all : Stmt := top 57
def d__law_put_all : He.DefD := ⟨("_law_put_all", none), "_law_put_all", "_law_put_all", defArgs s__law_put_all, defBody s__law_put_all, defScope s__law_put_all, [], []⟩
abbrev s__law_all_orders : Stmt := top 58
def d__law_all_orders : He.DefD := ⟨("_law_all_orders", none), "_law_all_orders", "_law_all_orders", defArgs s__law_all_orders, defBody s__law_all_orders, defScope s__law_all_orders, [], []⟩
abbrev s__law_count : Stmt := top 59
def d__law_count : He.DefD := ⟨("_law_count", none), "_law_count", "_law_count", defArgs s__law_count, defBody s__law_count, defScope s__law_count, [], []⟩
abbrev s_law : Stmt := top 60
def d_law : He.DefD := ⟨("law", none), "law", "law", defArgs s_law, defBody s_law, defScope s_law, [], []⟩
def fnL : List He.DefD := [d_is_number, d_is_long, d_tupled, d_are_numbers, d_is_sign, d_are_signs, d_is_order_in, d_is_place_in, d_is_step_in, d_sure_place, d_sure_order, d_sure_step, d_added, d_exchanged_at, d_turned_sign, d_with_row, d_tipped_in, d_turned_in, d_stepped_in, d_sign_of, d_is_order, d_stepped, d_order_sign, d_are_steps_in, d_sure_steps, d_behind_in, d_box_behind, d_order_tree, d_ways_back, d_tips_of, d_tip_tree, d_to_order, d_order_tips, d_rounds_of, d_order_steps, d__law_box, d__law_take, d__law_cells, d__law_pick, d__law_same, d__law_flip, d__law_first, d__law_traded, d__law_more, d__law_put, d__law_put_all, d__law_all_orders, d__law_count, d_law]
def faL : List He.Fa := [.glo "is_number", .glo "is_long", .glo "tupled", .glo "are_numbers", .glo "is_sign", .glo "are_signs", .glo "is_order_in", .glo "is_place_in", .glo "is_step_in", .glo "sure_place", .glo "sure_order", .glo "sure_step", .glo "added", .glo "exchanged_at", .glo "turned_sign", .glo "with_row", .glo "tipped_in", .glo "turned_in", .glo "stepped_in", .glo "sign_of", .glo "is_order", .glo "stepped", .glo "order_sign", .glo "are_steps_in", .glo "sure_steps", .glo "behind_in", .glo "box_behind", .glo "order_tree", .glo "ways_back", .glo "tips_of", .glo "tip_tree", .glo "to_order", .glo "order_tips", .glo "rounds_of", .glo "order_steps", .glo "_law_box", .glo "_law_take", .glo "_law_cells", .glo "_law_pick", .glo "_law_same", .glo "_law_flip", .glo "_law_first", .glo "_law_traded", .glo "_law_more", .glo "_law_put", .glo "_law_put_all", .glo "_law_all_orders", .glo "_law_count", .glo "law", .free "isinstance", .free "int", .free "bool", .free "tuple", .free "len", .free "list", .free "all", .int "FEWEST_SIDES" 3, .free "sorted", .free "range", .free "str", .str "TIP" "tip", .int "TIP_PARTS" 3, .str "TURN" "turn", .int "TURN_PARTS" 6, .glo "Unfit", .exc "Unfit", .free "enumerate", .free "abs", .free "min", .free "zip"]
section
variable {P : Program} {w : World} {K : PySem.W.Frag} {mg : Str → Option Value} {base : Heap}
abbrev FnP (K : PySem.W.Frag) (x : Str) (st : Stmt) (f : Addr) (fd : FuncData) : Prop := FunD K x x (defArgs st) (defBody st) (defScope st) [] [] f fd
abbrev Gof (K : PySem.W.Frag) (w : World) : Gi := giOf K w []
theorem sc_is_number : FnScope ["thing"] ["thing"] (defScope s_is_number) := ⟨rfl, rfl, rfl, by decide +kernel, rfl, by decide +kernel, by decide +kernel⟩
theorem bd_is_number {f : Addr} {fd : FuncData} (D : FnP K "is_number" s_is_number f fd) : Binds K fd ["thing"] [] := D.bindsN fun _ _ _ _ _ _ us hl => match us, hl with | [_], _ => rfl
theorem K_is_number {f : Addr} {fd : FuncData} (D : FnP K "is_number" s_is_number f fd) (s : Shared) (us : List Value) (x : K.In s.heap) (hl : us.length = 1) : BindsTo s fd ⟨[], (["thing"] : List Str).zip us⟩ ((["thing"] : List Str).zip us) := FunD.bindsK (ps := ["thing"]) D (fun _ _ _ _ _ _ us hl => match us, hl with | [_], _ => rfl) s us x hl
theorem ok_is_number (S : Says faL fnL K mg) (fd : FuncData) (D_is_number : FnP K "is_number" s_is_number (He.ga K "is_number") fd) : FnOk P w K mg base (L2.CX P w) 1 (He.ga K "is_number") fd ["thing"] (spF (Gof K w) 1 F_is_number) := by
  refine fn_ok D_is_number sc_is_number [true] rfl fun cdv A outer s H E hr => ?_
  have tk : Takes (cxOf (L2.CX P w) P w K mg base ["thing"] "is_number" (defScope s_is_number) (He.ga K "is_number") cdv A outer s H E) (fun cls d _ H => E cls d H) := takes_of rfl rfl rfl rfl
  have po : PassesOwn (model P w) (cxOf (L2.CX P w) P w K mg base ["thing"] "is_number" (defScope s_is_number) (He.ga K "is_number") cdv A outer s H E).A (cxOf (L2.CX P w) P w K mg base ["thing"] "is_number" (defScope s_is_number) (He.ga K "is_number") cdv A outer s H E).env (cxOf (L2.CX P w) P w K mg base ["thing"] "is_number" (defScope s_is_number) (He.ga K "is_number") cdv A outer s H E).xe := passes_of rfl
  have hu : (cxOf (L2.CX P w) P w K mg base ["thing"] "is_number" (defScope s_is_number) (He.ga K "is_number") cdv A outer s H E).A.units + 65 < cLine := hu_of hr
  have SC := sc_is_number
  exact jss_one (js_ret (je_and rfl (pe_eq (isiY [.int]) (je_isi (S.free 49) (S.free 50) PyProof.Rows.boot_int kit_int (je_nm 0))) (je_one (je_not rfl (pe_eq (isiY [.bl]) (je_isi (S.free 49) (S.free 51) PyProof.Rows.boot_bool kit_bool (je_nm 0)))))))
theorem sc_is_long : FnScope ["thing", "length"] ["thing", "length"] (defScope s_is_long) := ⟨rfl, rfl, rfl, by decide +kernel, rfl, by decide +kernel, by decide +kernel⟩
theorem bd_is_long {f : Addr} {fd : FuncData} (D : FnP K "is_long" s_is_long f fd) : Binds K fd ["thing", "length"] [] := D.bindsN fun _ _ _ _ _ _ us hl => match us, hl with | [_, _], _ => rfl
theorem K_is_long {f : Addr} {fd : FuncData} (D : FnP K "is_long" s_is_long f fd) (s : Shared) (us : List Value) (x : K.In s.heap) (hl : us.length = 2) : BindsTo s fd ⟨[], (["thing", "length"] : List Str).zip us⟩ ((["thing", "length"] : List Str).zip us) := FunD.bindsK (ps := ["thing", "length"]) D (fun _ _ _ _ _ _ us hl => match us, hl with | [_, _], _ => rfl) s us x hl
theorem ok_is_long (S : Says faL fnL K mg) (fd : FuncData) (D_is_long : FnP K "is_long" s_is_long (He.ga K "is_long") fd) : FnOk P w K mg base (L2.CX P w) 1 (He.ga K "is_long") fd ["thing", "length"] (spF (Gof K w) 2 F_is_long) := by
  refine fn_ok D_is_long sc_is_long [true, true] rfl fun cdv A outer s H E hr => ?_
  have tk : Takes (cxOf (L2.CX P w) P w K mg base ["thing", "length"] "is_long" (defScope s_is_long) (He.ga K "is_long") cdv A outer s H E) (fun cls d _ H => E cls d H) := takes_of rfl rfl rfl rfl
  have po : PassesOwn (model P w) (cxOf (L2.CX P w) P w K mg base ["thing", "length"] "is_long" (defScope s_is_long) (He.ga K "is_long") cdv A outer s H E).A (cxOf (L2.CX P w) P w K mg base ["thing", "length"] "is_long" (defScope s_is_long) (He.ga K "is_long") cdv A outer s H E).env (cxOf (L2.CX P w) P w K mg base ["thing", "length"] "is_long" (defScope s_is_long) (He.ga K "is_long") cdv A outer s H E).xe := passes_of rfl
  have hu : (cxOf (L2.CX P w) P w K mg base ["thing", "length"] "is_long" (defScope s_is_long) (He.ga K "is_long") cdv A outer s H E).A.units + 65 < cLine := hu_of hr
  have SC := sc_is_long
  exact jss_one (js_ret (je_and rfl (pe_eq (isiY [.tup]) (je_isi (S.free 49) (S.free 52) PyProof.Rows.boot_tuple kit_tuple (je_nm 0))) (je_one (je_cmp (op_eqD (hu64 hu)) (s_eq rfl) (je_blt c_len (s_len rfl) (S.free 53) boot_len (ja_cons (je_nm 0) (ja_nil))) (je_nm 1) (nomark _)))))
theorem sc_tupled : FnScope ["value", "own"] ["value"] (defScope s_tupled) := ⟨rfl, rfl, rfl, by decide +kernel, rfl, by decide +kernel, by decide +kernel⟩
theorem bd_tupled {f : Addr} {fd : FuncData} (D : FnP K "tupled" s_tupled f fd) : Binds K fd ["value"] [] := D.bindsN fun _ _ _ _ _ _ us hl => match us, hl with | [_], _ => rfl
theorem K_tupled {f : Addr} {fd : FuncData} (D : FnP K "tupled" s_tupled f fd) (s : Shared) (us : List Value) (x : K.In s.heap) (hl : us.length = 1) : BindsTo s fd ⟨[], (["value"] : List Str).zip us⟩ ((["value"] : List Str).zip us) := FunD.bindsK (ps := ["value"]) D (fun _ _ _ _ _ _ us hl => match us, hl with | [_], _ => rfl) s us x hl
theorem okf_tupled (S : Says faL fnL K mg) (fd_tupled : FuncData) (D_tupled : FnP K "tupled" s_tupled (He.ga K "tupled") fd_tupled) (n : Nat) : FnOk P w K mg base (L2.CX P w) (1 + n) (He.ga K "tupled") fd_tupled ["value"] (spF (Gof K w) 1 (F_tupled n)) := by
  induction n with
  | zero => exact fn_bad D_tupled sc_tupled
  | succ n ih =>
    refine fn_ok (k := 1 + n) D_tupled sc_tupled [true] rfl fun cdv A outer s H E hr => ?_
    have hr0 := hr
    have tk : Takes (cxOf (L2.CX P w) P w K mg base ["value", "own"] "tupled" (defScope s_tupled) (He.ga K "tupled") cdv A outer s H E) (fun cls d _ H => E cls d H) := takes_of rfl rfl rfl rfl
    have po : PassesOwn (model P w) (cxOf (L2.CX P w) P w K mg base ["value", "own"] "tupled" (defScope s_tupled) (He.ga K "tupled") cdv A outer s H E).A (cxOf (L2.CX P w) P w K mg base ["value", "own"] "tupled" (defScope s_tupled) (He.ga K "tupled") cdv A outer s H E).env (cxOf (L2.CX P w) P w K mg base ["value", "own"] "tupled" (defScope s_tupled) (He.ga K "tupled") cdv A outer s H E).xe := passes_of rfl
    have hu : (cxOf (L2.CX P w) P w K mg base ["value", "own"] "tupled" (defScope s_tupled) (He.ga K "tupled") cdv A outer s H E).A.units + 65 < cLine := hu_of hr
    have SC := sc_tupled
    exact jss_one (js_ret (je_if (jt_tst rfl (pe_eq (isiY [.lst, .tup]) (je_isi2 (S.free 49) (S.free 54) (S.free 52) PyProof.Rows.boot_list PyProof.Rows.boot_tuple kit_list kit_tuple (je_nm 0)))) (je_typ call_tuple_of (s_tuple rfl) (S.free 52) boot_tuple (ja_cons (je_lc rfl SC.nd (ji_seq rfl (je_nm 0)) (own := [("own", 1)]) (blkOk_by (by kernel_rfl)) (fun s H C cl fp => jg_name SC.nd (i := 1) rfl (by first | exact Or.inl rfl | exact Or.inr rfl)) (fun s H C cl fp => jts_nil) (fun s H C cl fp => je_call ih hr0 (S.glo 2) D_tupled.kp (bd_tupled D_tupled) takes0 (ja_cons (je_nm 1) (ja_nil)))) (ja_nil))) (je_nm 0)))
theorem ok_tupled (S : Says faL fnL K mg) (fd : FuncData) (D_tupled : FnP K "tupled" s_tupled (He.ga K "tupled") fd) : FnOk P w K mg base (L2.CX P w) 13 (He.ga K "tupled") fd ["value"] (spF (Gof K w) 1 (F_tupled 12)) := okf_tupled S fd D_tupled 12
theorem sc_are_numbers : FnScope ["thing", "own"] ["thing"] (defScope s_are_numbers) := ⟨rfl, rfl, rfl, by decide +kernel, rfl, by decide +kernel, by decide +kernel⟩
theorem bd_are_numbers {f : Addr} {fd : FuncData} (D : FnP K "are_numbers" s_are_numbers f fd) : Binds K fd ["thing"] [] := D.bindsN fun _ _ _ _ _ _ us hl => match us, hl with | [_], _ => rfl
theorem K_are_numbers {f : Addr} {fd : FuncData} (D : FnP K "are_numbers" s_are_numbers f fd) (s : Shared) (us : List Value) (x : K.In s.heap) (hl : us.length = 1) : BindsTo s fd ⟨[], (["thing"] : List Str).zip us⟩ ((["thing"] : List Str).zip us) := FunD.bindsK (ps := ["thing"]) D (fun _ _ _ _ _ _ us hl => match us, hl with | [_], _ => rfl) s us x hl
theorem ok_are_numbers (S : Says faL fnL K mg) (fd : FuncData) (D_are_numbers : FnP K "are_numbers" s_are_numbers (He.ga K "are_numbers") fd) : FnOk P w K mg base (L2.CX P w) 2 (He.ga K "are_numbers") fd ["thing"] (spF (Gof K w) 1 F_are_numbers) := by
  obtain ⟨fd_is_number, D_is_number⟩ := S.c.def_ 0 (d := d_is_number) rfl
  refine fn_ok D_are_numbers sc_are_numbers [true] rfl fun cdv A outer s H E hr => ?_
  have tk : Takes (cxOf (L2.CX P w) P w K mg base ["thing", "own"] "are_numbers" (defScope s_are_numbers) (He.ga K "are_numbers") cdv A outer s H E) (fun cls d _ H => E cls d H) := takes_of rfl rfl rfl rfl
  have po : PassesOwn (model P w) (cxOf (L2.CX P w) P w K mg base ["thing", "own"] "are_numbers" (defScope s_are_numbers) (He.ga K "are_numbers") cdv A outer s H E).A (cxOf (L2.CX P w) P w K mg base ["thing", "own"] "are_numbers" (defScope s_are_numbers) (He.ga K "are_numbers") cdv A outer s H E).env (cxOf (L2.CX P w) P w K mg base ["thing", "own"] "are_numbers" (defScope s_are_numbers) (He.ga K "are_numbers") cdv A outer s H E).xe := passes_of rfl
  have hu : (cxOf (L2.CX P w) P w K mg base ["thing", "own"] "are_numbers" (defScope s_are_numbers) (He.ga K "are_numbers") cdv A outer s H E).A.units + 65 < cLine := hu_of hr
  have SC := sc_are_numbers
  exact jss_one (js_ret (je_and rfl (pe_eq (isiY [.tup]) (je_isi (S.free 49) (S.free 52) PyProof.Rows.boot_tuple kit_tuple (je_nm 0))) (je_one (je_blt (cr_all rfl) (s_all rfl) (S.free 55) boot_all (ja_cons (je_lc rfl SC.nd (ji_seq rfl (je_nm 0)) (own := [("own", 1)]) (blkOk_by (by kernel_rfl)) (fun s H C cl fp => jg_name SC.nd (i := 1) rfl (by first | exact Or.inl rfl | exact Or.inr rfl)) (fun s H C cl fp => jts_nil) (fun s H C cl fp => je_call (ok_is_number S fd_is_number D_is_number) (hr.mono (by decide)) (S.glo 0) D_is_number.kp (bd_is_number D_is_number) takes0 (ja_cons (je_nm 1) (ja_nil)))) (ja_nil))))))
theorem sc_is_sign : FnScope ["thing"] ["thing"] (defScope s_is_sign) := ⟨rfl, rfl, rfl, by decide +kernel, rfl, by decide +kernel, by decide +kernel⟩
theorem bd_is_sign {f : Addr} {fd : FuncData} (D : FnP K "is_sign" s_is_sign f fd) : Binds K fd ["thing"] [] := D.bindsN fun _ _ _ _ _ _ us hl => match us, hl with | [_], _ => rfl
theorem K_is_sign {f : Addr} {fd : FuncData} (D : FnP K "is_sign" s_is_sign f fd) (s : Shared) (us : List Value) (x : K.In s.heap) (hl : us.length = 1) : BindsTo s fd ⟨[], (["thing"] : List Str).zip us⟩ ((["thing"] : List Str).zip us) := FunD.bindsK (ps := ["thing"]) D (fun _ _ _ _ _ _ us hl => match us, hl with | [_], _ => rfl) s us x hl
theorem ok_is_sign (S : Says faL fnL K mg) (fd : FuncData) (D_is_sign : FnP K "is_sign" s_is_sign (He.ga K "is_sign") fd) : FnOk P w K mg base (L2.CX P w) 2 (He.ga K "is_sign") fd ["thing"] (spF (Gof K w) 1 F_is_sign) := by
  obtain ⟨fd_is_number, D_is_number⟩ := S.c.def_ 0 (d := d_is_number) rfl
  refine fn_ok D_is_sign sc_is_sign [true] rfl fun cdv A outer s H E hr => ?_
  have tk : Takes (cxOf (L2.CX P w) P w K mg base ["thing"] "is_sign" (defScope s_is_sign) (He.ga K "is_sign") cdv A outer s H E) (fun cls d _ H => E cls d H) := takes_of rfl rfl rfl rfl
  have po : PassesOwn (model P w) (cxOf (L2.CX P w) P w K mg base ["thing"] "is_sign" (defScope s_is_sign) (He.ga K "is_sign") cdv A outer s H E).A (cxOf (L2.CX P w) P w K mg base ["thing"] "is_sign" (defScope s_is_sign) (He.ga K "is_sign") cdv A outer s H E).env (cxOf (L2.CX P w) P w K mg base ["thing"] "is_sign" (defScope s_is_sign) (He.ga K "is_sign") cdv A outer s H E).xe := passes_of rfl
  have hu : (cxOf (L2.CX P w) P w K mg base ["thing"] "is_sign" (defScope s_is_sign) (He.ga K "is_sign") cdv A outer s H E).A.units + 65 < cLine := hu_of hr
  have SC := sc_is_sign
  exact jss_one (js_ret (je_and rfl (je_call (ok_is_number S fd_is_number D_is_number) (hr.mono (by decide)) (S.glo 0) D_is_number.kp (bd_is_number D_is_number) tk (ja_cons (je_nm 0) (ja_nil))) (je_one (je_cmp (op_inG (g := Gof K w) hu rfl rfl) (s_in rfl) (je_nm 0) (je_tup (by decide) (ja_cons (je_int) (ja_cons (je_un un_neg s_neg (je_int)) (ja_nil)))) (by with_unfolding_all rfl)))))
theorem sc_are_signs : FnScope ["thing", "own"] ["thing"] (defScope s_are_signs) := ⟨rfl, rfl, rfl, by decide +kernel, rfl, by decide +kernel, by decide +kernel⟩
theorem bd_are_signs {f : Addr} {fd : FuncData} (D : FnP K "are_signs" s_are_signs f fd) : Binds K fd ["thing"] [] := D.bindsN fun _ _ _ _ _ _ us hl => match us, hl with | [_], _ => rfl
theorem K_are_signs {f : Addr} {fd : FuncData} (D : FnP K "are_signs" s_are_signs f fd) (s : Shared) (us : List Value) (x : K.In s.heap) (hl : us.length = 1) : BindsTo s fd ⟨[], (["thing"] : List Str).zip us⟩ ((["thing"] : List Str).zip us) := FunD.bindsK (ps := ["thing"]) D (fun _ _ _ _ _ _ us hl => match us, hl with | [_], _ => rfl) s us x hl
theorem ok_are_signs (S : Says faL fnL K mg) (fd : FuncData) (D_are_signs : FnP K "are_signs" s_are_signs (He.ga K "are_signs") fd) : FnOk P w K mg base (L2.CX P w) 3 (He.ga K "are_signs") fd ["thing"] (spF (Gof K w) 1 F_are_signs) := by
  obtain ⟨fd_is_sign, D_is_sign⟩ := S.c.def_ 4 (d := d_is_sign) rfl
  refine fn_ok D_are_signs sc_are_signs [true] rfl fun cdv A outer s H E hr => ?_
  have tk : Takes (cxOf (L2.CX P w) P w K mg base ["thing", "own"] "are_signs" (defScope s_are_signs) (He.ga K "are_signs") cdv A outer s H E) (fun cls d _ H => E cls d H) := takes_of rfl rfl rfl rfl
  have po : PassesOwn (model P w) (cxOf (L2.CX P w) P w K mg base ["thing", "own"] "are_signs" (defScope s_are_signs) (He.ga K "are_signs") cdv A outer s H E).A (cxOf (L2.CX P w) P w K mg base ["thing", "own"] "are_signs" (defScope s_are_signs) (He.ga K "are_signs") cdv A outer s H E).env (cxOf (L2.CX P w) P w K mg base ["thing", "own"] "are_signs" (defScope s_are_signs) (He.ga K "are_signs") cdv A outer s H E).xe := passes_of rfl
  have hu : (cxOf (L2.CX P w) P w K mg base ["thing", "own"] "are_signs" (defScope s_are_signs) (He.ga K "are_signs") cdv A outer s H E).A.units + 65 < cLine := hu_of hr
  have SC := sc_are_signs
  exact jss_one (js_ret (je_and rfl (pe_eq (isiY [.tup]) (je_isi (S.free 49) (S.free 52) PyProof.Rows.boot_tuple kit_tuple (je_nm 0))) (je_one (je_blt (cr_all rfl) (s_all rfl) (S.free 55) boot_all (ja_cons (je_lc rfl SC.nd (ji_seq rfl (je_nm 0)) (own := [("own", 1)]) (blkOk_by (by kernel_rfl)) (fun s H C cl fp => jg_name SC.nd (i := 1) rfl (by first | exact Or.inl rfl | exact Or.inr rfl)) (fun s H C cl fp => jts_nil) (fun s H C cl fp => je_call (ok_is_sign S fd_is_sign D_is_sign) (hr.mono (by decide)) (S.glo 4) D_is_sign.kp (bd_is_sign D_is_sign) takes0 (ja_cons (je_nm 1) (ja_nil)))) (ja_nil))))))
theorem sc_is_order_in : FnScope ["thing"] ["thing"] (defScope s_is_order_in) := ⟨rfl, rfl, rfl, by decide +kernel, rfl, by decide +kernel, by decide +kernel⟩
theorem bd_is_order_in {f : Addr} {fd : FuncData} (D : FnP K "is_order_in" s_is_order_in f fd) : Binds K fd ["thing"] [] := D.bindsN fun _ _ _ _ _ _ us hl => match us, hl with | [_], _ => rfl
theorem K_is_order_in {f : Addr} {fd : FuncData} (D : FnP K "is_order_in" s_is_order_in f fd) (s : Shared) (us : List Value) (x : K.In s.heap) (hl : us.length = 1) : BindsTo s fd ⟨[], (["thing"] : List Str).zip us⟩ ((["thing"] : List Str).zip us) := FunD.bindsK (ps := ["thing"]) D (fun _ _ _ _ _ _ us hl => match us, hl with | [_], _ => rfl) s us x hl
theorem ok_is_order_in (S : Says faL fnL K mg) (fd : FuncData) (D_is_order_in : FnP K "is_order_in" s_is_order_in (He.ga K "is_order_in") fd) : FnOk P w K mg base (L2.CX P w) 3 (He.ga K "is_order_in") fd ["thing"] (spF (Gof K w) 1 F_is_order_in) := by
  obtain ⟨fd_are_numbers, D_are_numbers⟩ := S.c.def_ 3 (d := d_are_numbers) rfl
  refine fn_ok D_is_order_in sc_is_order_in [true] rfl fun cdv A outer s H E hr => ?_
  have tk : Takes (cxOf (L2.CX P w) P w K mg base ["thing"] "is_order_in" (defScope s_is_order_in) (He.ga K "is_order_in") cdv A outer s H E) (fun cls d _ H => E cls d H) := takes_of rfl rfl rfl rfl
  have po : PassesOwn (model P w) (cxOf (L2.CX P w) P w K mg base ["thing"] "is_order_in" (defScope s_is_order_in) (He.ga K "is_order_in") cdv A outer s H E).A (cxOf (L2.CX P w) P w K mg base ["thing"] "is_order_in" (defScope s_is_order_in) (He.ga K "is_order_in") cdv A outer s H E).env (cxOf (L2.CX P w) P w K mg base ["thing"] "is_order_in" (defScope s_is_order_in) (He.ga K "is_order_in") cdv A outer s H E).xe := passes_of rfl
  have hu : (cxOf (L2.CX P w) P w K mg base ["thing"] "is_order_in" (defScope s_is_order_in) (He.ga K "is_order_in") cdv A outer s H E).A.units + 65 < cLine := hu_of hr
  have SC := sc_is_order_in
  exact jss_one (js_ret (je_and rfl (je_call (ok_are_numbers S fd_are_numbers D_are_numbers) (hr.mono (by decide)) (S.glo 3) D_are_numbers.kp (bd_are_numbers D_are_numbers) tk (ja_cons (je_nm 0) (ja_nil))) (je_and rfl (je_cmp op_ge s_ge (je_blt c_len (s_len rfl) (S.free 53) boot_len (ja_cons (je_nm 0) (ja_nil))) (gint (S.int 56)) (nomark _)) (je_one (je_cmp (op_eqD (hu64 hu)) (s_eq rfl) (je_blt (cr_srt rfl hu rfl) s_sorted (S.free 57) boot_sorted (ja_cons (je_nm 0) (ja_nil))) (je_lstR1 rfl (S.free 54) (S.free 58) (je_blt c_len (s_len rfl) (S.free 53) boot_len (ja_cons (je_nm 0) (ja_nil)))) (nomark _))))))
theorem sc_is_place_in : FnScope ["thing", "sides", "row"] ["thing"] (defScope s_is_place_in) := ⟨rfl, rfl, rfl, by decide +kernel, rfl, by decide +kernel, by decide +kernel⟩
theorem bd_is_place_in {f : Addr} {fd : FuncData} (D : FnP K "is_place_in" s_is_place_in f fd) : Binds K fd ["thing"] [] := D.bindsN fun _ _ _ _ _ _ us hl => match us, hl with | [_], _ => rfl
theorem K_is_place_in {f : Addr} {fd : FuncData} (D : FnP K "is_place_in" s_is_place_in f fd) (s : Shared) (us : List Value) (x : K.In s.heap) (hl : us.length = 1) : BindsTo s fd ⟨[], (["thing"] : List Str).zip us⟩ ((["thing"] : List Str).zip us) := FunD.bindsK (ps := ["thing"]) D (fun _ _ _ _ _ _ us hl => match us, hl with | [_], _ => rfl) s us x hl
theorem ok_is_place_in (S : Says faL fnL K mg) (fd : FuncData) (D_is_place_in : FnP K "is_place_in" s_is_place_in (He.ga K "is_place_in") fd) : FnOk P w K mg base (L2.CX P w) 4 (He.ga K "is_place_in") fd ["thing"] (spF (Gof K w) 1 F_is_place_in) := by
  obtain ⟨fd_are_numbers, D_are_numbers⟩ := S.c.def_ 3 (d := d_are_numbers) rfl
  obtain ⟨fd_are_signs, D_are_signs⟩ := S.c.def_ 5 (d := d_are_signs) rfl
  obtain ⟨fd_is_long, D_is_long⟩ := S.c.def_ 1 (d := d_is_long) rfl
  obtain ⟨fd_is_order_in, D_is_order_in⟩ := S.c.def_ 6 (d := d_is_order_in) rfl
  refine fn_ok D_is_place_in sc_is_place_in [true] rfl fun cdv A outer s H E hr => ?_
  have tk : Takes (cxOf (L2.CX P w) P w K mg base ["thing", "sides", "row"] "is_place_in" (defScope s_is_place_in) (He.ga K "is_place_in") cdv A outer s H E) (fun cls d _ H => E cls d H) := takes_of rfl rfl rfl rfl
  have po : PassesOwn (model P w) (cxOf (L2.CX P w) P w K mg base ["thing", "sides", "row"] "is_place_in" (defScope s_is_place_in) (He.ga K "is_place_in") cdv A outer s H E).A (cxOf (L2.CX P w) P w K mg base ["thing", "sides", "row"] "is_place_in" (defScope s_is_place_in) (He.ga K "is_place_in") cdv A outer s H E).env (cxOf (L2.CX P w) P w K mg base ["thing", "sides", "row"] "is_place_in" (defScope s_is_place_in) (He.ga K "is_place_in") cdv A outer s H E).xe := passes_of rfl
  have hu : (cxOf (L2.CX P w) P w K mg base ["thing", "sides", "row"] "is_place_in" (defScope s_is_place_in) (He.ga K "is_place_in") cdv A outer s H E).A.units + 65 < cLine := hu_of hr
  have SC := sc_is_place_in
  exact jss_cons (js_if (jt_w (jw_or (jt_not (jt_tst rfl (je_call (ok_is_long S fd_is_long D_is_long) (hr.mono (by decide)) (S.glo 1) D_is_long.kp (bd_is_long D_is_long) tk (ja_cons (je_nm 0) (ja_cons (je_int) (ja_nil)))))) (jw_or (jt_not (jt_tst rfl (je_call (ok_is_order_in S fd_is_order_in D_is_order_in) (hr.mono (by decide)) (S.glo 6) D_is_order_in.kp (bd_is_order_in D_is_order_in) tk (ja_cons (je_ix (ix_G (g := Gof K w) (hu9 hu) rfl rfl) (s_get rfl) (je_nm 0) (je_int)) (ja_nil))))) (jw_or1 (jt_not (jt_tst rfl (je_call (ok_are_signs S fd_are_signs D_are_signs) (hr.mono (by decide)) (S.glo 5) D_are_signs.kp (bd_are_signs D_are_signs) tk (ja_cons (je_ix (ix_G (g := Gof K w) (hu9 hu) rfl rfl) (s_get rfl) (je_nm 0) (je_int)) (ja_nil))))))))) (jss_one (js_ret (je_bl))) (jss_nil)) (jss_cons (js_set SC.nd (i := 1) rfl (by first | exact Or.inl rfl | exact Or.inr rfl) (je_blt c_len (s_len rfl) (S.free 53) boot_len (ja_cons (je_ix (ix_G (g := Gof K w) (hu9 hu) rfl rfl) (s_get rfl) (je_nm 0) (je_int)) (ja_nil)))) (jss_cons (js_if (jt_w (jw_or (jt_cmp (op_neD (hu64 hu)) (s_ne rfl) (je_blt c_len (s_len rfl) (S.free 53) boot_len (ja_cons (je_ix (ix_G (g := Gof K w) (hu9 hu) rfl rfl) (s_get rfl) (je_nm 0) (je_int)) (ja_nil))) (je_nm 1) (nomark _)) (jw_or1 (jt_not (jt_tst rfl (je_call (ok_is_long S fd_is_long D_is_long) (hr.mono (by decide)) (S.glo 1) D_is_long.kp (bd_is_long D_is_long) tk (ja_cons (je_ix (ix_G (g := Gof K w) (hu9 hu) rfl rfl) (s_get rfl) (je_nm 0) (je_int)) (ja_cons (je_bin op_sub s_sub (je_nm 1) (je_int)) (ja_nil))))))))) (jss_one (js_ret (je_bl))) (jss_nil)) (jss_one (js_ret (je_blt (cr_all rfl) (s_all rfl) (S.free 55) boot_all (ja_cons (je_lc rfl SC.nd (ji_seq rfl (je_ix (ix_G (g := Gof K w) (hu9 hu) rfl rfl) (s_get rfl) (je_nm 0) (je_int))) (own := [("row", 2)]) (blkOk_by (by kernel_rfl)) (fun s H C cl fp => jg_name SC.nd (i := 2) rfl (by first | exact Or.inl rfl | exact Or.inr rfl)) (fun s H C cl fp => jts_nil) (fun s H C cl fp => je_and rfl (je_call (ok_are_numbers S fd_are_numbers D_are_numbers) (hr.mono (by decide)) (S.glo 3) D_are_numbers.kp (bd_are_numbers D_are_numbers) takes0 (ja_cons (je_nm 2) (ja_nil))) (je_one (je_cmp (op_eqD (hu64 hu)) (s_eq rfl) (je_blt c_len (s_len rfl) (S.free 53) boot_len (ja_cons (je_nm 2) (ja_nil))) (je_nm 1) (nomark _))))) (ja_nil)))))))
theorem sc_is_step_in : FnScope ["sides", "thing"] ["sides", "thing"] (defScope s_is_step_in) := ⟨rfl, rfl, rfl, by decide +kernel, rfl, by decide +kernel, by decide +kernel⟩
theorem bd_is_step_in {f : Addr} {fd : FuncData} (D : FnP K "is_step_in" s_is_step_in f fd) : Binds K fd ["sides", "thing"] [] := D.bindsN fun _ _ _ _ _ _ us hl => match us, hl with | [_, _], _ => rfl
theorem K_is_step_in {f : Addr} {fd : FuncData} (D : FnP K "is_step_in" s_is_step_in f fd) (s : Shared) (us : List Value) (x : K.In s.heap) (hl : us.length = 2) : BindsTo s fd ⟨[], (["sides", "thing"] : List Str).zip us⟩ ((["sides", "thing"] : List Str).zip us) := FunD.bindsK (ps := ["sides", "thing"]) D (fun _ _ _ _ _ _ us hl => match us, hl with | [_, _], _ => rfl) s us x hl
theorem ok_is_step_in (S : Says faL fnL K mg) (fd : FuncData) (D_is_step_in : FnP K "is_step_in" s_is_step_in (He.ga K "is_step_in") fd) : FnOk P w K mg base (L2.CX P w) 4 (He.ga K "is_step_in") fd ["sides", "thing"] (spF (Gof K w) 2 F_is_step_in) := by
  obtain ⟨fd_are_numbers, D_are_numbers⟩ := S.c.def_ 3 (d := d_are_numbers) rfl
  obtain ⟨fd_are_signs, D_are_signs⟩ := S.c.def_ 5 (d := d_are_signs) rfl
  obtain ⟨fd_is_sign, D_is_sign⟩ := S.c.def_ 4 (d := d_is_sign) rfl
  refine fn_ok D_is_step_in sc_is_step_in [true, true] rfl fun cdv A outer s H E hr => ?_
  have tk : Takes (cxOf (L2.CX P w) P w K mg base ["sides", "thing"] "is_step_in" (defScope s_is_step_in) (He.ga K "is_step_in") cdv A outer s H E) (fun cls d _ H => E cls d H) := takes_of rfl rfl rfl rfl
  have po : PassesOwn (model P w) (cxOf (L2.CX P w) P w K mg base ["sides", "thing"] "is_step_in" (defScope s_is_step_in) (He.ga K "is_step_in") cdv A outer s H E).A (cxOf (L2.CX P w) P w K mg base ["sides", "thing"] "is_step_in" (defScope s_is_step_in) (He.ga K "is_step_in") cdv A outer s H E).env (cxOf (L2.CX P w) P w K mg base ["sides", "thing"] "is_step_in" (defScope s_is_step_in) (He.ga K "is_step_in") cdv A outer s H E).xe := passes_of rfl
  have hu : (cxOf (L2.CX P w) P w K mg base ["sides", "thing"] "is_step_in" (defScope s_is_step_in) (He.ga K "is_step_in") cdv A outer s H E).A.units + 65 < cLine := hu_of hr
  have SC := sc_is_step_in
  exact jss_cons (js_if (jt_w (jw_or (jt_not (jt_tst rfl (pe_eq (isiY [.tup]) (je_isi (S.free 49) (S.free 52) PyProof.Rows.boot_tuple kit_tuple (je_nm 1))))) (jw_or (jt_cmp (op_eqD (hu64 hu)) (s_eq rfl) (je_nm 1) (je_tup (by decide) (ja_nil)) (nomark _)) (jw_or1 (jt_not (jt_tst rfl (pe_eq (isiY [.str]) (je_isi (S.free 49) (S.free 59) PyProof.Rows.boot_str kit_str (je_ix (ix_G (g := Gof K w) (hu9 hu) rfl rfl) (s_get rfl) (je_nm 1) (je_int)))))))))) (jss_one (js_ret (je_bl))) (jss_nil)) (jss_cons (js_if (jt_not (jt_tst rfl (je_call (ok_are_numbers S fd_are_numbers D_are_numbers) (hr.mono (by decide)) (S.glo 3) D_are_numbers.kp (bd_are_numbers D_are_numbers) tk (ja_cons (je_sl sl_A (s_sl rfl) (je_nm 1) (jo_some (je_int)) (jo_none)) (ja_nil))))) (jss_one (js_ret (je_bl))) (jss_nil)) (jss_cons (js_if (jt_cmp (op_eqD (hu64 hu)) (s_eq rfl) (je_ix (ix_G (g := Gof K w) (hu9 hu) rfl rfl) (s_get rfl) (je_nm 1) (je_int)) (gstr (S.str 60)) (nomark _)) (jss_one (js_ret (je_and rfl (je_cmp (op_eqD (hu64 hu)) (s_eq rfl) (je_blt c_len (s_len rfl) (S.free 53) boot_len (ja_cons (je_nm 1) (ja_nil))) (gint (S.int 61)) (nomark _)) (je_and rfl (je_ch op_le op_lt s_le s_lt (je_int) (je_ix (ix_G (g := Gof K w) (hu9 hu) rfl rfl) (s_get rfl) (je_nm 1) (je_int)) (je_bin op_sub s_sub (je_nm 0) (je_int))) (je_one (je_call (ok_is_sign S fd_is_sign D_is_sign) (hr.mono (by decide)) (S.glo 4) D_is_sign.kp (bd_is_sign D_is_sign) tk (ja_cons (je_ix (ix_G (g := Gof K w) (hu9 hu) rfl rfl) (s_get rfl) (je_nm 1) (je_int)) (ja_nil)))))))) (jss_nil)) (jss_cons (js_if (jt_w (jw_or (jt_cmp (op_neD (hu64 hu)) (s_ne rfl) (je_ix (ix_G (g := Gof K w) (hu9 hu) rfl rfl) (s_get rfl) (je_nm 1) (je_int)) (gstr (S.str 62)) (nomark _)) (jw_or1 (jt_cmp (op_neD (hu64 hu)) (s_ne rfl) (je_blt c_len (s_len rfl) (S.free 53) boot_len (ja_cons (je_nm 1) (ja_nil))) (gint (S.int 63)) (nomark _))))) (jss_one (js_ret (je_bl))) (jss_nil)) (jss_one (js_ret (je_and rfl (je_ch3 op_le op_lt op_lt s_le s_lt s_lt (je_int) (je_ix (ix_G (g := Gof K w) (hu9 hu) rfl rfl) (s_get rfl) (je_nm 1) (je_int)) (je_ix (ix_G (g := Gof K w) (hu9 hu) rfl rfl) (s_get rfl) (je_nm 1) (je_int)) (je_bin op_sub s_sub (je_nm 0) (je_int))) (je_one (je_call (ok_are_signs S fd_are_signs D_are_signs) (hr.mono (by decide)) (S.glo 5) D_are_signs.kp (bd_are_signs D_are_signs) tk (ja_cons (je_sl sl_A (s_sl rfl) (je_nm 1) (jo_some (je_int)) (jo_none)) (ja_nil))))))))))
theorem sc_sure_place : FnScope ["place", "own"] ["place"] (defScope s_sure_place) := ⟨rfl, rfl, rfl, by decide +kernel, rfl, by decide +kernel, by decide +kernel⟩
theorem bd_sure_place {f : Addr} {fd : FuncData} (D : FnP K "sure_place" s_sure_place f fd) : Binds K fd ["place"] [] := D.bindsN fun _ _ _ _ _ _ us hl => match us, hl with | [_], _ => rfl
theorem K_sure_place {f : Addr} {fd : FuncData} (D : FnP K "sure_place" s_sure_place f fd) (s : Shared) (us : List Value) (x : K.In s.heap) (hl : us.length = 1) : BindsTo s fd ⟨[], (["place"] : List Str).zip us⟩ ((["place"] : List Str).zip us) := FunD.bindsK (ps := ["place"]) D (fun _ _ _ _ _ _ us hl => match us, hl with | [_], _ => rfl) s us x hl
theorem ok_sure_place (S : Says faL fnL K mg) (fd : FuncData) (D_sure_place : FnP K "sure_place" s_sure_place (He.ga K "sure_place") fd) : FnOk P w K mg base (L2.CX P w) 14 (He.ga K "sure_place") fd ["place"] (spF (Gof K w) 1 F_sure_place) := by
  obtain ⟨fd_is_place_in, D_is_place_in⟩ := S.c.def_ 7 (d := d_is_place_in) rfl
  obtain ⟨fd_tupled, D_tupled⟩ := S.c.def_ 2 (d := d_tupled) rfl
  refine fn_ok D_sure_place sc_sure_place [true] rfl fun cdv A outer s H E hr => ?_
  have tk : Takes (cxOf (L2.CX P w) P w K mg base ["place", "own"] "sure_place" (defScope s_sure_place) (He.ga K "sure_place") cdv A outer s H E) (fun cls d _ H => E cls d H) := takes_of rfl rfl rfl rfl
  have po : PassesOwn (model P w) (cxOf (L2.CX P w) P w K mg base ["place", "own"] "sure_place" (defScope s_sure_place) (He.ga K "sure_place") cdv A outer s H E).A (cxOf (L2.CX P w) P w K mg base ["place", "own"] "sure_place" (defScope s_sure_place) (He.ga K "sure_place") cdv A outer s H E).env (cxOf (L2.CX P w) P w K mg base ["place", "own"] "sure_place" (defScope s_sure_place) (He.ga K "sure_place") cdv A outer s H E).xe := passes_of rfl
  have hu : (cxOf (L2.CX P w) P w K mg base ["place", "own"] "sure_place" (defScope s_sure_place) (He.ga K "sure_place") cdv A outer s H E).A.units + 65 < cLine := hu_of hr
  have SC := sc_sure_place
  exact jss_cons (js_set SC.nd (i := 1) rfl (by first | exact Or.inl rfl | exact Or.inr rfl) (je_call (ok_tupled S fd_tupled D_tupled) (hr.mono (by decide)) (S.glo 2) D_tupled.kp (bd_tupled D_tupled) tk (ja_cons (je_nm 0) (ja_nil)))) (jss_cons (js_if (jt_not (jt_tst rfl (je_call (ok_is_place_in S fd_is_place_in D_is_place_in) (hr.mono (by decide)) (S.glo 7) D_is_place_in.kp (bd_is_place_in D_is_place_in) tk (ja_cons (je_nm 1) (ja_nil))))) (jss_one (js_raiseV S tk 64 65 rfl)) (jss_nil)) (jss_one (js_ret (je_nm 1))))
theorem sc_sure_order : FnScope ["order", "own"] ["order"] (defScope s_sure_order) := ⟨rfl, rfl, rfl, by decide +kernel, rfl, by decide +kernel, by decide +kernel⟩
theorem bd_sure_order {f : Addr} {fd : FuncData} (D : FnP K "sure_order" s_sure_order f fd) : Binds K fd ["order"] [] := D.bindsN fun _ _ _ _ _ _ us hl => match us, hl with | [_], _ => rfl
theorem K_sure_order {f : Addr} {fd : FuncData} (D : FnP K "sure_order" s_sure_order f fd) (s : Shared) (us : List Value) (x : K.In s.heap) (hl : us.length = 1) : BindsTo s fd ⟨[], (["order"] : List Str).zip us⟩ ((["order"] : List Str).zip us) := FunD.bindsK (ps := ["order"]) D (fun _ _ _ _ _ _ us hl => match us, hl with | [_], _ => rfl) s us x hl
theorem ok_sure_order (S : Says faL fnL K mg) (fd : FuncData) (D_sure_order : FnP K "sure_order" s_sure_order (He.ga K "sure_order") fd) : FnOk P w K mg base (L2.CX P w) 14 (He.ga K "sure_order") fd ["order"] (spF (Gof K w) 1 F_sure_order) := by
  obtain ⟨fd_is_order_in, D_is_order_in⟩ := S.c.def_ 6 (d := d_is_order_in) rfl
  obtain ⟨fd_tupled, D_tupled⟩ := S.c.def_ 2 (d := d_tupled) rfl
  refine fn_ok D_sure_order sc_sure_order [true] rfl fun cdv A outer s H E hr => ?_
  have tk : Takes (cxOf (L2.CX P w) P w K mg base ["order", "own"] "sure_order" (defScope s_sure_order) (He.ga K "sure_order") cdv A outer s H E) (fun cls d _ H => E cls d H) := takes_of rfl rfl rfl rfl
  have po : PassesOwn (model P w) (cxOf (L2.CX P w) P w K mg base ["order", "own"] "sure_order" (defScope s_sure_order) (He.ga K "sure_order") cdv A outer s H E).A (cxOf (L2.CX P w) P w K mg base ["order", "own"] "sure_order" (defScope s_sure_order) (He.ga K "sure_order") cdv A outer s H E).env (cxOf (L2.CX P w) P w K mg base ["order", "own"] "sure_order" (defScope s_sure_order) (He.ga K "sure_order") cdv A outer s H E).xe := passes_of rfl
  have hu : (cxOf (L2.CX P w) P w K mg base ["order", "own"] "sure_order" (defScope s_sure_order) (He.ga K "sure_order") cdv A outer s H E).A.units + 65 < cLine := hu_of hr
  have SC := sc_sure_order
  exact jss_cons (js_set SC.nd (i := 1) rfl (by first | exact Or.inl rfl | exact Or.inr rfl) (je_call (ok_tupled S fd_tupled D_tupled) (hr.mono (by decide)) (S.glo 2) D_tupled.kp (bd_tupled D_tupled) tk (ja_cons (je_nm 0) (ja_nil)))) (jss_cons (js_if (jt_not (jt_tst rfl (je_call (ok_is_order_in S fd_is_order_in D_is_order_in) (hr.mono (by decide)) (S.glo 6) D_is_order_in.kp (bd_is_order_in D_is_order_in) tk (ja_cons (je_nm 1) (ja_nil))))) (jss_one (js_raiseV S tk 64 65 rfl)) (jss_nil)) (jss_one (js_ret (je_nm 1))))
theorem sc_sure_step : FnScope ["sides", "step", "own"] ["sides", "step"] (defScope s_sure_step) := ⟨rfl, rfl, rfl, by decide +kernel, rfl, by decide +kernel, by decide +kernel⟩
theorem bd_sure_step {f : Addr} {fd : FuncData} (D : FnP K "sure_step" s_sure_step f fd) : Binds K fd ["sides", "step"] [] := D.bindsN fun _ _ _ _ _ _ us hl => match us, hl with | [_, _], _ => rfl
theorem K_sure_step {f : Addr} {fd : FuncData} (D : FnP K "sure_step" s_sure_step f fd) (s : Shared) (us : List Value) (x : K.In s.heap) (hl : us.length = 2) : BindsTo s fd ⟨[], (["sides", "step"] : List Str).zip us⟩ ((["sides", "step"] : List Str).zip us) := FunD.bindsK (ps := ["sides", "step"]) D (fun _ _ _ _ _ _ us hl => match us, hl with | [_, _], _ => rfl) s us x hl
theorem ok_sure_step (S : Says faL fnL K mg) (fd : FuncData) (D_sure_step : FnP K "sure_step" s_sure_step (He.ga K "sure_step") fd) : FnOk P w K mg base (L2.CX P w) 14 (He.ga K "sure_step") fd ["sides", "step"] (spF (Gof K w) 2 F_sure_step) := by
  obtain ⟨fd_is_step_in, D_is_step_in⟩ := S.c.def_ 8 (d := d_is_step_in) rfl
  obtain ⟨fd_tupled, D_tupled⟩ := S.c.def_ 2 (d := d_tupled) rfl
  refine fn_ok D_sure_step sc_sure_step [true, true] rfl fun cdv A outer s H E hr => ?_
  have tk : Takes (cxOf (L2.CX P w) P w K mg base ["sides", "step", "own"] "sure_step" (defScope s_sure_step) (He.ga K "sure_step") cdv A outer s H E) (fun cls d _ H => E cls d H) := takes_of rfl rfl rfl rfl
  have po : PassesOwn (model P w) (cxOf (L2.CX P w) P w K mg base ["sides", "step", "own"] "sure_step" (defScope s_sure_step) (He.ga K "sure_step") cdv A outer s H E).A (cxOf (L2.CX P w) P w K mg base ["sides", "step", "own"] "sure_step" (defScope s_sure_step) (He.ga K "sure_step") cdv A outer s H E).env (cxOf (L2.CX P w) P w K mg base ["sides", "step", "own"] "sure_step" (defScope s_sure_step) (He.ga K "sure_step") cdv A outer s H E).xe := passes_of rfl
  have hu : (cxOf (L2.CX P w) P w K mg base ["sides", "step", "own"] "sure_step" (defScope s_sure_step) (He.ga K "sure_step") cdv A outer s H E).A.units + 65 < cLine := hu_of hr
  have SC := sc_sure_step
  exact jss_cons (js_set SC.nd (i := 2) rfl (by first | exact Or.inl rfl | exact Or.inr rfl) (je_call (ok_tupled S fd_tupled D_tupled) (hr.mono (by decide)) (S.glo 2) D_tupled.kp (bd_tupled D_tupled) tk (ja_cons (je_nm 1) (ja_nil)))) (jss_cons (js_if (jt_not (jt_tst rfl (je_call (ok_is_step_in S fd_is_step_in D_is_step_in) (hr.mono (by decide)) (S.glo 8) D_is_step_in.kp (bd_is_step_in D_is_step_in) tk (ja_cons (je_nm 0) (ja_cons (je_nm 2) (ja_nil)))))) (jss_one (js_raiseV S tk 64 65 rfl)) (jss_nil)) (jss_one (js_ret (je_nm 2))))
theorem sc_added : FnScope ["row", "changes", "found", "side", "number"] ["row", "changes"] (defScope s_added) := ⟨rfl, rfl, rfl, by decide +kernel, rfl, by decide +kernel, by decide +kernel⟩
theorem bd_added {f : Addr} {fd : FuncData} (D : FnP K "added" s_added f fd) : Binds K fd ["row", "changes"] [] := D.bindsN fun _ _ _ _ _ _ us hl => match us, hl with | [_, _], _ => rfl
theorem K_added {f : Addr} {fd : FuncData} (D : FnP K "added" s_added f fd) (s : Shared) (us : List Value) (x : K.In s.heap) (hl : us.length = 2) : BindsTo s fd ⟨[], (["row", "changes"] : List Str).zip us⟩ ((["row", "changes"] : List Str).zip us) := FunD.bindsK (ps := ["row", "changes"]) D (fun _ _ _ _ _ _ us hl => match us, hl with | [_, _], _ => rfl) s us x hl
theorem ok_added (S : Says faL fnL K mg) (fd : FuncData) (D_added : FnP K "added" s_added (He.ga K "added") fd) : FnOk P w K mg base (L2.CX P w) 1 (He.ga K "added") fd ["row", "changes"] (spF (Gof K w) 2 F_added) := by
  refine fn_ok D_added sc_added [true, true] rfl fun cdv A outer s H E hr => ?_
  have tk : Takes (cxOf (L2.CX P w) P w K mg base ["row", "changes", "found", "side", "number"] "added" (defScope s_added) (He.ga K "added") cdv A outer s H E) (fun cls d _ H => E cls d H) := takes_of rfl rfl rfl rfl
  have po : PassesOwn (model P w) (cxOf (L2.CX P w) P w K mg base ["row", "changes", "found", "side", "number"] "added" (defScope s_added) (He.ga K "added") cdv A outer s H E).A (cxOf (L2.CX P w) P w K mg base ["row", "changes", "found", "side", "number"] "added" (defScope s_added) (He.ga K "added") cdv A outer s H E).env (cxOf (L2.CX P w) P w K mg base ["row", "changes", "found", "side", "number"] "added" (defScope s_added) (He.ga K "added") cdv A outer s H E).xe := passes_of rfl
  have hu : (cxOf (L2.CX P w) P w K mg base ["row", "changes", "found", "side", "number"] "added" (defScope s_added) (He.ga K "added") cdv A outer s H E).A.units + 65 < cLine := hu_of hr
  have SC := sc_added
  exact jss_cons (js_set SC.nd (i := 2) rfl (by first | exact Or.inl rfl | exact Or.inr rfl) (je_typ call_list_of (s_list rfl) (S.free 54) boot_list (ja_cons (je_nm 0) (ja_nil)))) (jss_cons (js_for po rfl (ji_seq rfl (je_nm 1)) (jg_tup rfl rfl (jgs_cons (jg_name SC.nd (i := 3) rfl (by first | exact Or.inl rfl | exact Or.inr rfl)) (jgs_cons (jg_name SC.nd (i := 4) rfl (by first | exact Or.inl rfl | exact Or.inr rfl)) (jgs_nil)))) (jss_one (js_asg (je_bin op_addA (s_add rfl) (je_ix (ix_G (g := Gof K w) (hu9 hu) rfl rfl) (s_get rfl) (je_nm 2) (je_nm 3)) (je_nm 4)) (jg_ls (W := W0) (x := 2) (hu9 hu) rfl rfl (je_nm 3)) ok_gL))) (jss_one (js_ret (je_typ call_tuple_of (s_tuple rfl) (S.free 52) boot_tuple (ja_cons (je_nm 2) (ja_nil))))))
theorem sc_exchanged_at : FnScope ["row", "one", "other", "found"] ["row", "one", "other"] (defScope s_exchanged_at) := ⟨rfl, rfl, rfl, by decide +kernel, rfl, by decide +kernel, by decide +kernel⟩
theorem bd_exchanged_at {f : Addr} {fd : FuncData} (D : FnP K "exchanged_at" s_exchanged_at f fd) : Binds K fd ["row", "one", "other"] [] := D.bindsN fun _ _ _ _ _ _ us hl => match us, hl with | [_, _, _], _ => rfl
theorem K_exchanged_at {f : Addr} {fd : FuncData} (D : FnP K "exchanged_at" s_exchanged_at f fd) (s : Shared) (us : List Value) (x : K.In s.heap) (hl : us.length = 3) : BindsTo s fd ⟨[], (["row", "one", "other"] : List Str).zip us⟩ ((["row", "one", "other"] : List Str).zip us) := FunD.bindsK (ps := ["row", "one", "other"]) D (fun _ _ _ _ _ _ us hl => match us, hl with | [_, _, _], _ => rfl) s us x hl
theorem ok_exchanged_at (S : Says faL fnL K mg) (fd : FuncData) (D_exchanged_at : FnP K "exchanged_at" s_exchanged_at (He.ga K "exchanged_at") fd) : FnOk P w K mg base (L2.CX P w) 1 (He.ga K "exchanged_at") fd ["row", "one", "other"] (spF (Gof K w) 3 F_exchanged_at) := by
  refine fn_ok D_exchanged_at sc_exchanged_at [true, true, true] rfl fun cdv A outer s H E hr => ?_
  have tk : Takes (cxOf (L2.CX P w) P w K mg base ["row", "one", "other", "found"] "exchanged_at" (defScope s_exchanged_at) (He.ga K "exchanged_at") cdv A outer s H E) (fun cls d _ H => E cls d H) := takes_of rfl rfl rfl rfl
  have po : PassesOwn (model P w) (cxOf (L2.CX P w) P w K mg base ["row", "one", "other", "found"] "exchanged_at" (defScope s_exchanged_at) (He.ga K "exchanged_at") cdv A outer s H E).A (cxOf (L2.CX P w) P w K mg base ["row", "one", "other", "found"] "exchanged_at" (defScope s_exchanged_at) (He.ga K "exchanged_at") cdv A outer s H E).env (cxOf (L2.CX P w) P w K mg base ["row", "one", "other", "found"] "exchanged_at" (defScope s_exchanged_at) (He.ga K "exchanged_at") cdv A outer s H E).xe := passes_of rfl
  have hu : (cxOf (L2.CX P w) P w K mg base ["row", "one", "other", "found"] "exchanged_at" (defScope s_exchanged_at) (He.ga K "exchanged_at") cdv A outer s H E).A.units + 65 < cLine := hu_of hr
  have SC := sc_exchanged_at
  exact jss_cons (js_set SC.nd (i := 3) rfl (by first | exact Or.inl rfl | exact Or.inr rfl) (je_typ call_list_of (s_list rfl) (S.free 54) boot_list (ja_cons (je_nm 0) (ja_nil)))) (jss_cons (js_asg (je_tup (by decide) (ja_cons (je_ix (ix_G (g := Gof K w) (hu9 hu) rfl rfl) (s_get rfl) (je_nm 0) (je_nm 2)) (ja_cons (je_ix (ix_G (g := Gof K w) (hu9 hu) rfl rfl) (s_get rfl) (je_nm 0) (je_nm 1)) (ja_nil)))) (jg_tup rfl rfl (jgs_cons (jg_ls (W := W0) (x := 3) (hu9 hu) rfl rfl (je_nm 1)) (jgs_cons (jg_ls (W := W0) (x := 3) (hu9 hu) rfl rfl (je_nm 2)) (jgs_nil)))) (ok_gT (.cons ok_gL (.cons ok_gL (.nil))))) (jss_one (js_ret (je_typ call_tuple_of (s_tuple rfl) (S.free 52) boot_tuple (ja_cons (je_nm 3) (ja_nil))))))
theorem sc_turned_sign : FnScope ["signs", "side", "number", "own"] ["signs", "side"] (defScope s_turned_sign) := ⟨rfl, rfl, rfl, by decide +kernel, rfl, by decide +kernel, by decide +kernel⟩
theorem bd_turned_sign {f : Addr} {fd : FuncData} (D : FnP K "turned_sign" s_turned_sign f fd) : Binds K fd ["signs", "side"] [] := D.bindsN fun _ _ _ _ _ _ us hl => match us, hl with | [_, _], _ => rfl
theorem K_turned_sign {f : Addr} {fd : FuncData} (D : FnP K "turned_sign" s_turned_sign f fd) (s : Shared) (us : List Value) (x : K.In s.heap) (hl : us.length = 2) : BindsTo s fd ⟨[], (["signs", "side"] : List Str).zip us⟩ ((["signs", "side"] : List Str).zip us) := FunD.bindsK (ps := ["signs", "side"]) D (fun _ _ _ _ _ _ us hl => match us, hl with | [_, _], _ => rfl) s us x hl
theorem ok_turned_sign (S : Says faL fnL K mg) (fd : FuncData) (D_turned_sign : FnP K "turned_sign" s_turned_sign (He.ga K "turned_sign") fd) : FnOk P w K mg base (L2.CX P w) 1 (He.ga K "turned_sign") fd ["signs", "side"] (spF (Gof K w) 2 F_turned_sign) := by
  refine fn_ok D_turned_sign sc_turned_sign [true, true] rfl fun cdv A outer s H E hr => ?_
  have tk : Takes (cxOf (L2.CX P w) P w K mg base ["signs", "side", "number", "own"] "turned_sign" (defScope s_turned_sign) (He.ga K "turned_sign") cdv A outer s H E) (fun cls d _ H => E cls d H) := takes_of rfl rfl rfl rfl
  have po : PassesOwn (model P w) (cxOf (L2.CX P w) P w K mg base ["signs", "side", "number", "own"] "turned_sign" (defScope s_turned_sign) (He.ga K "turned_sign") cdv A outer s H E).A (cxOf (L2.CX P w) P w K mg base ["signs", "side", "number", "own"] "turned_sign" (defScope s_turned_sign) (He.ga K "turned_sign") cdv A outer s H E).env (cxOf (L2.CX P w) P w K mg base ["signs", "side", "number", "own"] "turned_sign" (defScope s_turned_sign) (He.ga K "turned_sign") cdv A outer s H E).xe := passes_of rfl
  have hu : (cxOf (L2.CX P w) P w K mg base ["signs", "side", "number", "own"] "turned_sign" (defScope s_turned_sign) (He.ga K "turned_sign") cdv A outer s H E).A.units + 65 < cLine := hu_of hr
  have SC := sc_turned_sign
  exact jss_one (js_ret (je_typ call_tuple_of (s_tuple rfl) (S.free 52) boot_tuple (ja_cons (je_lc rfl SC.nd (ji_enum (S.free 66) (je_nm 0)) (own := [("number", 2), ("own", 3)]) (blkOk_by (by kernel_rfl)) (fun s H C cl fp => jg_tup rfl rfl (jgs_cons (jg_name SC.nd (i := 2) rfl (by first | exact Or.inl rfl | exact Or.inr rfl)) (jgs_cons (jg_name SC.nd (i := 3) rfl (by first | exact Or.inl rfl | exact Or.inr rfl)) (jgs_nil)))) (fun s H C cl fp => jts_nil) (fun s H C cl fp => je_if (jt_cmp (op_eqD (hu64 hu)) (s_eq rfl) (je_nm 2) (je_nm 1) (nomark _)) (je_bin op_sub s_sub (je_int) (je_nm 3)) (je_nm 3))) (ja_nil))))
theorem sc_with_row : FnScope ["table", "axis", "row"] ["table", "axis", "row"] (defScope s_with_row) := ⟨rfl, rfl, rfl, by decide +kernel, rfl, by decide +kernel, by decide +kernel⟩
theorem bd_with_row {f : Addr} {fd : FuncData} (D : FnP K "with_row" s_with_row f fd) : Binds K fd ["table", "axis", "row"] [] := D.bindsN fun _ _ _ _ _ _ us hl => match us, hl with | [_, _, _], _ => rfl
theorem K_with_row {f : Addr} {fd : FuncData} (D : FnP K "with_row" s_with_row f fd) (s : Shared) (us : List Value) (x : K.In s.heap) (hl : us.length = 3) : BindsTo s fd ⟨[], (["table", "axis", "row"] : List Str).zip us⟩ ((["table", "axis", "row"] : List Str).zip us) := FunD.bindsK (ps := ["table", "axis", "row"]) D (fun _ _ _ _ _ _ us hl => match us, hl with | [_, _, _], _ => rfl) s us x hl
theorem ok_with_row (S : Says faL fnL K mg) (fd : FuncData) (D_with_row : FnP K "with_row" s_with_row (He.ga K "with_row") fd) : FnOk P w K mg base (L2.CX P w) 1 (He.ga K "with_row") fd ["table", "axis", "row"] (spF (Gof K w) 3 F_with_row) := by
  refine fn_ok D_with_row sc_with_row [true, true, true] rfl fun cdv A outer s H E hr => ?_
  have tk : Takes (cxOf (L2.CX P w) P w K mg base ["table", "axis", "row"] "with_row" (defScope s_with_row) (He.ga K "with_row") cdv A outer s H E) (fun cls d _ H => E cls d H) := takes_of rfl rfl rfl rfl
  have po : PassesOwn (model P w) (cxOf (L2.CX P w) P w K mg base ["table", "axis", "row"] "with_row" (defScope s_with_row) (He.ga K "with_row") cdv A outer s H E).A (cxOf (L2.CX P w) P w K mg base ["table", "axis", "row"] "with_row" (defScope s_with_row) (He.ga K "with_row") cdv A outer s H E).env (cxOf (L2.CX P w) P w K mg base ["table", "axis", "row"] "with_row" (defScope s_with_row) (He.ga K "with_row") cdv A outer s H E).xe := passes_of rfl
  have hu : (cxOf (L2.CX P w) P w K mg base ["table", "axis", "row"] "with_row" (defScope s_with_row) (He.ga K "with_row") cdv A outer s H E).A.units + 65 < cLine := hu_of hr
  have SC := sc_with_row
  exact jss_one (js_ret (je_bin op_addA (s_add rfl) (je_bin op_addA (s_add rfl) (je_sl sl_A (s_sl rfl) (je_nm 0) (jo_none) (jo_some (je_nm 1))) (je_tup (by decide) (ja_cons (je_nm 2) (ja_nil)))) (je_sl sl_A (s_sl rfl) (je_nm 0) (jo_some (je_bin op_addA (s_add rfl) (je_nm 1) (je_int))) (jo_none))))
theorem sc_tipped_in : FnScope ["place", "axis", "way", "order", "table", "signs", "up", "lying", "standing", "row", "looks"] ["place", "axis", "way"] (defScope s_tipped_in) := ⟨rfl, rfl, rfl, by decide +kernel, rfl, by decide +kernel, by decide +kernel⟩
theorem bd_tipped_in {f : Addr} {fd : FuncData} (D : FnP K "tipped_in" s_tipped_in f fd) : Binds K fd ["place", "axis", "way"] [] := D.bindsN fun _ _ _ _ _ _ us hl => match us, hl with | [_, _, _], _ => rfl
theorem K_tipped_in {f : Addr} {fd : FuncData} (D : FnP K "tipped_in" s_tipped_in f fd) (s : Shared) (us : List Value) (x : K.In s.heap) (hl : us.length = 3) : BindsTo s fd ⟨[], (["place", "axis", "way"] : List Str).zip us⟩ ((["place", "axis", "way"] : List Str).zip us) := FunD.bindsK (ps := ["place", "axis", "way"]) D (fun _ _ _ _ _ _ us hl => match us, hl with | [_, _, _], _ => rfl) s us x hl
theorem ok_tipped_in (S : Says faL fnL K mg) (fd : FuncData) (D_tipped_in : FnP K "tipped_in" s_tipped_in (He.ga K "tipped_in") fd) : FnOk P w K mg base (L2.CX P w) 2 (He.ga K "tipped_in") fd ["place", "axis", "way"] (spF (Gof K w) 3 F_tipped_in) := by
  obtain ⟨fd_added, D_added⟩ := S.c.def_ 12 (d := d_added) rfl
  obtain ⟨fd_exchanged_at, D_exchanged_at⟩ := S.c.def_ 13 (d := d_exchanged_at) rfl
  obtain ⟨fd_turned_sign, D_turned_sign⟩ := S.c.def_ 14 (d := d_turned_sign) rfl
  obtain ⟨fd_with_row, D_with_row⟩ := S.c.def_ 15 (d := d_with_row) rfl
  refine fn_ok D_tipped_in sc_tipped_in [true, true, true] rfl fun cdv A outer s H E hr => ?_
  have tk : Takes (cxOf (L2.CX P w) P w K mg base ["place", "axis", "way", "order", "table", "signs", "up", "lying", "standing", "row", "looks"] "tipped_in" (defScope s_tipped_in) (He.ga K "tipped_in") cdv A outer s H E) (fun cls d _ H => E cls d H) := takes_of rfl rfl rfl rfl
  have po : PassesOwn (model P w) (cxOf (L2.CX P w) P w K mg base ["place", "axis", "way", "order", "table", "signs", "up", "lying", "standing", "row", "looks"] "tipped_in" (defScope s_tipped_in) (He.ga K "tipped_in") cdv A outer s H E).A (cxOf (L2.CX P w) P w K mg base ["place", "axis", "way", "order", "table", "signs", "up", "lying", "standing", "row", "looks"] "tipped_in" (defScope s_tipped_in) (He.ga K "tipped_in") cdv A outer s H E).env (cxOf (L2.CX P w) P w K mg base ["place", "axis", "way", "order", "table", "signs", "up", "lying", "standing", "row", "looks"] "tipped_in" (defScope s_tipped_in) (He.ga K "tipped_in") cdv A outer s H E).xe := passes_of rfl
  have hu : (cxOf (L2.CX P w) P w K mg base ["place", "axis", "way", "order", "table", "signs", "up", "lying", "standing", "row", "looks"] "tipped_in" (defScope s_tipped_in) (He.ga K "tipped_in") cdv A outer s H E).A.units + 65 < cLine := hu_of hr
  have SC := sc_tipped_in
  exact jss_cons (js_asg (je_nm 0) (jg_tup rfl rfl (jgs_cons (jg_name SC.nd (i := 3) rfl (by first | exact Or.inl rfl | exact Or.inr rfl)) (jgs_cons (jg_name SC.nd (i := 4) rfl (by first | exact Or.inl rfl | exact Or.inr rfl)) (jgs_cons (jg_name SC.nd (i := 5) rfl (by first | exact Or.inl rfl | exact Or.inr rfl)) (jgs_nil))))) (ok_gT (.cons ok_gN (.cons ok_gN (.cons ok_gN (.nil)))))) (jss_cons (js_set SC.nd (i := 6) rfl (by first | exact Or.inl rfl | exact Or.inr rfl) (je_bin op_sub s_sub (je_blt c_len (s_len rfl) (S.free 53) boot_len (ja_cons (je_nm 3) (ja_nil))) (je_int))) (jss_cons (js_par rfl SC.nd (ja_cons (je_ix (ix_G (g := Gof K w) (hu9 hu) rfl rfl) (s_get rfl) (je_nm 3) (je_nm 1)) (ja_cons (je_ix (ix_G (g := Gof K w) (hu9 hu) rfl rfl) (s_get rfl) (je_nm 3) (je_nm 6)) (ja_nil))) (i := 7) (j := 8)) (jss_cons (js_set SC.nd (i := 9) rfl (by first | exact Or.inl rfl | exact Or.inr rfl) (je_call (ok_added S fd_added D_added) (hr.mono (by decide)) (S.glo 12) D_added.kp (bd_added D_added) tk (ja_cons (je_ix (ix_G (g := Gof K w) (hu9 hu) rfl rfl) (s_get rfl) (je_nm 4) (je_nm 1)) (ja_cons (je_tup (by decide) (ja_cons (je_tup (by decide) (ja_cons (je_nm 7) (ja_cons (je_nm 2) (ja_nil)))) (ja_cons (je_tup (by decide) (ja_cons (je_nm 8) (ja_cons (je_nm 2) (ja_nil)))) (ja_nil)))) (ja_nil))))) (jss_cons (js_set SC.nd (i := 10) rfl (by first | exact Or.inl rfl | exact Or.inr rfl) (je_call (ok_turned_sign S fd_turned_sign D_turned_sign) (hr.mono (by decide)) (S.glo 14) D_turned_sign.kp (bd_turned_sign D_turned_sign) tk (ja_cons (je_nm 5) (ja_cons (je_if (jt_cmp (op_eqD (hu64 hu)) (s_eq rfl) (je_nm 2) (je_int) (nomark _)) (je_nm 7) (je_nm 8)) (ja_nil))))) (jss_one (js_ret (je_tup (by decide) (ja_cons (je_call (ok_exchanged_at S fd_exchanged_at D_exchanged_at) (hr.mono (by decide)) (S.glo 13) D_exchanged_at.kp (bd_exchanged_at D_exchanged_at) tk (ja_cons (je_nm 3) (ja_cons (je_nm 1) (ja_cons (je_nm 6) (ja_nil))))) (ja_cons (je_call (ok_with_row S fd_with_row D_with_row) (hr.mono (by decide)) (S.glo 15) D_with_row.kp (bd_with_row D_with_row) tk (ja_cons (je_nm 4) (ja_cons (je_nm 1) (ja_cons (je_nm 9) (ja_nil))))) (ja_cons (je_nm 10) (ja_nil)))))))))))
theorem sc_turned_in : FnScope ["place", "turn", "order", "table", "signs", "axis", "other", "u", "v", "hand", "one", "two", "first", "second", "both"] ["place", "turn"] (defScope s_turned_in) := ⟨rfl, rfl, rfl, by decide +kernel, rfl, by decide +kernel, by decide +kernel⟩
theorem bd_turned_in {f : Addr} {fd : FuncData} (D : FnP K "turned_in" s_turned_in f fd) : Binds K fd ["place", "turn"] [] := D.bindsN fun _ _ _ _ _ _ us hl => match us, hl with | [_, _], _ => rfl
theorem K_turned_in {f : Addr} {fd : FuncData} (D : FnP K "turned_in" s_turned_in f fd) (s : Shared) (us : List Value) (x : K.In s.heap) (hl : us.length = 2) : BindsTo s fd ⟨[], (["place", "turn"] : List Str).zip us⟩ ((["place", "turn"] : List Str).zip us) := FunD.bindsK (ps := ["place", "turn"]) D (fun _ _ _ _ _ _ us hl => match us, hl with | [_, _], _ => rfl) s us x hl
theorem ok_turned_in (S : Says faL fnL K mg) (fd : FuncData) (D_turned_in : FnP K "turned_in" s_turned_in (He.ga K "turned_in") fd) : FnOk P w K mg base (L2.CX P w) 2 (He.ga K "turned_in") fd ["place", "turn"] (spF (Gof K w) 2 F_turned_in) := by
  obtain ⟨fd_added, D_added⟩ := S.c.def_ 12 (d := d_added) rfl
  obtain ⟨fd_exchanged_at, D_exchanged_at⟩ := S.c.def_ 13 (d := d_exchanged_at) rfl
  obtain ⟨fd_turned_sign, D_turned_sign⟩ := S.c.def_ 14 (d := d_turned_sign) rfl
  obtain ⟨fd_with_row, D_with_row⟩ := S.c.def_ 15 (d := d_with_row) rfl
  refine fn_ok D_turned_in sc_turned_in [true, true] rfl fun cdv A outer s H E hr => ?_
  have tk : Takes (cxOf (L2.CX P w) P w K mg base ["place", "turn", "order", "table", "signs", "axis", "other", "u", "v", "hand", "one", "two", "first", "second", "both"] "turned_in" (defScope s_turned_in) (He.ga K "turned_in") cdv A outer s H E) (fun cls d _ H => E cls d H) := takes_of rfl rfl rfl rfl
  have po : PassesOwn (model P w) (cxOf (L2.CX P w) P w K mg base ["place", "turn", "order", "table", "signs", "axis", "other", "u", "v", "hand", "one", "two", "first", "second", "both"] "turned_in" (defScope s_turned_in) (He.ga K "turned_in") cdv A outer s H E).A (cxOf (L2.CX P w) P w K mg base ["place", "turn", "order", "table", "signs", "axis", "other", "u", "v", "hand", "one", "two", "first", "second", "both"] "turned_in" (defScope s_turned_in) (He.ga K "turned_in") cdv A outer s H E).env (cxOf (L2.CX P w) P w K mg base ["place", "turn", "order", "table", "signs", "axis", "other", "u", "v", "hand", "one", "two", "first", "second", "both"] "turned_in" (defScope s_turned_in) (He.ga K "turned_in") cdv A outer s H E).xe := passes_of rfl
  have hu : (cxOf (L2.CX P w) P w K mg base ["place", "turn", "order", "table", "signs", "axis", "other", "u", "v", "hand", "one", "two", "first", "second", "both"] "turned_in" (defScope s_turned_in) (He.ga K "turned_in") cdv A outer s H E).A.units + 65 < cLine := hu_of hr
  have SC := sc_turned_in
  exact jss_cons (js_asg (je_nm 0) (jg_tup rfl rfl (jgs_cons (jg_name SC.nd (i := 2) rfl (by first | exact Or.inl rfl | exact Or.inr rfl)) (jgs_cons (jg_name SC.nd (i := 3) rfl (by first | exact Or.inl rfl | exact Or.inr rfl)) (jgs_cons (jg_name SC.nd (i := 4) rfl (by first | exact Or.inl rfl | exact Or.inr rfl)) (jgs_nil))))) (ok_gT (.cons ok_gN (.cons ok_gN (.cons ok_gN (.nil)))))) (jss_cons (js_asg (je_nm 1) (jg_tup rfl rfl (jgs_cons (jg_name SC.nd (i := 5) rfl (by first | exact Or.inl rfl | exact Or.inr rfl)) (jgs_cons (jg_name SC.nd (i := 6) rfl (by first | exact Or.inl rfl | exact Or.inr rfl)) (jgs_cons (jg_name SC.nd (i := 7) rfl (by first | exact Or.inl rfl | exact Or.inr rfl)) (jgs_cons (jg_name SC.nd (i := 8) rfl (by first | exact Or.inl rfl | exact Or.inr rfl)) (jgs_cons (jg_name SC.nd (i := 9) rfl (by first | exact Or.inl rfl | exact Or.inr rfl)) (jgs_nil))))))) (ok_gT (.cons ok_gN (.cons ok_gN (.cons ok_gN (.cons ok_gN (.cons ok_gN (.nil)))))))) (jss_cons (js_par rfl SC.nd (ja_cons (je_ix (ix_G (g := Gof K w) (hu9 hu) rfl rfl) (s_get rfl) (je_nm 2) (je_nm 5)) (ja_cons (je_ix (ix_G (g := Gof K w) (hu9 hu) rfl rfl) (s_get rfl) (je_nm 2) (je_nm 6)) (ja_nil))) (i := 10) (j := 11)) (jss_cons (js_set SC.nd (i := 12) rfl (by first | exact Or.inl rfl | exact Or.inr rfl) (je_call (ok_added S fd_added D_added) (hr.mono (by decide)) (S.glo 12) D_added.kp (bd_added D_added) tk (ja_cons (je_ix (ix_G (g := Gof K w) (hu9 hu) rfl rfl) (s_get rfl) (je_nm 3) (je_nm 5)) (ja_cons (je_tup (by decide) (ja_cons (je_tup (by decide) (ja_cons (je_nm 10) (ja_cons (je_nm 7) (ja_nil)))) (ja_cons (je_tup (by decide) (ja_cons (je_nm 11) (ja_cons (je_bin op_mulA (s_mul rfl) (je_nm 9) (je_nm 8)) (ja_nil)))) (ja_nil)))) (ja_nil))))) (jss_cons (js_set SC.nd (i := 13) rfl (by first | exact Or.inl rfl | exact Or.inr rfl) (je_call (ok_added S fd_added D_added) (hr.mono (by decide)) (S.glo 12) D_added.kp (bd_added D_added) tk (ja_cons (je_ix (ix_G (g := Gof K w) (hu9 hu) rfl rfl) (s_get rfl) (je_nm 3) (je_nm 6)) (ja_cons (je_tup (by decide) (ja_cons (je_tup (by decide) (ja_cons (je_nm 10) (ja_cons (je_bin op_sub s_sub (je_int) (je_bin op_mulA (s_mul rfl) (je_nm 9) (je_nm 7))) (ja_nil)))) (ja_cons (je_tup (by decide) (ja_cons (je_nm 11) (ja_cons (je_nm 8) (ja_nil)))) (ja_nil)))) (ja_nil))))) (jss_cons (js_set SC.nd (i := 14) rfl (by first | exact Or.inl rfl | exact Or.inr rfl) (je_call (ok_with_row S fd_with_row D_with_row) (hr.mono (by decide)) (S.glo 15) D_with_row.kp (bd_with_row D_with_row) tk (ja_cons (je_call (ok_with_row S fd_with_row D_with_row) (hr.mono (by decide)) (S.glo 15) D_with_row.kp (bd_with_row D_with_row) tk (ja_cons (je_nm 3) (ja_cons (je_nm 5) (ja_cons (je_nm 12) (ja_nil))))) (ja_cons (je_nm 6) (ja_cons (je_nm 13) (ja_nil)))))) (jss_one (js_ret (je_tup (by decide) (ja_cons (je_call (ok_exchanged_at S fd_exchanged_at D_exchanged_at) (hr.mono (by decide)) (S.glo 13) D_exchanged_at.kp (bd_exchanged_at D_exchanged_at) tk (ja_cons (je_nm 2) (ja_cons (je_nm 5) (ja_cons (je_nm 6) (ja_nil))))) (ja_cons (je_nm 14) (ja_cons (je_call (ok_turned_sign S fd_turned_sign D_turned_sign) (hr.mono (by decide)) (S.glo 14) D_turned_sign.kp (bd_turned_sign D_turned_sign) tk (ja_cons (je_nm 4) (ja_cons (je_if (jt_cmp (op_eqD (hu64 hu)) (s_eq rfl) (je_nm 9) (je_int) (nomark _)) (je_nm 11) (je_nm 10)) (ja_nil)))) (ja_nil))))))))))))
theorem sc_stepped_in : FnScope ["place", "step"] ["place", "step"] (defScope s_stepped_in) := ⟨rfl, rfl, rfl, by decide +kernel, rfl, by decide +kernel, by decide +kernel⟩
theorem bd_stepped_in {f : Addr} {fd : FuncData} (D : FnP K "stepped_in" s_stepped_in f fd) : Binds K fd ["place", "step"] [] := D.bindsN fun _ _ _ _ _ _ us hl => match us, hl with | [_, _], _ => rfl
theorem K_stepped_in {f : Addr} {fd : FuncData} (D : FnP K "stepped_in" s_stepped_in f fd) (s : Shared) (us : List Value) (x : K.In s.heap) (hl : us.length = 2) : BindsTo s fd ⟨[], (["place", "step"] : List Str).zip us⟩ ((["place", "step"] : List Str).zip us) := FunD.bindsK (ps := ["place", "step"]) D (fun _ _ _ _ _ _ us hl => match us, hl with | [_, _], _ => rfl) s us x hl
theorem ok_stepped_in (S : Says faL fnL K mg) (fd : FuncData) (D_stepped_in : FnP K "stepped_in" s_stepped_in (He.ga K "stepped_in") fd) : FnOk P w K mg base (L2.CX P w) 3 (He.ga K "stepped_in") fd ["place", "step"] (spF (Gof K w) 2 F_stepped_in) := by
  obtain ⟨fd_tipped_in, D_tipped_in⟩ := S.c.def_ 16 (d := d_tipped_in) rfl
  obtain ⟨fd_turned_in, D_turned_in⟩ := S.c.def_ 17 (d := d_turned_in) rfl
  refine fn_ok D_stepped_in sc_stepped_in [true, true] rfl fun cdv A outer s H E hr => ?_
  have tk : Takes (cxOf (L2.CX P w) P w K mg base ["place", "step"] "stepped_in" (defScope s_stepped_in) (He.ga K "stepped_in") cdv A outer s H E) (fun cls d _ H => E cls d H) := takes_of rfl rfl rfl rfl
  have po : PassesOwn (model P w) (cxOf (L2.CX P w) P w K mg base ["place", "step"] "stepped_in" (defScope s_stepped_in) (He.ga K "stepped_in") cdv A outer s H E).A (cxOf (L2.CX P w) P w K mg base ["place", "step"] "stepped_in" (defScope s_stepped_in) (He.ga K "stepped_in") cdv A outer s H E).env (cxOf (L2.CX P w) P w K mg base ["place", "step"] "stepped_in" (defScope s_stepped_in) (He.ga K "stepped_in") cdv A outer s H E).xe := passes_of rfl
  have hu : (cxOf (L2.CX P w) P w K mg base ["place", "step"] "stepped_in" (defScope s_stepped_in) (He.ga K "stepped_in") cdv A outer s H E).A.units + 65 < cLine := hu_of hr
  have SC := sc_stepped_in
  exact jss_one (js_ret (je_if (jt_cmp (op_eqD (hu64 hu)) (s_eq rfl) (je_ix (ix_G (g := Gof K w) (hu9 hu) rfl rfl) (s_get rfl) (je_nm 1) (je_int)) (gstr (S.str 60)) (nomark _)) (je_call (ok_tipped_in S fd_tipped_in D_tipped_in) (hr.mono (by decide)) (S.glo 16) D_tipped_in.kp (bd_tipped_in D_tipped_in) tk (ja_cons (je_nm 0) (ja_cons (je_ix (ix_G (g := Gof K w) (hu9 hu) rfl rfl) (s_get rfl) (je_nm 1) (je_int)) (ja_cons (je_ix (ix_G (g := Gof K w) (hu9 hu) rfl rfl) (s_get rfl) (je_nm 1) (je_int)) (ja_nil))))) (je_call (ok_turned_in S fd_turned_in D_turned_in) (hr.mono (by decide)) (S.glo 17) D_turned_in.kp (bd_turned_in D_turned_in) tk (ja_cons (je_nm 0) (ja_cons (je_sl sl_A (s_sl rfl) (je_nm 1) (jo_some (je_int)) (jo_none)) (ja_nil))))))
theorem sc_sign_of : FnScope ["order", "found", "place", "own", "later"] ["order"] (defScope s_sign_of) := ⟨rfl, rfl, rfl, by decide +kernel, rfl, by decide +kernel, by decide +kernel⟩
theorem bd_sign_of {f : Addr} {fd : FuncData} (D : FnP K "sign_of" s_sign_of f fd) : Binds K fd ["order"] [] := D.bindsN fun _ _ _ _ _ _ us hl => match us, hl with | [_], _ => rfl
theorem K_sign_of {f : Addr} {fd : FuncData} (D : FnP K "sign_of" s_sign_of f fd) (s : Shared) (us : List Value) (x : K.In s.heap) (hl : us.length = 1) : BindsTo s fd ⟨[], (["order"] : List Str).zip us⟩ ((["order"] : List Str).zip us) := FunD.bindsK (ps := ["order"]) D (fun _ _ _ _ _ _ us hl => match us, hl with | [_], _ => rfl) s us x hl
theorem ok_sign_of (S : Says faL fnL K mg) (fd : FuncData) (D_sign_of : FnP K "sign_of" s_sign_of (He.ga K "sign_of") fd) : FnOk P w K mg base (L2.CX P w) 1 (He.ga K "sign_of") fd ["order"] (spF (Gof K w) 1 F_sign_of) := by
  refine fn_ok D_sign_of sc_sign_of [true] rfl fun cdv A outer s H E hr => ?_
  have tk : Takes (cxOf (L2.CX P w) P w K mg base ["order", "found", "place", "own", "later"] "sign_of" (defScope s_sign_of) (He.ga K "sign_of") cdv A outer s H E) (fun cls d _ H => E cls d H) := takes_of rfl rfl rfl rfl
  have po : PassesOwn (model P w) (cxOf (L2.CX P w) P w K mg base ["order", "found", "place", "own", "later"] "sign_of" (defScope s_sign_of) (He.ga K "sign_of") cdv A outer s H E).A (cxOf (L2.CX P w) P w K mg base ["order", "found", "place", "own", "later"] "sign_of" (defScope s_sign_of) (He.ga K "sign_of") cdv A outer s H E).env (cxOf (L2.CX P w) P w K mg base ["order", "found", "place", "own", "later"] "sign_of" (defScope s_sign_of) (He.ga K "sign_of") cdv A outer s H E).xe := passes_of rfl
  have hu : (cxOf (L2.CX P w) P w K mg base ["order", "found", "place", "own", "later"] "sign_of" (defScope s_sign_of) (He.ga K "sign_of") cdv A outer s H E).A.units + 65 < cLine := hu_of hr
  have SC := sc_sign_of
  exact jss_cons (js_set SC.nd (i := 1) rfl (by first | exact Or.inl rfl | exact Or.inr rfl) (je_int)) (jss_cons (js_for po rfl (ji_enum (S.free 66) (je_nm 0)) (jg_tup rfl rfl (jgs_cons (jg_name SC.nd (i := 2) rfl (by first | exact Or.inl rfl | exact Or.inr rfl)) (jgs_cons (jg_name SC.nd (i := 3) rfl (by first | exact Or.inl rfl | exact Or.inr rfl)) (jgs_nil)))) (jss_one (js_for po rfl (ji_seq rfl (je_sl sl_A (s_sl rfl) (je_nm 0) (jo_some (je_bin op_addA (s_add rfl) (je_nm 2) (je_int))) (jo_none))) (jg_name SC.nd (i := 4) rfl (by first | exact Or.inl rfl | exact Or.inr rfl)) (jss_one (js_if (jt_cmp op_lt s_lt (je_nm 4) (je_nm 3) (nomark _)) (jss_one (js_set SC.nd (i := 1) rfl (by first | exact Or.inl rfl | exact Or.inr rfl) (je_bin op_sub s_sub (je_int) (je_nm 1)))) (jss_nil)))))) (jss_one (js_ret (je_nm 1))))
theorem sc_is_order : FnScope ["thing"] ["thing"] (defScope s_is_order) := ⟨rfl, rfl, rfl, by decide +kernel, rfl, by decide +kernel, by decide +kernel⟩
theorem bd_is_order {f : Addr} {fd : FuncData} (D : FnP K "is_order" s_is_order f fd) : Binds K fd ["thing"] [] := D.bindsN fun _ _ _ _ _ _ us hl => match us, hl with | [_], _ => rfl
theorem K_is_order {f : Addr} {fd : FuncData} (D : FnP K "is_order" s_is_order f fd) (s : Shared) (us : List Value) (x : K.In s.heap) (hl : us.length = 1) : BindsTo s fd ⟨[], (["thing"] : List Str).zip us⟩ ((["thing"] : List Str).zip us) := FunD.bindsK (ps := ["thing"]) D (fun _ _ _ _ _ _ us hl => match us, hl with | [_], _ => rfl) s us x hl
theorem ok_is_order (S : Says faL fnL K mg) (fd : FuncData) (D_is_order : FnP K "is_order" s_is_order (He.ga K "is_order") fd) : FnOk P w K mg base (L2.CX P w) 4 (He.ga K "is_order") fd ["thing"] (spF (Gof K w) 1 F_is_order) := by
  obtain ⟨fd_is_order_in, D_is_order_in⟩ := S.c.def_ 6 (d := d_is_order_in) rfl
  refine fn_ok D_is_order sc_is_order [true] rfl fun cdv A outer s H E hr => ?_
  have tk : Takes (cxOf (L2.CX P w) P w K mg base ["thing"] "is_order" (defScope s_is_order) (He.ga K "is_order") cdv A outer s H E) (fun cls d _ H => E cls d H) := takes_of rfl rfl rfl rfl
  have po : PassesOwn (model P w) (cxOf (L2.CX P w) P w K mg base ["thing"] "is_order" (defScope s_is_order) (He.ga K "is_order") cdv A outer s H E).A (cxOf (L2.CX P w) P w K mg base ["thing"] "is_order" (defScope s_is_order) (He.ga K "is_order") cdv A outer s H E).env (cxOf (L2.CX P w) P w K mg base ["thing"] "is_order" (defScope s_is_order) (He.ga K "is_order") cdv A outer s H E).xe := passes_of rfl
  have hu : (cxOf (L2.CX P w) P w K mg base ["thing"] "is_order" (defScope s_is_order) (He.ga K "is_order") cdv A outer s H E).A.units + 65 < cLine := hu_of hr
  have SC := sc_is_order
  exact jss_one (js_ret (je_call (ok_is_order_in S fd_is_order_in D_is_order_in) (hr.mono (by decide)) (S.glo 6) D_is_order_in.kp (bd_is_order_in D_is_order_in) tk (ja_cons (je_nm 0) (ja_nil))))
theorem sc_stepped : FnScope ["place", "step", "own"] ["place", "step"] (defScope s_stepped) := ⟨rfl, rfl, rfl, by decide +kernel, rfl, by decide +kernel, by decide +kernel⟩
theorem bd_stepped {f : Addr} {fd : FuncData} (D : FnP K "stepped" s_stepped f fd) : Binds K fd ["place", "step"] [] := D.bindsN fun _ _ _ _ _ _ us hl => match us, hl with | [_, _], _ => rfl
theorem K_stepped {f : Addr} {fd : FuncData} (D : FnP K "stepped" s_stepped f fd) (s : Shared) (us : List Value) (x : K.In s.heap) (hl : us.length = 2) : BindsTo s fd ⟨[], (["place", "step"] : List Str).zip us⟩ ((["place", "step"] : List Str).zip us) := FunD.bindsK (ps := ["place", "step"]) D (fun _ _ _ _ _ _ us hl => match us, hl with | [_, _], _ => rfl) s us x hl
theorem ok_stepped (S : Says faL fnL K mg) (fd : FuncData) (D_stepped : FnP K "stepped" s_stepped (He.ga K "stepped") fd) : FnOk P w K mg base (L2.CX P w) 15 (He.ga K "stepped") fd ["place", "step"] (spF (Gof K w) 2 F_stepped) := by
  obtain ⟨fd_stepped_in, D_stepped_in⟩ := S.c.def_ 18 (d := d_stepped_in) rfl
  obtain ⟨fd_sure_place, D_sure_place⟩ := S.c.def_ 9 (d := d_sure_place) rfl
  obtain ⟨fd_sure_step, D_sure_step⟩ := S.c.def_ 11 (d := d_sure_step) rfl
  refine fn_ok D_stepped sc_stepped [true, true] rfl fun cdv A outer s H E hr => ?_
  have tk : Takes (cxOf (L2.CX P w) P w K mg base ["place", "step", "own"] "stepped" (defScope s_stepped) (He.ga K "stepped") cdv A outer s H E) (fun cls d _ H => E cls d H) := takes_of rfl rfl rfl rfl
  have po : PassesOwn (model P w) (cxOf (L2.CX P w) P w K mg base ["place", "step", "own"] "stepped" (defScope s_stepped) (He.ga K "stepped") cdv A outer s H E).A (cxOf (L2.CX P w) P w K mg base ["place", "step", "own"] "stepped" (defScope s_stepped) (He.ga K "stepped") cdv A outer s H E).env (cxOf (L2.CX P w) P w K mg base ["place", "step", "own"] "stepped" (defScope s_stepped) (He.ga K "stepped") cdv A outer s H E).xe := passes_of rfl
  have hu : (cxOf (L2.CX P w) P w K mg base ["place", "step", "own"] "stepped" (defScope s_stepped) (He.ga K "stepped") cdv A outer s H E).A.units + 65 < cLine := hu_of hr
  have SC := sc_stepped
  exact jss_cons (js_set SC.nd (i := 2) rfl (by first | exact Or.inl rfl | exact Or.inr rfl) (je_call (ok_sure_place S fd_sure_place D_sure_place) (hr.mono (by decide)) (S.glo 9) D_sure_place.kp (bd_sure_place D_sure_place) tk (ja_cons (je_nm 0) (ja_nil)))) (jss_one (js_ret (je_call (ok_stepped_in S fd_stepped_in D_stepped_in) (hr.mono (by decide)) (S.glo 18) D_stepped_in.kp (bd_stepped_in D_stepped_in) tk (ja_cons (je_nm 2) (ja_cons (je_call (ok_sure_step S fd_sure_step D_sure_step) (hr.mono (by decide)) (S.glo 11) D_sure_step.kp (bd_sure_step D_sure_step) tk (ja_cons (je_blt c_len (s_len rfl) (S.free 53) boot_len (ja_cons (je_ix (ix_G (g := Gof K w) (hu9 hu) rfl rfl) (s_get rfl) (je_nm 2) (je_int)) (ja_nil))) (ja_cons (je_nm 1) (ja_nil)))) (ja_nil))))))
theorem sc_order_sign : FnScope ["order"] ["order"] (defScope s_order_sign) := ⟨rfl, rfl, rfl, by decide +kernel, rfl, by decide +kernel, by decide +kernel⟩
theorem bd_order_sign {f : Addr} {fd : FuncData} (D : FnP K "order_sign" s_order_sign f fd) : Binds K fd ["order"] [] := D.bindsN fun _ _ _ _ _ _ us hl => match us, hl with | [_], _ => rfl
theorem K_order_sign {f : Addr} {fd : FuncData} (D : FnP K "order_sign" s_order_sign f fd) (s : Shared) (us : List Value) (x : K.In s.heap) (hl : us.length = 1) : BindsTo s fd ⟨[], (["order"] : List Str).zip us⟩ ((["order"] : List Str).zip us) := FunD.bindsK (ps := ["order"]) D (fun _ _ _ _ _ _ us hl => match us, hl with | [_], _ => rfl) s us x hl
theorem ok_order_sign (S : Says faL fnL K mg) (fd : FuncData) (D_order_sign : FnP K "order_sign" s_order_sign (He.ga K "order_sign") fd) : FnOk P w K mg base (L2.CX P w) 15 (He.ga K "order_sign") fd ["order"] (spF (Gof K w) 1 F_order_sign) := by
  obtain ⟨fd_sign_of, D_sign_of⟩ := S.c.def_ 19 (d := d_sign_of) rfl
  obtain ⟨fd_sure_order, D_sure_order⟩ := S.c.def_ 10 (d := d_sure_order) rfl
  refine fn_ok D_order_sign sc_order_sign [true] rfl fun cdv A outer s H E hr => ?_
  have tk : Takes (cxOf (L2.CX P w) P w K mg base ["order"] "order_sign" (defScope s_order_sign) (He.ga K "order_sign") cdv A outer s H E) (fun cls d _ H => E cls d H) := takes_of rfl rfl rfl rfl
  have po : PassesOwn (model P w) (cxOf (L2.CX P w) P w K mg base ["order"] "order_sign" (defScope s_order_sign) (He.ga K "order_sign") cdv A outer s H E).A (cxOf (L2.CX P w) P w K mg base ["order"] "order_sign" (defScope s_order_sign) (He.ga K "order_sign") cdv A outer s H E).env (cxOf (L2.CX P w) P w K mg base ["order"] "order_sign" (defScope s_order_sign) (He.ga K "order_sign") cdv A outer s H E).xe := passes_of rfl
  have hu : (cxOf (L2.CX P w) P w K mg base ["order"] "order_sign" (defScope s_order_sign) (He.ga K "order_sign") cdv A outer s H E).A.units + 65 < cLine := hu_of hr
  have SC := sc_order_sign
  exact jss_one (js_ret (je_call (ok_sign_of S fd_sign_of D_sign_of) (hr.mono (by decide)) (S.glo 19) D_sign_of.kp (bd_sign_of D_sign_of) tk (ja_cons (je_call (ok_sure_order S fd_sure_order D_sure_order) (hr.mono (by decide)) (S.glo 10) D_sure_order.kp (bd_sure_order D_sure_order) tk (ja_cons (je_nm 0) (ja_nil))) (ja_nil))))
theorem sc_are_steps_in : FnScope ["sides", "thing", "own"] ["sides", "thing"] (defScope s_are_steps_in) := ⟨rfl, rfl, rfl, by decide +kernel, rfl, by decide +kernel, by decide +kernel⟩
theorem bd_are_steps_in {f : Addr} {fd : FuncData} (D : FnP K "are_steps_in" s_are_steps_in f fd) : Binds K fd ["sides", "thing"] [] := D.bindsN fun _ _ _ _ _ _ us hl => match us, hl with | [_, _], _ => rfl
theorem K_are_steps_in {f : Addr} {fd : FuncData} (D : FnP K "are_steps_in" s_are_steps_in f fd) (s : Shared) (us : List Value) (x : K.In s.heap) (hl : us.length = 2) : BindsTo s fd ⟨[], (["sides", "thing"] : List Str).zip us⟩ ((["sides", "thing"] : List Str).zip us) := FunD.bindsK (ps := ["sides", "thing"]) D (fun _ _ _ _ _ _ us hl => match us, hl with | [_, _], _ => rfl) s us x hl
theorem ok_are_steps_in (S : Says faL fnL K mg) (fd : FuncData) (D_are_steps_in : FnP K "are_steps_in" s_are_steps_in (He.ga K "are_steps_in") fd) : FnOk P w K mg base (L2.CX P w) 5 (He.ga K "are_steps_in") fd ["sides", "thing"] (spF (Gof K w) 2 F_are_steps_in) := by
  obtain ⟨fd_is_step_in, D_is_step_in⟩ := S.c.def_ 8 (d := d_is_step_in) rfl
  refine fn_ok D_are_steps_in sc_are_steps_in [true, true] rfl fun cdv A outer s H E hr => ?_
  have tk : Takes (cxOf (L2.CX P w) P w K mg base ["sides", "thing", "own"] "are_steps_in" (defScope s_are_steps_in) (He.ga K "are_steps_in") cdv A outer s H E) (fun cls d _ H => E cls d H) := takes_of rfl rfl rfl rfl
  have po : PassesOwn (model P w) (cxOf (L2.CX P w) P w K mg base ["sides", "thing", "own"] "are_steps_in" (defScope s_are_steps_in) (He.ga K "are_steps_in") cdv A outer s H E).A (cxOf (L2.CX P w) P w K mg base ["sides", "thing", "own"] "are_steps_in" (defScope s_are_steps_in) (He.ga K "are_steps_in") cdv A outer s H E).env (cxOf (L2.CX P w) P w K mg base ["sides", "thing", "own"] "are_steps_in" (defScope s_are_steps_in) (He.ga K "are_steps_in") cdv A outer s H E).xe := passes_of rfl
  have hu : (cxOf (L2.CX P w) P w K mg base ["sides", "thing", "own"] "are_steps_in" (defScope s_are_steps_in) (He.ga K "are_steps_in") cdv A outer s H E).A.units + 65 < cLine := hu_of hr
  have SC := sc_are_steps_in
  exact jss_one (js_ret (je_and rfl (pe_eq (isiY [.tup]) (je_isi (S.free 49) (S.free 52) PyProof.Rows.boot_tuple kit_tuple (je_nm 1))) (je_one (je_blt (cr_all rfl) (s_all rfl) (S.free 55) boot_all (ja_cons (je_lc rfl SC.nd (ji_seq rfl (je_nm 1)) (own := [("own", 2)]) (blkOk_by (by kernel_rfl)) (fun s H C cl fp => jg_name SC.nd (i := 2) rfl (by first | exact Or.inl rfl | exact Or.inr rfl)) (fun s H C cl fp => jts_nil) (fun s H C cl fp => je_call (ok_is_step_in S fd_is_step_in D_is_step_in) (hr.mono (by decide)) (S.glo 8) D_is_step_in.kp (bd_is_step_in D_is_step_in) takes0 (ja_cons (je_nm 0) (ja_cons (je_nm 2) (ja_nil))))) (ja_nil))))))
theorem sc_sure_steps : FnScope ["sides", "row", "own"] ["sides", "row"] (defScope s_sure_steps) := ⟨rfl, rfl, rfl, by decide +kernel, rfl, by decide +kernel, by decide +kernel⟩
theorem bd_sure_steps {f : Addr} {fd : FuncData} (D : FnP K "sure_steps" s_sure_steps f fd) : Binds K fd ["sides", "row"] [] := D.bindsN fun _ _ _ _ _ _ us hl => match us, hl with | [_, _], _ => rfl
theorem K_sure_steps {f : Addr} {fd : FuncData} (D : FnP K "sure_steps" s_sure_steps f fd) (s : Shared) (us : List Value) (x : K.In s.heap) (hl : us.length = 2) : BindsTo s fd ⟨[], (["sides", "row"] : List Str).zip us⟩ ((["sides", "row"] : List Str).zip us) := FunD.bindsK (ps := ["sides", "row"]) D (fun _ _ _ _ _ _ us hl => match us, hl with | [_, _], _ => rfl) s us x hl
theorem ok_sure_steps (S : Says faL fnL K mg) (fd : FuncData) (D_sure_steps : FnP K "sure_steps" s_sure_steps (He.ga K "sure_steps") fd) : FnOk P w K mg base (L2.CX P w) 14 (He.ga K "sure_steps") fd ["sides", "row"] (spF (Gof K w) 2 F_sure_steps) := by
  obtain ⟨fd_are_steps_in, D_are_steps_in⟩ := S.c.def_ 23 (d := d_are_steps_in) rfl
  obtain ⟨fd_tupled, D_tupled⟩ := S.c.def_ 2 (d := d_tupled) rfl
  refine fn_ok D_sure_steps sc_sure_steps [true, true] rfl fun cdv A outer s H E hr => ?_
  have tk : Takes (cxOf (L2.CX P w) P w K mg base ["sides", "row", "own"] "sure_steps" (defScope s_sure_steps) (He.ga K "sure_steps") cdv A outer s H E) (fun cls d _ H => E cls d H) := takes_of rfl rfl rfl rfl
  have po : PassesOwn (model P w) (cxOf (L2.CX P w) P w K mg base ["sides", "row", "own"] "sure_steps" (defScope s_sure_steps) (He.ga K "sure_steps") cdv A outer s H E).A (cxOf (L2.CX P w) P w K mg base ["sides", "row", "own"] "sure_steps" (defScope s_sure_steps) (He.ga K "sure_steps") cdv A outer s H E).env (cxOf (L2.CX P w) P w K mg base ["sides", "row", "own"] "sure_steps" (defScope s_sure_steps) (He.ga K "sure_steps") cdv A outer s H E).xe := passes_of rfl
  have hu : (cxOf (L2.CX P w) P w K mg base ["sides", "row", "own"] "sure_steps" (defScope s_sure_steps) (He.ga K "sure_steps") cdv A outer s H E).A.units + 65 < cLine := hu_of hr
  have SC := sc_sure_steps
  exact jss_cons (js_set SC.nd (i := 2) rfl (by first | exact Or.inl rfl | exact Or.inr rfl) (je_call (ok_tupled S fd_tupled D_tupled) (hr.mono (by decide)) (S.glo 2) D_tupled.kp (bd_tupled D_tupled) tk (ja_cons (je_nm 1) (ja_nil)))) (jss_cons (js_if (jt_not (jt_tst rfl (je_call (ok_are_steps_in S fd_are_steps_in D_are_steps_in) (hr.mono (by decide)) (S.glo 23) D_are_steps_in.kp (bd_are_steps_in D_are_steps_in) tk (ja_cons (je_nm 0) (ja_cons (je_nm 2) (ja_nil)))))) (jss_one (js_raiseV S tk 64 65 rfl)) (jss_nil)) (jss_one (js_ret (je_nm 2))))
theorem sc_behind_in : FnScope ["place", "row", "step"] ["place", "row"] (defScope s_behind_in) := ⟨rfl, rfl, rfl, by decide +kernel, rfl, by decide +kernel, by decide +kernel⟩
theorem bd_behind_in {f : Addr} {fd : FuncData} (D : FnP K "behind_in" s_behind_in f fd) : Binds K fd ["place", "row"] [] := D.bindsN fun _ _ _ _ _ _ us hl => match us, hl with | [_, _], _ => rfl
theorem K_behind_in {f : Addr} {fd : FuncData} (D : FnP K "behind_in" s_behind_in f fd) (s : Shared) (us : List Value) (x : K.In s.heap) (hl : us.length = 2) : BindsTo s fd ⟨[], (["place", "row"] : List Str).zip us⟩ ((["place", "row"] : List Str).zip us) := FunD.bindsK (ps := ["place", "row"]) D (fun _ _ _ _ _ _ us hl => match us, hl with | [_, _], _ => rfl) s us x hl
theorem ok_behind_in (S : Says faL fnL K mg) (fd : FuncData) (D_behind_in : FnP K "behind_in" s_behind_in (He.ga K "behind_in") fd) : FnOk P w K mg base (L2.CX P w) 4 (He.ga K "behind_in") fd ["place", "row"] (spF (Gof K w) 2 F_behind_in) := by
  obtain ⟨fd_stepped_in, D_stepped_in⟩ := S.c.def_ 18 (d := d_stepped_in) rfl
  refine fn_ok D_behind_in sc_behind_in [false, true] rfl fun cdv A outer s H E hr => ?_
  have tk : Takes (cxOf (L2.CX P w) P w K mg base ["place", "row", "step"] "behind_in" (defScope s_behind_in) (He.ga K "behind_in") cdv A outer s H E) (fun cls d _ H => E cls d H) := takes_of rfl rfl rfl rfl
  have po : PassesOwn (model P w) (cxOf (L2.CX P w) P w K mg base ["place", "row", "step"] "behind_in" (defScope s_behind_in) (He.ga K "behind_in") cdv A outer s H E).A (cxOf (L2.CX P w) P w K mg base ["place", "row", "step"] "behind_in" (defScope s_behind_in) (He.ga K "behind_in") cdv A outer s H E).env (cxOf (L2.CX P w) P w K mg base ["place", "row", "step"] "behind_in" (defScope s_behind_in) (He.ga K "behind_in") cdv A outer s H E).xe := passes_of rfl
  have hu : (cxOf (L2.CX P w) P w K mg base ["place", "row", "step"] "behind_in" (defScope s_behind_in) (He.ga K "behind_in") cdv A outer s H E).A.units + 65 < cLine := hu_of hr
  have SC := sc_behind_in
  exact jss_cons (js_for po rfl (ji_seq rfl (je_nm 1)) (jg_name SC.nd (i := 2) rfl (by first | exact Or.inl rfl | exact Or.inr rfl)) (jss_one (js_set SC.nd (i := 0) rfl (by first | exact Or.inl rfl | exact Or.inr rfl) (je_call (ok_stepped_in S fd_stepped_in D_stepped_in) (hr.mono (by decide)) (S.glo 18) D_stepped_in.kp (bd_stepped_in D_stepped_in) tk (ja_cons (je_nm 0) (ja_cons (je_nm 2) (ja_nil))))))) (jss_one (js_ret (je_nm 0)))
theorem sc_box_behind : FnScope ["place", "row", "own"] ["place", "row"] (defScope s_box_behind) := ⟨rfl, rfl, rfl, by decide +kernel, rfl, by decide +kernel, by decide +kernel⟩
theorem bd_box_behind {f : Addr} {fd : FuncData} (D : FnP K "box_behind" s_box_behind f fd) : Binds K fd ["place", "row"] [] := D.bindsN fun _ _ _ _ _ _ us hl => match us, hl with | [_, _], _ => rfl
theorem K_box_behind {f : Addr} {fd : FuncData} (D : FnP K "box_behind" s_box_behind f fd) (s : Shared) (us : List Value) (x : K.In s.heap) (hl : us.length = 2) : BindsTo s fd ⟨[], (["place", "row"] : List Str).zip us⟩ ((["place", "row"] : List Str).zip us) := FunD.bindsK (ps := ["place", "row"]) D (fun _ _ _ _ _ _ us hl => match us, hl with | [_, _], _ => rfl) s us x hl
theorem ok_box_behind (S : Says faL fnL K mg) (fd : FuncData) (D_box_behind : FnP K "box_behind" s_box_behind (He.ga K "box_behind") fd) : FnOk P w K mg base (L2.CX P w) 15 (He.ga K "box_behind") fd ["place", "row"] (spF (Gof K w) 2 F_box_behind) := by
  obtain ⟨fd_behind_in, D_behind_in⟩ := S.c.def_ 25 (d := d_behind_in) rfl
  obtain ⟨fd_sure_place, D_sure_place⟩ := S.c.def_ 9 (d := d_sure_place) rfl
  obtain ⟨fd_sure_steps, D_sure_steps⟩ := S.c.def_ 24 (d := d_sure_steps) rfl
  refine fn_ok D_box_behind sc_box_behind [true, true] rfl fun cdv A outer s H E hr => ?_
  have tk : Takes (cxOf (L2.CX P w) P w K mg base ["place", "row", "own"] "box_behind" (defScope s_box_behind) (He.ga K "box_behind") cdv A outer s H E) (fun cls d _ H => E cls d H) := takes_of rfl rfl rfl rfl
  have po : PassesOwn (model P w) (cxOf (L2.CX P w) P w K mg base ["place", "row", "own"] "box_behind" (defScope s_box_behind) (He.ga K "box_behind") cdv A outer s H E).A (cxOf (L2.CX P w) P w K mg base ["place", "row", "own"] "box_behind" (defScope s_box_behind) (He.ga K "box_behind") cdv A outer s H E).env (cxOf (L2.CX P w) P w K mg base ["place", "row", "own"] "box_behind" (defScope s_box_behind) (He.ga K "box_behind") cdv A outer s H E).xe := passes_of rfl
  have hu : (cxOf (L2.CX P w) P w K mg base ["place", "row", "own"] "box_behind" (defScope s_box_behind) (He.ga K "box_behind") cdv A outer s H E).A.units + 65 < cLine := hu_of hr
  have SC := sc_box_behind
  exact jss_cons (js_set SC.nd (i := 2) rfl (by first | exact Or.inl rfl | exact Or.inr rfl) (je_call (ok_sure_place S fd_sure_place D_sure_place) (hr.mono (by decide)) (S.glo 9) D_sure_place.kp (bd_sure_place D_sure_place) tk (ja_cons (je_nm 0) (ja_nil)))) (jss_one (js_ret (je_call (ok_behind_in S fd_behind_in D_behind_in) (hr.mono (by decide)) (S.glo 25) D_behind_in.kp (bd_behind_in D_behind_in) tk (ja_cons (je_nm 2) (ja_cons (je_call (ok_sure_steps S fd_sure_steps D_sure_steps) (hr.mono (by decide)) (S.glo 24) D_sure_steps.kp (bd_sure_steps D_sure_steps) tk (ja_cons (je_blt c_len (s_len rfl) (S.free 53) boot_len (ja_cons (je_ix (ix_G (g := Gof K w) (hu9 hu) rfl rfl) (s_get rfl) (je_nm 2) (je_int)) (ja_nil))) (ja_cons (je_nm 1) (ja_nil)))) (ja_nil))))))
theorem sc_order_tree : FnScope ["sides", "moves", "start", "found", "row", "here", "move", "near"] ["sides", "moves"] (defScope s_order_tree) := ⟨rfl, rfl, rfl, by decide +kernel, rfl, by decide +kernel, by decide +kernel⟩
theorem bd_order_tree {f : Addr} {fd : FuncData} (D : FnP K "order_tree" s_order_tree f fd) : Binds K fd ["sides", "moves"] [] := D.bindsN fun _ _ _ _ _ _ us hl => match us, hl with | [_, _], _ => rfl
theorem K_order_tree {f : Addr} {fd : FuncData} (D : FnP K "order_tree" s_order_tree f fd) (s : Shared) (us : List Value) (x : K.In s.heap) (hl : us.length = 2) : BindsTo s fd ⟨[], (["sides", "moves"] : List Str).zip us⟩ ((["sides", "moves"] : List Str).zip us) := FunD.bindsK (ps := ["sides", "moves"]) D (fun _ _ _ _ _ _ us hl => match us, hl with | [_, _], _ => rfl) s us x hl
theorem ok_order_tree (S : Says faL fnL K mg) (fd : FuncData) (D_order_tree : FnP K "order_tree" s_order_tree (He.ga K "order_tree") fd) : FnOk P w K mg base (L2.CX P w) 2 (He.ga K "order_tree") fd ["sides", "moves"] (spF (Gof K w) 2 F_order_tree) := by
  obtain ⟨fd_exchanged_at, D_exchanged_at⟩ := S.c.def_ 13 (d := d_exchanged_at) rfl
  refine fn_ok D_order_tree sc_order_tree [true, true] rfl fun cdv A outer s H E hr => ?_
  have tk : Takes (cxOf (L2.CX P w) P w K mg base ["sides", "moves", "start", "found", "row", "here", "move", "near"] "order_tree" (defScope s_order_tree) (He.ga K "order_tree") cdv A outer s H E) (fun cls d _ H => E cls d H) := takes_of rfl rfl rfl rfl
  have po : PassesOwn (model P w) (cxOf (L2.CX P w) P w K mg base ["sides", "moves", "start", "found", "row", "here", "move", "near"] "order_tree" (defScope s_order_tree) (He.ga K "order_tree") cdv A outer s H E).A (cxOf (L2.CX P w) P w K mg base ["sides", "moves", "start", "found", "row", "here", "move", "near"] "order_tree" (defScope s_order_tree) (He.ga K "order_tree") cdv A outer s H E).env (cxOf (L2.CX P w) P w K mg base ["sides", "moves", "start", "found", "row", "here", "move", "near"] "order_tree" (defScope s_order_tree) (He.ga K "order_tree") cdv A outer s H E).xe := passes_of rfl
  have hu : (cxOf (L2.CX P w) P w K mg base ["sides", "moves", "start", "found", "row", "here", "move", "near"] "order_tree" (defScope s_order_tree) (He.ga K "order_tree") cdv A outer s H E).A.units + 65 < cLine := hu_of hr
  have SC := sc_order_tree
  exact jss_cons (js_set SC.nd (i := 2) rfl (by first | exact Or.inl rfl | exact Or.inr rfl) (je_tupR1 rfl (S.free 52) (S.free 58) (je_nm 0))) (jss_cons (js_par rfl SC.nd (ja_cons (je_dict (hu9 hu) (jpp_cons (je_nm 2) (je_non) (jpp_nil))) (ja_cons (je_lst (by decide) (ja_cons (je_nm 2) (ja_nil))) (ja_nil))) (i := 3) (j := 4)) (jss_cons (js_while 100000 po (jt_cmp op_gt s_gt (je_blt c_len (s_len rfl) (S.free 53) boot_len (ja_cons (je_nm 4) (ja_nil))) (je_int) (nomark _)) (jss_cons (js_set SC.nd (i := 5) rfl (by first | exact Or.inl rfl | exact Or.inr rfl) (je_bm PySem.F.plainAttrs_list PySem.F.slot_list_pop PySem.F.type_list_pop mt_popG sm_pop (ja_cons (je_int) (ja_nil)))) (jss_one (js_for po rfl (ji_seq rfl (je_nm 1)) (jg_name SC.nd (i := 6) rfl (by first | exact Or.inl rfl | exact Or.inr rfl)) (jss_cons (js_set SC.nd (i := 7) rfl (by first | exact Or.inl rfl | exact Or.inr rfl) (je_call (ok_exchanged_at S fd_exchanged_at D_exchanged_at) (hr.mono (by decide)) (S.glo 13) D_exchanged_at.kp (bd_exchanged_at D_exchanged_at) tk (ja_cons (je_nm 5) (ja_cons (je_ix (ix_G (g := Gof K w) (hu9 hu) rfl rfl) (s_get rfl) (je_nm 6) (je_int)) (ja_cons (je_ix (ix_G (g := Gof K w) (hu9 hu) rfl rfl) (s_get rfl) (je_nm 6) (je_int)) (ja_nil)))))) (jss_one (js_if (jt_cmp (op_ninG (g := Gof K w) hu rfl rfl) (s_nin rfl) (je_nm 7) (je_nm 3) (by with_unfolding_all rfl)) (jss_cons (js_asg (je_tup (by decide) (ja_cons (je_nm 5) (ja_cons (je_nm 6) (ja_nil)))) (jg_ls (W := W0) (x := 3) (hu9 hu) rfl rfl (je_nm 7)) ok_gL) (jss_one (js_expr (je_bm PySem.F.plainAttrs_list PySem.F.slot_list_append PySem.F.type_list_append mt_append sm_app (ja_cons (je_nm 7) (ja_nil)))))) (jss_nil)))))))) (jss_one (js_ret (je_nm 3)))))
theorem sc_ways_back : FnScope ["tree", "here", "found", "move"] ["tree", "here"] (defScope s_ways_back) := ⟨rfl, rfl, rfl, by decide +kernel, rfl, by decide +kernel, by decide +kernel⟩
theorem bd_ways_back {f : Addr} {fd : FuncData} (D : FnP K "ways_back" s_ways_back f fd) : Binds K fd ["tree", "here"] [] := D.bindsN fun _ _ _ _ _ _ us hl => match us, hl with | [_, _], _ => rfl
theorem K_ways_back {f : Addr} {fd : FuncData} (D : FnP K "ways_back" s_ways_back f fd) (s : Shared) (us : List Value) (x : K.In s.heap) (hl : us.length = 2) : BindsTo s fd ⟨[], (["tree", "here"] : List Str).zip us⟩ ((["tree", "here"] : List Str).zip us) := FunD.bindsK (ps := ["tree", "here"]) D (fun _ _ _ _ _ _ us hl => match us, hl with | [_, _], _ => rfl) s us x hl
theorem ok_ways_back (S : Says faL fnL K mg) (fd : FuncData) (D_ways_back : FnP K "ways_back" s_ways_back (He.ga K "ways_back") fd) : FnOk P w K mg base (L2.CX P w) 1 (He.ga K "ways_back") fd ["tree", "here"] (spF (Gof K w) 2 F_ways_back) := by
  refine fn_ok D_ways_back sc_ways_back [true, false] rfl fun cdv A outer s H E hr => ?_
  have tk : Takes (cxOf (L2.CX P w) P w K mg base ["tree", "here", "found", "move"] "ways_back" (defScope s_ways_back) (He.ga K "ways_back") cdv A outer s H E) (fun cls d _ H => E cls d H) := takes_of rfl rfl rfl rfl
  have po : PassesOwn (model P w) (cxOf (L2.CX P w) P w K mg base ["tree", "here", "found", "move"] "ways_back" (defScope s_ways_back) (He.ga K "ways_back") cdv A outer s H E).A (cxOf (L2.CX P w) P w K mg base ["tree", "here", "found", "move"] "ways_back" (defScope s_ways_back) (He.ga K "ways_back") cdv A outer s H E).env (cxOf (L2.CX P w) P w K mg base ["tree", "here", "found", "move"] "ways_back" (defScope s_ways_back) (He.ga K "ways_back") cdv A outer s H E).xe := passes_of rfl
  have hu : (cxOf (L2.CX P w) P w K mg base ["tree", "here", "found", "move"] "ways_back" (defScope s_ways_back) (He.ga K "ways_back") cdv A outer s H E).A.units + 65 < cLine := hu_of hr
  have SC := sc_ways_back
  exact jss_cons (js_set SC.nd (i := 2) rfl (by first | exact Or.inl rfl | exact Or.inr rfl) (je_lst (by decide) (ja_nil))) (jss_cons (js_while 100000 po (jt_cmp op_notN s_notN (je_ix (ix_G (g := Gof K w) (hu9 hu) rfl rfl) (s_get rfl) (je_nm 0) (je_nm 1)) (je_non) (nomark _)) (jss_cons (js_asg (je_ix (ix_G (g := Gof K w) (hu9 hu) rfl rfl) (s_get rfl) (je_nm 0) (je_nm 1)) (jg_tup rfl rfl (jgs_cons (jg_name SC.nd (i := 1) rfl (by first | exact Or.inl rfl | exact Or.inr rfl)) (jgs_cons (jg_name SC.nd (i := 3) rfl (by first | exact Or.inl rfl | exact Or.inr rfl)) (jgs_nil)))) (ok_gT (.cons ok_gN (.cons ok_gN (.nil))))) (jss_one (js_expr (je_bm PySem.F.plainAttrs_list PySem.F.slot_list_append PySem.F.type_list_append mt_append sm_app (ja_cons (je_nm 3) (ja_nil))))))) (jss_one (js_ret (je_rev rfl (je_nm 2)))))
theorem sc_tips_of : FnScope ["moves", "move"] ["moves"] (defScope s_tips_of) := ⟨rfl, rfl, rfl, by decide +kernel, rfl, by decide +kernel, by decide +kernel⟩
theorem bd_tips_of {f : Addr} {fd : FuncData} (D : FnP K "tips_of" s_tips_of f fd) : Binds K fd ["moves"] [] := D.bindsN fun _ _ _ _ _ _ us hl => match us, hl with | [_], _ => rfl
theorem K_tips_of {f : Addr} {fd : FuncData} (D : FnP K "tips_of" s_tips_of f fd) (s : Shared) (us : List Value) (x : K.In s.heap) (hl : us.length = 1) : BindsTo s fd ⟨[], (["moves"] : List Str).zip us⟩ ((["moves"] : List Str).zip us) := FunD.bindsK (ps := ["moves"]) D (fun _ _ _ _ _ _ us hl => match us, hl with | [_], _ => rfl) s us x hl
theorem ok_tips_of (S : Says faL fnL K mg) (fd : FuncData) (D_tips_of : FnP K "tips_of" s_tips_of (He.ga K "tips_of") fd) : FnOk P w K mg base (L2.CX P w) 1 (He.ga K "tips_of") fd ["moves"] (spF (Gof K w) 1 F_tips_of) := by
  refine fn_ok D_tips_of sc_tips_of [true] rfl fun cdv A outer s H E hr => ?_
  have tk : Takes (cxOf (L2.CX P w) P w K mg base ["moves", "move"] "tips_of" (defScope s_tips_of) (He.ga K "tips_of") cdv A outer s H E) (fun cls d _ H => E cls d H) := takes_of rfl rfl rfl rfl
  have po : PassesOwn (model P w) (cxOf (L2.CX P w) P w K mg base ["moves", "move"] "tips_of" (defScope s_tips_of) (He.ga K "tips_of") cdv A outer s H E).A (cxOf (L2.CX P w) P w K mg base ["moves", "move"] "tips_of" (defScope s_tips_of) (He.ga K "tips_of") cdv A outer s H E).env (cxOf (L2.CX P w) P w K mg base ["moves", "move"] "tips_of" (defScope s_tips_of) (He.ga K "tips_of") cdv A outer s H E).xe := passes_of rfl
  have hu : (cxOf (L2.CX P w) P w K mg base ["moves", "move"] "tips_of" (defScope s_tips_of) (He.ga K "tips_of") cdv A outer s H E).A.units + 65 < cLine := hu_of hr
  have SC := sc_tips_of
  exact jss_one (js_ret (je_typ call_tuple_of (s_tuple rfl) (S.free 52) boot_tuple (ja_cons (je_lc rfl SC.nd (ji_seq rfl (je_nm 0)) (own := [("move", 1)]) (blkOk_by (by kernel_rfl)) (fun s H C cl fp => jg_name SC.nd (i := 1) rfl (by first | exact Or.inl rfl | exact Or.inr rfl)) (fun s H C cl fp => jts_nil) (fun s H C cl fp => je_tup (by decide) (ja_cons (gstr (S.str 60)) (ja_cons (je_ix (ix_G (g := Gof K w) (hu9 hu) rfl rfl) (s_get rfl) (je_nm 1) (je_int)) (ja_cons (je_int) (ja_nil)))))) (ja_nil))))
theorem sc_tip_tree : FnScope ["sides", "axis"] ["sides"] (defScope s_tip_tree) := ⟨rfl, rfl, rfl, by decide +kernel, rfl, by decide +kernel, by decide +kernel⟩
theorem bd_tip_tree {f : Addr} {fd : FuncData} (D : FnP K "tip_tree" s_tip_tree f fd) : Binds K fd ["sides"] [] := D.bindsN fun _ _ _ _ _ _ us hl => match us, hl with | [_], _ => rfl
theorem K_tip_tree {f : Addr} {fd : FuncData} (D : FnP K "tip_tree" s_tip_tree f fd) (s : Shared) (us : List Value) (x : K.In s.heap) (hl : us.length = 1) : BindsTo s fd ⟨[], (["sides"] : List Str).zip us⟩ ((["sides"] : List Str).zip us) := FunD.bindsK (ps := ["sides"]) D (fun _ _ _ _ _ _ us hl => match us, hl with | [_], _ => rfl) s us x hl
theorem ok_tip_tree (S : Says faL fnL K mg) (fd : FuncData) (D_tip_tree : FnP K "tip_tree" s_tip_tree (He.ga K "tip_tree") fd) : FnOk P w K mg base (L2.CX P w) 3 (He.ga K "tip_tree") fd ["sides"] (spF (Gof K w) 1 F_tip_tree) := by
  obtain ⟨fd_order_tree, D_order_tree⟩ := S.c.def_ 27 (d := d_order_tree) rfl
  refine fn_ok D_tip_tree sc_tip_tree [true] rfl fun cdv A outer s H E hr => ?_
  have tk : Takes (cxOf (L2.CX P w) P w K mg base ["sides", "axis"] "tip_tree" (defScope s_tip_tree) (He.ga K "tip_tree") cdv A outer s H E) (fun cls d _ H => E cls d H) := takes_of rfl rfl rfl rfl
  have po : PassesOwn (model P w) (cxOf (L2.CX P w) P w K mg base ["sides", "axis"] "tip_tree" (defScope s_tip_tree) (He.ga K "tip_tree") cdv A outer s H E).A (cxOf (L2.CX P w) P w K mg base ["sides", "axis"] "tip_tree" (defScope s_tip_tree) (He.ga K "tip_tree") cdv A outer s H E).env (cxOf (L2.CX P w) P w K mg base ["sides", "axis"] "tip_tree" (defScope s_tip_tree) (He.ga K "tip_tree") cdv A outer s H E).xe := passes_of rfl
  have hu : (cxOf (L2.CX P w) P w K mg base ["sides", "axis"] "tip_tree" (defScope s_tip_tree) (He.ga K "tip_tree") cdv A outer s H E).A.units + 65 < cLine := hu_of hr
  have SC := sc_tip_tree
  exact jss_one (js_ret (je_call (ok_order_tree S fd_order_tree D_order_tree) (hr.mono (by decide)) (S.glo 27) D_order_tree.kp (bd_order_tree D_order_tree) tk (ja_cons (je_nm 0) (ja_cons (je_lc rfl SC.nd (ji_rng1 (hm := S.free 58) (ha := ja_cons (je_bin op_sub s_sub (je_nm 0) (je_int)) (ja_nil))) (own := [("axis", 1)]) (blkOk_by (by kernel_rfl)) (fun s H C cl fp => jg_name SC.nd (i := 1) rfl (by first | exact Or.inl rfl | exact Or.inr rfl)) (fun s H C cl fp => jts_nil) (fun s H C cl fp => je_tup (by decide) (ja_cons (je_nm 1) (ja_cons (je_bin op_sub s_sub (je_nm 0) (je_int)) (ja_nil))))) (ja_nil)))))
theorem sc_to_order : FnScope ["order"] ["order"] (defScope s_to_order) := ⟨rfl, rfl, rfl, by decide +kernel, rfl, by decide +kernel, by decide +kernel⟩
theorem bd_to_order {f : Addr} {fd : FuncData} (D : FnP K "to_order" s_to_order f fd) : Binds K fd ["order"] [] := D.bindsN fun _ _ _ _ _ _ us hl => match us, hl with | [_], _ => rfl
theorem K_to_order {f : Addr} {fd : FuncData} (D : FnP K "to_order" s_to_order f fd) (s : Shared) (us : List Value) (x : K.In s.heap) (hl : us.length = 1) : BindsTo s fd ⟨[], (["order"] : List Str).zip us⟩ ((["order"] : List Str).zip us) := FunD.bindsK (ps := ["order"]) D (fun _ _ _ _ _ _ us hl => match us, hl with | [_], _ => rfl) s us x hl
theorem ok_to_order (S : Says faL fnL K mg) (fd : FuncData) (D_to_order : FnP K "to_order" s_to_order (He.ga K "to_order") fd) : FnOk P w K mg base (L2.CX P w) 4 (He.ga K "to_order") fd ["order"] (spF (Gof K w) 1 F_to_order) := by
  obtain ⟨fd_tip_tree, D_tip_tree⟩ := S.c.def_ 30 (d := d_tip_tree) rfl
  obtain ⟨fd_tips_of, D_tips_of⟩ := S.c.def_ 29 (d := d_tips_of) rfl
  obtain ⟨fd_ways_back, D_ways_back⟩ := S.c.def_ 28 (d := d_ways_back) rfl
  refine fn_ok D_to_order sc_to_order [true] rfl fun cdv A outer s H E hr => ?_
  have tk : Takes (cxOf (L2.CX P w) P w K mg base ["order"] "to_order" (defScope s_to_order) (He.ga K "to_order") cdv A outer s H E) (fun cls d _ H => E cls d H) := takes_of rfl rfl rfl rfl
  have po : PassesOwn (model P w) (cxOf (L2.CX P w) P w K mg base ["order"] "to_order" (defScope s_to_order) (He.ga K "to_order") cdv A outer s H E).A (cxOf (L2.CX P w) P w K mg base ["order"] "to_order" (defScope s_to_order) (He.ga K "to_order") cdv A outer s H E).env (cxOf (L2.CX P w) P w K mg base ["order"] "to_order" (defScope s_to_order) (He.ga K "to_order") cdv A outer s H E).xe := passes_of rfl
  have hu : (cxOf (L2.CX P w) P w K mg base ["order"] "to_order" (defScope s_to_order) (He.ga K "to_order") cdv A outer s H E).A.units + 65 < cLine := hu_of hr
  have SC := sc_to_order
  exact jss_one (js_ret (je_call (ok_tips_of S fd_tips_of D_tips_of) (hr.mono (by decide)) (S.glo 29) D_tips_of.kp (bd_tips_of D_tips_of) tk (ja_cons (je_call (ok_ways_back S fd_ways_back D_ways_back) (hr.mono (by decide)) (S.glo 28) D_ways_back.kp (bd_ways_back D_ways_back) tk (ja_cons (je_call (ok_tip_tree S fd_tip_tree D_tip_tree) (hr.mono (by decide)) (S.glo 30) D_tip_tree.kp (bd_tip_tree D_tip_tree) tk (ja_cons (je_blt c_len (s_len rfl) (S.free 53) boot_len (ja_cons (je_nm 0) (ja_nil))) (ja_nil))) (ja_cons (je_nm 0) (ja_nil)))) (ja_nil))))
theorem sc_order_tips : FnScope ["order"] ["order"] (defScope s_order_tips) := ⟨rfl, rfl, rfl, by decide +kernel, rfl, by decide +kernel, by decide +kernel⟩
theorem bd_order_tips {f : Addr} {fd : FuncData} (D : FnP K "order_tips" s_order_tips f fd) : Binds K fd ["order"] [] := D.bindsN fun _ _ _ _ _ _ us hl => match us, hl with | [_], _ => rfl
theorem K_order_tips {f : Addr} {fd : FuncData} (D : FnP K "order_tips" s_order_tips f fd) (s : Shared) (us : List Value) (x : K.In s.heap) (hl : us.length = 1) : BindsTo s fd ⟨[], (["order"] : List Str).zip us⟩ ((["order"] : List Str).zip us) := FunD.bindsK (ps := ["order"]) D (fun _ _ _ _ _ _ us hl => match us, hl with | [_], _ => rfl) s us x hl
theorem ok_order_tips (S : Says faL fnL K mg) (fd : FuncData) (D_order_tips : FnP K "order_tips" s_order_tips (He.ga K "order_tips") fd) : FnOk P w K mg base (L2.CX P w) 15 (He.ga K "order_tips") fd ["order"] (spF (Gof K w) 1 F_order_tips) := by
  obtain ⟨fd_sure_order, D_sure_order⟩ := S.c.def_ 10 (d := d_sure_order) rfl
  obtain ⟨fd_to_order, D_to_order⟩ := S.c.def_ 31 (d := d_to_order) rfl
  refine fn_ok D_order_tips sc_order_tips [true] rfl fun cdv A outer s H E hr => ?_
  have tk : Takes (cxOf (L2.CX P w) P w K mg base ["order"] "order_tips" (defScope s_order_tips) (He.ga K "order_tips") cdv A outer s H E) (fun cls d _ H => E cls d H) := takes_of rfl rfl rfl rfl
  have po : PassesOwn (model P w) (cxOf (L2.CX P w) P w K mg base ["order"] "order_tips" (defScope s_order_tips) (He.ga K "order_tips") cdv A outer s H E).A (cxOf (L2.CX P w) P w K mg base ["order"] "order_tips" (defScope s_order_tips) (He.ga K "order_tips") cdv A outer s H E).env (cxOf (L2.CX P w) P w K mg base ["order"] "order_tips" (defScope s_order_tips) (He.ga K "order_tips") cdv A outer s H E).xe := passes_of rfl
  have hu : (cxOf (L2.CX P w) P w K mg base ["order"] "order_tips" (defScope s_order_tips) (He.ga K "order_tips") cdv A outer s H E).A.units + 65 < cLine := hu_of hr
  have SC := sc_order_tips
  exact jss_one (js_ret (je_call (ok_to_order S fd_to_order D_to_order) (hr.mono (by decide)) (S.glo 31) D_to_order.kp (bd_to_order D_to_order) tk (ja_cons (je_call (ok_sure_order S fd_sure_order D_sure_order) (hr.mono (by decide)) (S.glo 10) D_sure_order.kp (bd_sure_order D_sure_order) tk (ja_cons (je_nm 0) (ja_nil))) (ja_nil))))
theorem sc_rounds_of : FnScope ["order", "seen", "found", "place", "here"] ["order"] (defScope s_rounds_of) := ⟨rfl, rfl, rfl, by decide +kernel, rfl, by decide +kernel, by decide +kernel⟩
theorem bd_rounds_of {f : Addr} {fd : FuncData} (D : FnP K "rounds_of" s_rounds_of f fd) : Binds K fd ["order"] [] := D.bindsN fun _ _ _ _ _ _ us hl => match us, hl with | [_], _ => rfl
theorem K_rounds_of {f : Addr} {fd : FuncData} (D : FnP K "rounds_of" s_rounds_of f fd) (s : Shared) (us : List Value) (x : K.In s.heap) (hl : us.length = 1) : BindsTo s fd ⟨[], (["order"] : List Str).zip us⟩ ((["order"] : List Str).zip us) := FunD.bindsK (ps := ["order"]) D (fun _ _ _ _ _ _ us hl => match us, hl with | [_], _ => rfl) s us x hl
theorem ok_rounds_of (S : Says faL fnL K mg) (fd : FuncData) (D_rounds_of : FnP K "rounds_of" s_rounds_of (He.ga K "rounds_of") fd) : FnOk P w K mg base (L2.CX P w) 1 (He.ga K "rounds_of") fd ["order"] (spF (Gof K w) 1 F_rounds_of) := by
  refine fn_ok D_rounds_of sc_rounds_of [true] rfl fun cdv A outer s H E hr => ?_
  have tk : Takes (cxOf (L2.CX P w) P w K mg base ["order", "seen", "found", "place", "here"] "rounds_of" (defScope s_rounds_of) (He.ga K "rounds_of") cdv A outer s H E) (fun cls d _ H => E cls d H) := takes_of rfl rfl rfl rfl
  have po : PassesOwn (model P w) (cxOf (L2.CX P w) P w K mg base ["order", "seen", "found", "place", "here"] "rounds_of" (defScope s_rounds_of) (He.ga K "rounds_of") cdv A outer s H E).A (cxOf (L2.CX P w) P w K mg base ["order", "seen", "found", "place", "here"] "rounds_of" (defScope s_rounds_of) (He.ga K "rounds_of") cdv A outer s H E).env (cxOf (L2.CX P w) P w K mg base ["order", "seen", "found", "place", "here"] "rounds_of" (defScope s_rounds_of) (He.ga K "rounds_of") cdv A outer s H E).xe := passes_of rfl
  have hu : (cxOf (L2.CX P w) P w K mg base ["order", "seen", "found", "place", "here"] "rounds_of" (defScope s_rounds_of) (He.ga K "rounds_of") cdv A outer s H E).A.units + 65 < cLine := hu_of hr
  have SC := sc_rounds_of
  exact jss_cons (js_par rfl SC.nd (ja_cons (je_dict0) (ja_cons (je_int) (ja_nil))) (i := 1) (j := 2)) (jss_cons (js_for po rfl (ji_rng1 (hm := S.free 58) (ha := ja_cons (je_blt c_len (s_len rfl) (S.free 53) boot_len (ja_cons (je_nm 0) (ja_nil))) (ja_nil))) (jg_name SC.nd (i := 3) rfl (by first | exact Or.inl rfl | exact Or.inr rfl)) (jss_one (js_if (jt_w (jw_and (jt_cmp (op_ninG (g := Gof K w) hu rfl rfl) (s_nin rfl) (je_nm 3) (je_nm 1) (by with_unfolding_all rfl)) (jw_and1 (jt_cmp (op_neD (hu64 hu)) (s_ne rfl) (je_ix (ix_G (g := Gof K w) (hu9 hu) rfl rfl) (s_get rfl) (je_nm 0) (je_nm 3)) (je_nm 3) (nomark _))))) (jss_cons (js_set SC.nd (i := 2) rfl (by first | exact Or.inl rfl | exact Or.inr rfl) (je_bin op_addA (s_add rfl) (je_nm 2) (je_int))) (jss_cons (js_set SC.nd (i := 4) rfl (by first | exact Or.inl rfl | exact Or.inr rfl) (je_nm 3)) (jss_one (js_while 100000 po (jt_cmp (op_ninG (g := Gof K w) hu rfl rfl) (s_nin rfl) (je_nm 4) (je_nm 1) (by with_unfolding_all rfl)) (jss_cons (js_asg (je_bl) (jg_ls (W := W0) (x := 1) (hu9 hu) rfl rfl (je_nm 4)) ok_gL) (jss_one (js_set SC.nd (i := 4) rfl (by first | exact Or.inl rfl | exact Or.inr rfl) (je_ix (ix_G (g := Gof K w) (hu9 hu) rfl rfl) (s_get rfl) (je_nm 0) (je_nm 4))))))))) (jss_nil)))) (jss_one (js_ret (je_nm 2))))
theorem sc_order_steps : FnScope ["order", "own", "up", "moved", "place", "side"] ["order"] (defScope s_order_steps) := ⟨rfl, rfl, rfl, by decide +kernel, rfl, by decide +kernel, by decide +kernel⟩
theorem bd_order_steps {f : Addr} {fd : FuncData} (D : FnP K "order_steps" s_order_steps f fd) : Binds K fd ["order"] [] := D.bindsN fun _ _ _ _ _ _ us hl => match us, hl with | [_], _ => rfl
theorem K_order_steps {f : Addr} {fd : FuncData} (D : FnP K "order_steps" s_order_steps f fd) (s : Shared) (us : List Value) (x : K.In s.heap) (hl : us.length = 1) : BindsTo s fd ⟨[], (["order"] : List Str).zip us⟩ ((["order"] : List Str).zip us) := FunD.bindsK (ps := ["order"]) D (fun _ _ _ _ _ _ us hl => match us, hl with | [_], _ => rfl) s us x hl
theorem ok_order_steps (S : Says faL fnL K mg) (fd : FuncData) (D_order_steps : FnP K "order_steps" s_order_steps (He.ga K "order_steps") fd) : FnOk P w K mg base (L2.CX P w) 15 (He.ga K "order_steps") fd ["order"] (spF (Gof K w) 1 F_order_steps) := by
  obtain ⟨fd_rounds_of, D_rounds_of⟩ := S.c.def_ 33 (d := d_rounds_of) rfl
  obtain ⟨fd_sure_order, D_sure_order⟩ := S.c.def_ 10 (d := d_sure_order) rfl
  refine fn_ok D_order_steps sc_order_steps [true] rfl fun cdv A outer s H E hr => ?_
  have tk : Takes (cxOf (L2.CX P w) P w K mg base ["order", "own", "up", "moved", "place", "side"] "order_steps" (defScope s_order_steps) (He.ga K "order_steps") cdv A outer s H E) (fun cls d _ H => E cls d H) := takes_of rfl rfl rfl rfl
  have po : PassesOwn (model P w) (cxOf (L2.CX P w) P w K mg base ["order", "own", "up", "moved", "place", "side"] "order_steps" (defScope s_order_steps) (He.ga K "order_steps") cdv A outer s H E).A (cxOf (L2.CX P w) P w K mg base ["order", "own", "up", "moved", "place", "side"] "order_steps" (defScope s_order_steps) (He.ga K "order_steps") cdv A outer s H E).env (cxOf (L2.CX P w) P w K mg base ["order", "own", "up", "moved", "place", "side"] "order_steps" (defScope s_order_steps) (He.ga K "order_steps") cdv A outer s H E).xe := passes_of rfl
  have hu : (cxOf (L2.CX P w) P w K mg base ["order", "own", "up", "moved", "place", "side"] "order_steps" (defScope s_order_steps) (He.ga K "order_steps") cdv A outer s H E).A.units + 65 < cLine := hu_of hr
  have SC := sc_order_steps
  exact jss_cons (js_set SC.nd (i := 1) rfl (by first | exact Or.inl rfl | exact Or.inr rfl) (je_call (ok_sure_order S fd_sure_order D_sure_order) (hr.mono (by decide)) (S.glo 10) D_sure_order.kp (bd_sure_order D_sure_order) tk (ja_cons (je_nm 0) (ja_nil)))) (jss_cons (js_par rfl SC.nd (ja_cons (je_bin op_sub s_sub (je_blt c_len (s_len rfl) (S.free 53) boot_len (ja_cons (je_nm 1) (ja_nil))) (je_int)) (ja_cons (je_lc rfl SC.nd (ji_enum (S.free 66) (je_nm 1)) (own := [("place", 4), ("side", 5)]) (blkOk_by (by kernel_rfl)) (fun s H C cl fp => jg_tup rfl rfl (jgs_cons (jg_name SC.nd (i := 4) rfl (by first | exact Or.inl rfl | exact Or.inr rfl)) (jgs_cons (jg_name SC.nd (i := 5) rfl (by first | exact Or.inl rfl | exact Or.inr rfl)) (jgs_nil)))) (fun s H C cl fp => jts_one (jt_cmp (op_neD (hu64 hu)) (s_ne rfl) (je_nm 5) (je_nm 4) (nomark _))) (fun s H C cl fp => je_nm 4)) (ja_nil))) (i := 2) (j := 3)) (jss_one (js_ret (je_bin op_sub s_sub (je_bin op_addA (s_add rfl) (je_blt c_len (s_len rfl) (S.free 53) boot_len (ja_cons (je_nm 3) (ja_nil))) (je_call (ok_rounds_of S fd_rounds_of D_rounds_of) (hr.mono (by decide)) (S.glo 33) D_rounds_of.kp (bd_rounds_of D_rounds_of) tk (ja_cons (je_nm 1) (ja_nil)))) (je_bin op_mulA (s_mul rfl) (je_int) (je_typ call_int1 s_int (S.free 50) PyProof.Rows.boot_int (ja_cons (je_cmp (op_inG (g := Gof K w) hu rfl rfl) (s_in rfl) (je_nm 2) (je_nm 3) (by with_unfolding_all rfl)) (ja_nil))))))))
theorem sc__law_box : FnScope ["script", "k", "bit_so"] ["script", "k"] (defScope s__law_box) := ⟨rfl, rfl, rfl, by decide +kernel, rfl, by decide +kernel, by decide +kernel⟩
theorem bd__law_box {f : Addr} {fd : FuncData} (D : FnP K "_law_box" s__law_box f fd) : Binds K fd ["script", "k"] [] := D.bindsN fun _ _ _ _ _ _ us hl => match us, hl with | [_, _], _ => rfl
theorem K__law_box {f : Addr} {fd : FuncData} (D : FnP K "_law_box" s__law_box f fd) (s : Shared) (us : List Value) (x : K.In s.heap) (hl : us.length = 2) : BindsTo s fd ⟨[], (["script", "k"] : List Str).zip us⟩ ((["script", "k"] : List Str).zip us) := FunD.bindsK (ps := ["script", "k"]) D (fun _ _ _ _ _ _ us hl => match us, hl with | [_, _], _ => rfl) s us x hl
theorem ok__law_box (S : Says faL fnL K mg) (fd : FuncData) (D__law_box : FnP K "_law_box" s__law_box (He.ga K "_law_box") fd) : FnOk P w K mg base (L2.CX P w) 1 (He.ga K "_law_box") fd ["script", "k"] (spF (Gof K w) 2 F__law_box) := by
  refine fn_ok D__law_box sc__law_box [true, true] rfl fun cdv A outer s H E hr => ?_
  have tk : Takes (cxOf (L2.CX P w) P w K mg base ["script", "k", "bit_so"] "_law_box" (defScope s__law_box) (He.ga K "_law_box") cdv A outer s H E) (fun cls d _ H => E cls d H) := takes_of rfl rfl rfl rfl
  have po : PassesOwn (model P w) (cxOf (L2.CX P w) P w K mg base ["script", "k", "bit_so"] "_law_box" (defScope s__law_box) (He.ga K "_law_box") cdv A outer s H E).A (cxOf (L2.CX P w) P w K mg base ["script", "k", "bit_so"] "_law_box" (defScope s__law_box) (He.ga K "_law_box") cdv A outer s H E).env (cxOf (L2.CX P w) P w K mg base ["script", "k", "bit_so"] "_law_box" (defScope s__law_box) (He.ga K "_law_box") cdv A outer s H E).xe := passes_of rfl
  have hu : (cxOf (L2.CX P w) P w K mg base ["script", "k", "bit_so"] "_law_box" (defScope s__law_box) (He.ga K "_law_box") cdv A outer s H E).A.units + 65 < cLine := hu_of hr
  have SC := sc__law_box
  exact jss_cons (js_set SC.nd (i := 2) rfl (by first | exact Or.inl rfl | exact Or.inr rfl) (je_if (jt_cmp op_lt s_lt (je_nm 1) (je_blt c_len (s_len rfl) (S.free 53) boot_len (ja_cons (je_nm 0) (ja_nil))) (nomark _)) (je_ix (ix_G (g := Gof K w) (hu9 hu) rfl rfl) (s_get rfl) (je_nm 0) (je_nm 1)) (je_int))) (jss_one (js_ret (je_lst (by decide) (ja_cons (je_bin op_mulA (s_mul rfl) (je_blt call_abs s_abs (S.free 67) boot_abs (ja_cons (je_nm 2) (ja_nil))) (je_typ call_int1 s_int (S.free 50) PyProof.Rows.boot_int (ja_cons (je_cmp op_ge s_ge (je_blt call_abs s_abs (S.free 67) boot_abs (ja_cons (je_nm 2) (ja_nil))) (je_bin op_pow s_pow (je_int) (je_int)) (nomark _)) (ja_nil)))) (ja_cons (je_bin op_addA (s_add rfl) (je_bin op_addA (s_add rfl) (je_bin op_mod s_mod (je_typ call_int1 s_int (S.free 50) PyProof.Rows.boot_int (ja_cons (je_nm 2) (ja_nil))) (je_int)) (je_bin op_mulA (s_mul rfl) (je_int) (je_nm 1))) (je_int)) (ja_cons (je_int) (ja_nil)))))))
theorem sc__law_take : FnScope ["tin", "below_so", "drawn", "once_so", "wide_so", "twice_so"] ["tin", "below_so"] (defScope s__law_take) := ⟨rfl, rfl, rfl, by decide +kernel, rfl, by decide +kernel, by decide +kernel⟩
theorem bd__law_take {f : Addr} {fd : FuncData} (D : FnP K "_law_take" s__law_take f fd) : Binds K fd ["tin", "below_so"] [] := D.bindsN fun _ _ _ _ _ _ us hl => match us, hl with | [_, _], _ => rfl
theorem K__law_take {f : Addr} {fd : FuncData} (D : FnP K "_law_take" s__law_take f fd) (s : Shared) (us : List Value) (x : K.In s.heap) (hl : us.length = 2) : BindsTo s fd ⟨[], (["tin", "below_so"] : List Str).zip us⟩ ((["tin", "below_so"] : List Str).zip us) := FunD.bindsK (ps := ["tin", "below_so"]) D (fun _ _ _ _ _ _ us hl => match us, hl with | [_, _], _ => rfl) s us x hl
theorem ok__law_take (S : Says faL fnL K mg) (fd : FuncData) (D__law_take : FnP K "_law_take" s__law_take (He.ga K "_law_take") fd) : FnOk P w K mg base (L2.CX P w) 1 (He.ga K "_law_take") fd ["tin", "below_so"] (spF (Gof K w) 2 F__law_take) := by
  refine fn_ok D__law_take sc__law_take [true, true] rfl fun cdv A outer s H E hr => ?_
  have tk : Takes (cxOf (L2.CX P w) P w K mg base ["tin", "below_so", "drawn", "once_so", "wide_so", "twice_so"] "_law_take" (defScope s__law_take) (He.ga K "_law_take") cdv A outer s H E) (fun cls d _ H => E cls d H) := takes_of rfl rfl rfl rfl
  have po : PassesOwn (model P w) (cxOf (L2.CX P w) P w K mg base ["tin", "below_so", "drawn", "once_so", "wide_so", "twice_so"] "_law_take" (defScope s__law_take) (He.ga K "_law_take") cdv A outer s H E).A (cxOf (L2.CX P w) P w K mg base ["tin", "below_so", "drawn", "once_so", "wide_so", "twice_so"] "_law_take" (defScope s__law_take) (He.ga K "_law_take") cdv A outer s H E).env (cxOf (L2.CX P w) P w K mg base ["tin", "below_so", "drawn", "once_so", "wide_so", "twice_so"] "_law_take" (defScope s__law_take) (He.ga K "_law_take") cdv A outer s H E).xe := passes_of rfl
  have hu : (cxOf (L2.CX P w) P w K mg base ["tin", "below_so", "drawn", "once_so", "wide_so", "twice_so"] "_law_take" (defScope s__law_take) (He.ga K "_law_take") cdv A outer s H E).A.units + 65 < cLine := hu_of hr
  have SC := sc__law_take
  exact jss_cons (js_if (jt_cmp op_gt s_gt (je_ix (ix_G (g := Gof K w) (hu9 hu) rfl rfl) (s_get rfl) (je_nm 0) (je_int)) (je_int) (nomark _)) (jss_cons (js_set SC.nd (i := 2) rfl (by first | exact Or.inl rfl | exact Or.inr rfl) (je_bin op_mod s_mod (je_typ call_int1 s_int (S.free 50) PyProof.Rows.boot_int (ja_cons (je_ix (ix_G (g := Gof K w) (hu9 hu) rfl rfl) (s_get rfl) (je_nm 0) (je_int)) (ja_nil))) (je_nm 1))) (jss_cons (js_asg (je_bin op_fdiv s_fdiv (je_ix (ix_G (g := Gof K w) (hu9 hu) rfl rfl) (s_get rfl) (je_nm 0) (je_int)) (je_nm 1)) (jg_ls (W := W0) (x := 0) (hu9 hu) rfl rfl (je_int)) ok_gL) (jss_one (js_ret (je_nm 2))))) (jss_nil)) (jss_cons (js_asg (je_bin op_addA (s_add rfl) (je_ix (ix_G (g := Gof K w) (hu9 hu) rfl rfl) (s_get rfl) (je_nm 0) (je_int)) (je_int)) (jg_ls (W := W0) (x := 0) (hu9 hu) rfl rfl (je_int)) ok_gL) (jss_cons (js_set SC.nd (i := 3) rfl (by first | exact Or.inl rfl | exact Or.inr rfl) (je_bin op_mod s_mod (je_typ call_int1 s_int (S.free 50) PyProof.Rows.boot_int (ja_cons (je_bin op_mulA (s_mul rfl) (je_bin op_addA (s_add rfl) (je_ix (ix_G (g := Gof K w) (hu9 hu) rfl rfl) (s_get rfl) (je_nm 0) (je_int)) (je_bin op_mulA (s_mul rfl) (je_int) (je_ix (ix_G (g := Gof K w) (hu9 hu) rfl rfl) (s_get rfl) (je_nm 0) (je_int)))) (je_bin op_addA (s_add rfl) (je_int) (je_ix (ix_G (g := Gof K w) (hu9 hu) rfl rfl) (s_get rfl) (je_nm 0) (je_int)))) (ja_nil))) (je_int))) (jss_cons (js_set SC.nd (i := 4) rfl (by first | exact Or.inl rfl | exact Or.inr rfl) (je_bin op_addA (s_add rfl) (je_bin op_mod s_mod (je_typ call_int1 s_int (S.free 50) PyProof.Rows.boot_int (ja_cons (je_nm 3) (ja_nil))) (je_int)) (je_int))) (jss_cons (js_set SC.nd (i := 5) rfl (by first | exact Or.inl rfl | exact Or.inr rfl) (je_bin op_mod s_mod (je_typ call_int1 s_int (S.free 50) PyProof.Rows.boot_int (ja_cons (je_bin op_mulA (s_mul rfl) (je_bin op_addA (s_add rfl) (je_bin op_addA (s_add rfl) (je_nm 3) (je_ix (ix_G (g := Gof K w) (hu9 hu) rfl rfl) (s_get rfl) (je_nm 0) (je_int))) (je_bin op_fdiv s_fdiv (je_ix (ix_G (g := Gof K w) (hu9 hu) rfl rfl) (s_get rfl) (je_nm 0) (je_int)) (je_int))) (je_nm 4)) (ja_nil))) (je_int))) (jss_one (js_ret (je_bin op_mod s_mod (je_typ call_int1 s_int (S.free 50) PyProof.Rows.boot_int (ja_cons (je_bin op_fdiv s_fdiv (je_bin op_mod s_mod (je_typ call_int1 s_int (S.free 50) PyProof.Rows.boot_int (ja_cons (je_bin op_addA (s_add rfl) (je_bin op_mulA (s_mul rfl) (je_nm 5) (je_int)) (je_nm 3)) (ja_nil))) (je_int)) (je_int)) (ja_nil))) (je_nm 1))))))))
theorem sc__law_cells : FnScope ["script", "most_so", "cells_so", "k", "bit_so", "at_so"] ["script", "most_so"] (defScope s__law_cells) := ⟨rfl, rfl, rfl, by decide +kernel, rfl, by decide +kernel, by decide +kernel⟩
theorem bd__law_cells {f : Addr} {fd : FuncData} (D : FnP K "_law_cells" s__law_cells f fd) : Binds K fd ["script", "most_so"] [] := D.bindsN fun _ _ _ _ _ _ us hl => match us, hl with | [_, _], _ => rfl
theorem K__law_cells {f : Addr} {fd : FuncData} (D : FnP K "_law_cells" s__law_cells f fd) (s : Shared) (us : List Value) (x : K.In s.heap) (hl : us.length = 2) : BindsTo s fd ⟨[], (["script", "most_so"] : List Str).zip us⟩ ((["script", "most_so"] : List Str).zip us) := FunD.bindsK (ps := ["script", "most_so"]) D (fun _ _ _ _ _ _ us hl => match us, hl with | [_, _], _ => rfl) s us x hl
theorem ok__law_cells (S : Says faL fnL K mg) (fd : FuncData) (D__law_cells : FnP K "_law_cells" s__law_cells (He.ga K "_law_cells") fd) : FnOk P w K mg base (L2.CX P w) 1 (He.ga K "_law_cells") fd ["script", "most_so"] (spF (Gof K w) 2 F__law_cells) := by
  refine fn_ok D__law_cells sc__law_cells [true, true] rfl fun cdv A outer s H E hr => ?_
  have tk : Takes (cxOf (L2.CX P w) P w K mg base ["script", "most_so", "cells_so", "k", "bit_so", "at_so"] "_law_cells" (defScope s__law_cells) (He.ga K "_law_cells") cdv A outer s H E) (fun cls d _ H => E cls d H) := takes_of rfl rfl rfl rfl
  have po : PassesOwn (model P w) (cxOf (L2.CX P w) P w K mg base ["script", "most_so", "cells_so", "k", "bit_so", "at_so"] "_law_cells" (defScope s__law_cells) (He.ga K "_law_cells") cdv A outer s H E).A (cxOf (L2.CX P w) P w K mg base ["script", "most_so", "cells_so", "k", "bit_so", "at_so"] "_law_cells" (defScope s__law_cells) (He.ga K "_law_cells") cdv A outer s H E).env (cxOf (L2.CX P w) P w K mg base ["script", "most_so", "cells_so", "k", "bit_so", "at_so"] "_law_cells" (defScope s__law_cells) (He.ga K "_law_cells") cdv A outer s H E).xe := passes_of rfl
  have hu : (cxOf (L2.CX P w) P w K mg base ["script", "most_so", "cells_so", "k", "bit_so", "at_so"] "_law_cells" (defScope s__law_cells) (He.ga K "_law_cells") cdv A outer s H E).A.units + 65 < cLine := hu_of hr
  have SC := sc__law_cells
  exact jss_cons (js_set SC.nd (i := 2) rfl (by first | exact Or.inl rfl | exact Or.inr rfl) (je_or rfl (je_typ call_list_of (s_list rfl) (S.free 54) boot_list (ja_cons (je_sl sl_A (s_sl rfl) (je_nm 0) (jo_none) (jo_some (je_nm 1))) (ja_nil))) (je_one (je_lst (by decide) (ja_cons (je_int) (ja_nil)))))) (jss_cons (js_for po rfl (ji_enum (S.free 66) (je_sl sl_A (s_sl rfl) (je_nm 0) (jo_some (je_nm 1)) (jo_some (je_int)))) (jg_tup rfl rfl (jgs_cons (jg_name SC.nd (i := 3) rfl (by first | exact Or.inl rfl | exact Or.inr rfl)) (jgs_cons (jg_name SC.nd (i := 4) rfl (by first | exact Or.inl rfl | exact Or.inr rfl)) (jgs_nil)))) (jss_cons (js_set SC.nd (i := 5) rfl (by first | exact Or.inl rfl | exact Or.inr rfl) (je_bin op_mod s_mod (je_typ call_int1 s_int (S.free 50) PyProof.Rows.boot_int (ja_cons (je_nm 3) (ja_nil))) (je_nm 1))) (jss_one (js_asg (je_bin op_addA (s_add rfl) (je_ix (ix_G (g := Gof K w) (hu9 hu) rfl rfl) (s_get rfl) (je_nm 2) (je_nm 5)) (je_bin op_mulA (s_mul rfl) (je_nm 4) (je_bin op_addA (s_add rfl) (je_nm 3) (je_int)))) (jg_ls (W := W0) (x := 2) (hu9 hu) rfl rfl (je_nm 5)) ok_gL)))) (jss_one (js_ret (je_nm 2))))
theorem sc__law_pick : FnScope ["tin", "goods_so", "count_so", "pool_so", "found", "lap"] ["tin", "goods_so", "count_so"] (defScope s__law_pick) := ⟨rfl, rfl, rfl, by decide +kernel, rfl, by decide +kernel, by decide +kernel⟩
theorem bd__law_pick {f : Addr} {fd : FuncData} (D : FnP K "_law_pick" s__law_pick f fd) : Binds K fd ["tin", "goods_so", "count_so"] [] := D.bindsN fun _ _ _ _ _ _ us hl => match us, hl with | [_, _, _], _ => rfl
theorem K__law_pick {f : Addr} {fd : FuncData} (D : FnP K "_law_pick" s__law_pick f fd) (s : Shared) (us : List Value) (x : K.In s.heap) (hl : us.length = 3) : BindsTo s fd ⟨[], (["tin", "goods_so", "count_so"] : List Str).zip us⟩ ((["tin", "goods_so", "count_so"] : List Str).zip us) := FunD.bindsK (ps := ["tin", "goods_so", "count_so"]) D (fun _ _ _ _ _ _ us hl => match us, hl with | [_, _, _], _ => rfl) s us x hl
theorem ok__law_pick (S : Says faL fnL K mg) (fd : FuncData) (D__law_pick : FnP K "_law_pick" s__law_pick (He.ga K "_law_pick") fd) : FnOk P w K mg base (L2.CX P w) 2 (He.ga K "_law_pick") fd ["tin", "goods_so", "count_so"] (spF (Gof K w) 3 F__law_pick) := by
  obtain ⟨fd__law_take, D__law_take⟩ := S.c.def_ 36 (d := d__law_take) rfl
  refine fn_ok D__law_pick sc__law_pick [true, true, true] rfl fun cdv A outer s H E hr => ?_
  have tk : Takes (cxOf (L2.CX P w) P w K mg base ["tin", "goods_so", "count_so", "pool_so", "found", "lap"] "_law_pick" (defScope s__law_pick) (He.ga K "_law_pick") cdv A outer s H E) (fun cls d _ H => E cls d H) := takes_of rfl rfl rfl rfl
  have po : PassesOwn (model P w) (cxOf (L2.CX P w) P w K mg base ["tin", "goods_so", "count_so", "pool_so", "found", "lap"] "_law_pick" (defScope s__law_pick) (He.ga K "_law_pick") cdv A outer s H E).A (cxOf (L2.CX P w) P w K mg base ["tin", "goods_so", "count_so", "pool_so", "found", "lap"] "_law_pick" (defScope s__law_pick) (He.ga K "_law_pick") cdv A outer s H E).env (cxOf (L2.CX P w) P w K mg base ["tin", "goods_so", "count_so", "pool_so", "found", "lap"] "_law_pick" (defScope s__law_pick) (He.ga K "_law_pick") cdv A outer s H E).xe := passes_of rfl
  have hu : (cxOf (L2.CX P w) P w K mg base ["tin", "goods_so", "count_so", "pool_so", "found", "lap"] "_law_pick" (defScope s__law_pick) (He.ga K "_law_pick") cdv A outer s H E).A.units + 65 < cLine := hu_of hr
  have SC := sc__law_pick
  exact jss_cons (js_par rfl SC.nd (ja_cons (je_typ call_list_of (s_list rfl) (S.free 54) boot_list (ja_cons (je_nm 1) (ja_nil))) (ja_cons (je_lst (by decide) (ja_nil)) (ja_nil))) (i := 3) (j := 4)) (jss_cons (js_for po rfl (ji_rng1 (hm := S.free 58) (ha := ja_cons (je_blt (c_min rfl) (s_min rfl) (S.free 68) boot_min (ja_cons (je_typ call_int1 s_int (S.free 50) PyProof.Rows.boot_int (ja_cons (je_nm 2) (ja_nil))) (ja_cons (je_blt c_len (s_len rfl) (S.free 53) boot_len (ja_cons (je_nm 3) (ja_nil))) (ja_nil)))) (ja_nil))) (jg_name SC.nd (i := 5) rfl (by first | exact Or.inl rfl | exact Or.inr rfl)) (jss_one (js_expr (je_bm PySem.F.plainAttrs_list PySem.F.slot_list_append PySem.F.type_list_append mt_append sm_app (ja_cons (je_bm PySem.F.plainAttrs_list PySem.F.slot_list_pop PySem.F.type_list_pop mt_popG sm_pop (ja_cons (je_call (ok__law_take S fd__law_take D__law_take) (hr.mono (by decide)) (S.glo 36) D__law_take.kp (bd__law_take D__law_take) tk (ja_cons (je_nm 0) (ja_cons (je_blt c_len (s_len rfl) (S.free 53) boot_len (ja_cons (je_nm 3) (ja_nil))) (ja_nil)))) (ja_nil))) (ja_nil)))))) (jss_one (js_ret (je_nm 4))))
theorem sc__law_same : FnScope ["got", "due", "mine", "its"] ["got", "due"] (defScope s__law_same) := ⟨rfl, rfl, rfl, by decide +kernel, rfl, by decide +kernel, by decide +kernel⟩
theorem bd__law_same {f : Addr} {fd : FuncData} (D : FnP K "_law_same" s__law_same f fd) : Binds K fd ["got", "due"] [] := D.bindsN fun _ _ _ _ _ _ us hl => match us, hl with | [_, _], _ => rfl
theorem K__law_same {f : Addr} {fd : FuncData} (D : FnP K "_law_same" s__law_same f fd) (s : Shared) (us : List Value) (x : K.In s.heap) (hl : us.length = 2) : BindsTo s fd ⟨[], (["got", "due"] : List Str).zip us⟩ ((["got", "due"] : List Str).zip us) := FunD.bindsK (ps := ["got", "due"]) D (fun _ _ _ _ _ _ us hl => match us, hl with | [_, _], _ => rfl) s us x hl
theorem okf__law_same (S : Says faL fnL K mg) (fd__law_same : FuncData) (D__law_same : FnP K "_law_same" s__law_same (He.ga K "_law_same") fd__law_same) (n : Nat) : FnOk P w K mg base (L2.CX P w) (1 + n) (He.ga K "_law_same") fd__law_same ["got", "due"] (spF (Gof K w) 2 (F__law_same n)) := by
  induction n with
  | zero => exact fn_bad D__law_same sc__law_same
  | succ n ih =>
    refine fn_ok (k := 1 + n) D__law_same sc__law_same [true, true] rfl fun cdv A outer s H E hr => ?_
    have hr0 := hr
    have tk : Takes (cxOf (L2.CX P w) P w K mg base ["got", "due", "mine", "its"] "_law_same" (defScope s__law_same) (He.ga K "_law_same") cdv A outer s H E) (fun cls d _ H => E cls d H) := takes_of rfl rfl rfl rfl
    have po : PassesOwn (model P w) (cxOf (L2.CX P w) P w K mg base ["got", "due", "mine", "its"] "_law_same" (defScope s__law_same) (He.ga K "_law_same") cdv A outer s H E).A (cxOf (L2.CX P w) P w K mg base ["got", "due", "mine", "its"] "_law_same" (defScope s__law_same) (He.ga K "_law_same") cdv A outer s H E).env (cxOf (L2.CX P w) P w K mg base ["got", "due", "mine", "its"] "_law_same" (defScope s__law_same) (He.ga K "_law_same") cdv A outer s H E).xe := passes_of rfl
    have hu : (cxOf (L2.CX P w) P w K mg base ["got", "due", "mine", "its"] "_law_same" (defScope s__law_same) (He.ga K "_law_same") cdv A outer s H E).A.units + 65 < cLine := hu_of hr
    have SC := sc__law_same
    exact jss_cons (js_if (jt_tst rfl (pe_eq (isiY [.lst, .tup]) (je_isi2 (S.free 49) (S.free 54) (S.free 52) PyProof.Rows.boot_list PyProof.Rows.boot_tuple kit_list kit_tuple (je_nm 1)))) (jss_cons (js_if (jt_w (jw_or (jt_cmp (op_neD (hu64 hu)) (s_ne rfl) (pe_eq (isiY [.lst]) (je_isi (S.free 49) (S.free 54) PyProof.Rows.boot_list kit_list (je_nm 0))) (pe_eq (isiY [.lst]) (je_isi (S.free 49) (S.free 54) PyProof.Rows.boot_list kit_list (je_nm 1))) (nomark _)) (jw_or1 (jt_cmp (op_neD (hu64 hu)) (s_ne rfl) (pe_eq (isiY [.tup]) (je_isi (S.free 49) (S.free 52) PyProof.Rows.boot_tuple kit_tuple (je_nm 0))) (pe_eq (isiY [.tup]) (je_isi (S.free 49) (S.free 52) PyProof.Rows.boot_tuple kit_tuple (je_nm 1))) (nomark _))))) (jss_one (js_ret (je_bl))) (jss_nil)) (jss_one (js_ret (je_and rfl (je_cmp (op_eqD (hu64 hu)) (s_eq rfl) (je_blt c_len (s_len rfl) (S.free 53) boot_len (ja_cons (je_nm 0) (ja_nil))) (je_blt c_len (s_len rfl) (S.free 53) boot_len (ja_cons (je_nm 1) (ja_nil))) (nomark _)) (je_one (je_blt (cr_all rfl) (s_all rfl) (S.free 55) boot_all (ja_cons (je_lc rfl SC.nd (ji_zip (S.free 69) (ja_cons (je_nm 0) (ja_cons (je_nm 1) (ja_nil)))) (own := [("mine", 2), ("its", 3)]) (blkOk_by (by kernel_rfl)) (fun s H C cl fp => jg_tup rfl rfl (jgs_cons (jg_name SC.nd (i := 2) rfl (by first | exact Or.inl rfl | exact Or.inr rfl)) (jgs_cons (jg_name SC.nd (i := 3) rfl (by first | exact Or.inl rfl | exact Or.inr rfl)) (jgs_nil)))) (fun s H C cl fp => jts_nil) (fun s H C cl fp => je_call ih hr0 (S.glo 39) D__law_same.kp (bd__law_same D__law_same) takes0 (ja_cons (je_nm 2) (ja_cons (je_nm 3) (ja_nil))))) (ja_nil)))))))) (jss_nil)) (jss_cons (js_if (jt_cmp op_isN s_isN (je_nm 1) (je_non) (nomark _)) (jss_one (js_ret (je_cmp op_isN s_isN (je_nm 0) (je_non) (nomark _)))) (jss_nil)) (jss_cons (js_if (jt_tst rfl (pe_eq (isiY [.bl, .str]) (je_isi2 (S.free 49) (S.free 51) (S.free 59) PyProof.Rows.boot_bool PyProof.Rows.boot_str kit_bool kit_str (je_nm 1)))) (jss_one (js_ret (je_and rfl (je_cmp (op_eqD (hu64 hu)) (s_eq rfl) (pe_eq (isiY [.bl]) (je_isi (S.free 49) (S.free 51) PyProof.Rows.boot_bool kit_bool (je_nm 0))) (pe_eq (isiY [.bl]) (je_isi (S.free 49) (S.free 51) PyProof.Rows.boot_bool kit_bool (je_nm 1))) (nomark _)) (je_and rfl (je_cmp (op_eqD (hu64 hu)) (s_eq rfl) (pe_eq (isiY [.str]) (je_isi (S.free 49) (S.free 59) PyProof.Rows.boot_str kit_str (je_nm 0))) (pe_eq (isiY [.str]) (je_isi (S.free 49) (S.free 59) PyProof.Rows.boot_str kit_str (je_nm 1))) (nomark _)) (je_one (je_cmp (op_eqD (hu64 hu)) (s_eq rfl) (je_nm 0) (je_nm 1) (nomark _))))))) (jss_nil)) (jss_one (js_ret (je_and rfl (pe_eq (isiY [.int]) (je_isi (S.free 49) (S.free 50) PyProof.Rows.boot_int kit_int (je_nm 0))) (je_and rfl (je_not rfl (pe_eq (isiY [.bl]) (je_isi (S.free 49) (S.free 51) PyProof.Rows.boot_bool kit_bool (je_nm 0)))) (je_one (je_cmp (op_eqD (hu64 hu)) (s_eq rfl) (je_nm 0) (je_nm 1) (nomark _)))))))))
theorem ok__law_same (S : Says faL fnL K mg) (fd : FuncData) (D__law_same : FnP K "_law_same" s__law_same (He.ga K "_law_same") fd) : FnOk P w K mg base (L2.CX P w) 13 (He.ga K "_law_same") fd ["got", "due"] (spF (Gof K w) 2 (F__law_same 12)) := okf__law_same S fd D__law_same 12
theorem sc__law_flip : FnScope ["row_so", "k"] ["row_so", "k"] (defScope s__law_flip) := ⟨rfl, rfl, rfl, by decide +kernel, rfl, by decide +kernel, by decide +kernel⟩
theorem bd__law_flip {f : Addr} {fd : FuncData} (D : FnP K "_law_flip" s__law_flip f fd) : Binds K fd ["row_so", "k"] [] := D.bindsN fun _ _ _ _ _ _ us hl => match us, hl with | [_, _], _ => rfl
theorem K__law_flip {f : Addr} {fd : FuncData} (D : FnP K "_law_flip" s__law_flip f fd) (s : Shared) (us : List Value) (x : K.In s.heap) (hl : us.length = 2) : BindsTo s fd ⟨[], (["row_so", "k"] : List Str).zip us⟩ ((["row_so", "k"] : List Str).zip us) := FunD.bindsK (ps := ["row_so", "k"]) D (fun _ _ _ _ _ _ us hl => match us, hl with | [_, _], _ => rfl) s us x hl
theorem ok__law_flip (S : Says faL fnL K mg) (fd : FuncData) (D__law_flip : FnP K "_law_flip" s__law_flip (He.ga K "_law_flip") fd) : FnOk P w K mg base (L2.CX P w) 1 (He.ga K "_law_flip") fd ["row_so", "k"] (spF (Gof K w) 2 F__law_flip) := by
  refine fn_ok D__law_flip sc__law_flip [true, true] rfl fun cdv A outer s H E hr => ?_
  have tk : Takes (cxOf (L2.CX P w) P w K mg base ["row_so", "k"] "_law_flip" (defScope s__law_flip) (He.ga K "_law_flip") cdv A outer s H E) (fun cls d _ H => E cls d H) := takes_of rfl rfl rfl rfl
  have po : PassesOwn (model P w) (cxOf (L2.CX P w) P w K mg base ["row_so", "k"] "_law_flip" (defScope s__law_flip) (He.ga K "_law_flip") cdv A outer s H E).A (cxOf (L2.CX P w) P w K mg base ["row_so", "k"] "_law_flip" (defScope s__law_flip) (He.ga K "_law_flip") cdv A outer s H E).env (cxOf (L2.CX P w) P w K mg base ["row_so", "k"] "_law_flip" (defScope s__law_flip) (He.ga K "_law_flip") cdv A outer s H E).xe := passes_of rfl
  have hu : (cxOf (L2.CX P w) P w K mg base ["row_so", "k"] "_law_flip" (defScope s__law_flip) (He.ga K "_law_flip") cdv A outer s H E).A.units + 65 < cLine := hu_of hr
  have SC := sc__law_flip
  exact jss_one (js_ret (je_bin op_addA (s_add rfl) (je_bin op_addA (s_add rfl) (je_sl sl_A (s_sl rfl) (je_nm 0) (jo_none) (jo_some (je_nm 1))) (je_tup (by decide) (ja_cons (je_un un_neg s_neg (je_ix (ix_G (g := Gof K w) (hu9 hu) rfl rfl) (s_get rfl) (je_nm 0) (je_nm 1))) (ja_nil)))) (je_sl sl_A (s_sl rfl) (je_nm 0) (jo_some (je_bin op_addA (s_add rfl) (je_nm 1) (je_int))) (jo_none))))
theorem sc__law_first : FnScope ["many"] ["many"] (defScope s__law_first) := ⟨rfl, rfl, rfl, by decide +kernel, rfl, by decide +kernel, by decide +kernel⟩
theorem bd__law_first {f : Addr} {fd : FuncData} (D : FnP K "_law_first" s__law_first f fd) : Binds K fd ["many"] [] := D.bindsN fun _ _ _ _ _ _ us hl => match us, hl with | [_], _ => rfl
theorem K__law_first {f : Addr} {fd : FuncData} (D : FnP K "_law_first" s__law_first f fd) (s : Shared) (us : List Value) (x : K.In s.heap) (hl : us.length = 1) : BindsTo s fd ⟨[], (["many"] : List Str).zip us⟩ ((["many"] : List Str).zip us) := FunD.bindsK (ps := ["many"]) D (fun _ _ _ _ _ _ us hl => match us, hl with | [_], _ => rfl) s us x hl
theorem ok__law_first (S : Says faL fnL K mg) (fd : FuncData) (D__law_first : FnP K "_law_first" s__law_first (He.ga K "_law_first") fd) : FnOk P w K mg base (L2.CX P w) 1 (He.ga K "_law_first") fd ["many"] (spF (Gof K w) 1 F__law_first) := by
  refine fn_ok D__law_first sc__law_first [true] rfl fun cdv A outer s H E hr => ?_
  have tk : Takes (cxOf (L2.CX P w) P w K mg base ["many"] "_law_first" (defScope s__law_first) (He.ga K "_law_first") cdv A outer s H E) (fun cls d _ H => E cls d H) := takes_of rfl rfl rfl rfl
  have po : PassesOwn (model P w) (cxOf (L2.CX P w) P w K mg base ["many"] "_law_first" (defScope s__law_first) (He.ga K "_law_first") cdv A outer s H E).A (cxOf (L2.CX P w) P w K mg base ["many"] "_law_first" (defScope s__law_first) (He.ga K "_law_first") cdv A outer s H E).env (cxOf (L2.CX P w) P w K mg base ["many"] "_law_first" (defScope s__law_first) (He.ga K "_law_first") cdv A outer s H E).xe := passes_of rfl
  have hu : (cxOf (L2.CX P w) P w K mg base ["many"] "_law_first" (defScope s__law_first) (He.ga K "_law_first") cdv A outer s H E).A.units + 65 < cLine := hu_of hr
  have SC := sc__law_first
  exact jss_one (js_ret (je_tup (by decide) (ja_cons (je_tupR1 rfl (S.free 52) (S.free 58) (je_nm 0)) (ja_cons (je_bin op_mulA (s_mul rfl) (je_tup (by decide) (ja_cons (je_bin op_mulA (s_mul rfl) (je_tup (by decide) (ja_cons (je_int) (ja_nil))) (je_nm 0)) (ja_nil))) (je_bin op_sub s_sub (je_nm 0) (je_int))) (ja_cons (je_bin op_mulA (s_mul rfl) (je_tup (by decide) (ja_cons (je_int) (ja_nil))) (je_nm 0)) (ja_nil))))))
theorem sc__law_traded : FnScope ["order_so", "a", "b", "row_so"] ["order_so", "a", "b"] (defScope s__law_traded) := ⟨rfl, rfl, rfl, by decide +kernel, rfl, by decide +kernel, by decide +kernel⟩
theorem bd__law_traded {f : Addr} {fd : FuncData} (D : FnP K "_law_traded" s__law_traded f fd) : Binds K fd ["order_so", "a", "b"] [] := D.bindsN fun _ _ _ _ _ _ us hl => match us, hl with | [_, _, _], _ => rfl
theorem K__law_traded {f : Addr} {fd : FuncData} (D : FnP K "_law_traded" s__law_traded f fd) (s : Shared) (us : List Value) (x : K.In s.heap) (hl : us.length = 3) : BindsTo s fd ⟨[], (["order_so", "a", "b"] : List Str).zip us⟩ ((["order_so", "a", "b"] : List Str).zip us) := FunD.bindsK (ps := ["order_so", "a", "b"]) D (fun _ _ _ _ _ _ us hl => match us, hl with | [_, _, _], _ => rfl) s us x hl
theorem ok__law_traded (S : Says faL fnL K mg) (fd : FuncData) (D__law_traded : FnP K "_law_traded" s__law_traded (He.ga K "_law_traded") fd) : FnOk P w K mg base (L2.CX P w) 1 (He.ga K "_law_traded") fd ["order_so", "a", "b"] (spF (Gof K w) 3 F__law_traded) := by
  refine fn_ok D__law_traded sc__law_traded [true, true, true] rfl fun cdv A outer s H E hr => ?_
  have tk : Takes (cxOf (L2.CX P w) P w K mg base ["order_so", "a", "b", "row_so"] "_law_traded" (defScope s__law_traded) (He.ga K "_law_traded") cdv A outer s H E) (fun cls d _ H => E cls d H) := takes_of rfl rfl rfl rfl
  have po : PassesOwn (model P w) (cxOf (L2.CX P w) P w K mg base ["order_so", "a", "b", "row_so"] "_law_traded" (defScope s__law_traded) (He.ga K "_law_traded") cdv A outer s H E).A (cxOf (L2.CX P w) P w K mg base ["order_so", "a", "b", "row_so"] "_law_traded" (defScope s__law_traded) (He.ga K "_law_traded") cdv A outer s H E).env (cxOf (L2.CX P w) P w K mg base ["order_so", "a", "b", "row_so"] "_law_traded" (defScope s__law_traded) (He.ga K "_law_traded") cdv A outer s H E).xe := passes_of rfl
  have hu : (cxOf (L2.CX P w) P w K mg base ["order_so", "a", "b", "row_so"] "_law_traded" (defScope s__law_traded) (He.ga K "_law_traded") cdv A outer s H E).A.units + 65 < cLine := hu_of hr
  have SC := sc__law_traded
  exact jss_cons (js_set SC.nd (i := 3) rfl (by first | exact Or.inl rfl | exact Or.inr rfl) (je_typ call_list_of (s_list rfl) (S.free 54) boot_list (ja_cons (je_nm 0) (ja_nil)))) (jss_cons (js_asg (je_tup (by decide) (ja_cons (je_ix (ix_G (g := Gof K w) (hu9 hu) rfl rfl) (s_get rfl) (je_nm 3) (je_nm 2)) (ja_cons (je_ix (ix_G (g := Gof K w) (hu9 hu) rfl rfl) (s_get rfl) (je_nm 3) (je_nm 1)) (ja_nil)))) (jg_tup rfl rfl (jgs_cons (jg_ls (W := W0) (x := 3) (hu9 hu) rfl rfl (je_nm 1)) (jgs_cons (jg_ls (W := W0) (x := 3) (hu9 hu) rfl rfl (je_nm 2)) (jgs_nil)))) (ok_gT (.cons ok_gL (.cons ok_gL (.nil))))) (jss_one (js_ret (je_typ call_tuple_of (s_tuple rfl) (S.free 52) boot_tuple (ja_cons (je_nm 3) (ja_nil))))))
theorem sc__law_more : FnScope ["rows_so", "more_so", "found", "row_so", "axis_so", "side_so", "by_so"] ["rows_so", "more_so"] (defScope s__law_more) := ⟨rfl, rfl, rfl, by decide +kernel, rfl, by decide +kernel, by decide +kernel⟩
theorem bd__law_more {f : Addr} {fd : FuncData} (D : FnP K "_law_more" s__law_more f fd) : Binds K fd ["rows_so", "more_so"] [] := D.bindsN fun _ _ _ _ _ _ us hl => match us, hl with | [_, _], _ => rfl
theorem K__law_more {f : Addr} {fd : FuncData} (D : FnP K "_law_more" s__law_more f fd) (s : Shared) (us : List Value) (x : K.In s.heap) (hl : us.length = 2) : BindsTo s fd ⟨[], (["rows_so", "more_so"] : List Str).zip us⟩ ((["rows_so", "more_so"] : List Str).zip us) := FunD.bindsK (ps := ["rows_so", "more_so"]) D (fun _ _ _ _ _ _ us hl => match us, hl with | [_, _], _ => rfl) s us x hl
theorem ok__law_more (S : Says faL fnL K mg) (fd : FuncData) (D__law_more : FnP K "_law_more" s__law_more (He.ga K "_law_more") fd) : FnOk P w K mg base (L2.CX P w) 1 (He.ga K "_law_more") fd ["rows_so", "more_so"] (spF (Gof K w) 2 F__law_more) := by
  refine fn_ok D__law_more sc__law_more [true, true] rfl fun cdv A outer s H E hr => ?_
  have tk : Takes (cxOf (L2.CX P w) P w K mg base ["rows_so", "more_so", "found", "row_so", "axis_so", "side_so", "by_so"] "_law_more" (defScope s__law_more) (He.ga K "_law_more") cdv A outer s H E) (fun cls d _ H => E cls d H) := takes_of rfl rfl rfl rfl
  have po : PassesOwn (model P w) (cxOf (L2.CX P w) P w K mg base ["rows_so", "more_so", "found", "row_so", "axis_so", "side_so", "by_so"] "_law_more" (defScope s__law_more) (He.ga K "_law_more") cdv A outer s H E).A (cxOf (L2.CX P w) P w K mg base ["rows_so", "more_so", "found", "row_so", "axis_so", "side_so", "by_so"] "_law_more" (defScope s__law_more) (He.ga K "_law_more") cdv A outer s H E).env (cxOf (L2.CX P w) P w K mg base ["rows_so", "more_so", "found", "row_so", "axis_so", "side_so", "by_so"] "_law_more" (defScope s__law_more) (He.ga K "_law_more") cdv A outer s H E).xe := passes_of rfl
  have hu : (cxOf (L2.CX P w) P w K mg base ["rows_so", "more_so", "found", "row_so", "axis_so", "side_so", "by_so"] "_law_more" (defScope s__law_more) (He.ga K "_law_more") cdv A outer s H E).A.units + 65 < cLine := hu_of hr
  have SC := sc__law_more
  exact jss_cons (js_setLcL rfl SC.nd (i := 2) rfl rfl (ji_seq rfl (je_nm 0)) (own := [("row_so", 3)]) (blkOk_by (by kernel_rfl)) (fun s H C cl fp => jg_name SC.nd (i := 3) rfl (by first | exact Or.inl rfl | exact Or.inr rfl)) (fun s H C cl fp => jts_nil) (fun s H C cl fp => je_typ call_list_of (s_list rfl) (S.free 54) boot_list (ja_cons (je_nm 3) (ja_nil)))) (jss_cons (js_for po rfl (ji_seq rfl (je_nm 1)) (jg_tup rfl rfl (jgs_cons (jg_name SC.nd (i := 4) rfl (by first | exact Or.inl rfl | exact Or.inr rfl)) (jgs_cons (jg_name SC.nd (i := 5) rfl (by first | exact Or.inl rfl | exact Or.inr rfl)) (jgs_cons (jg_name SC.nd (i := 6) rfl (by first | exact Or.inl rfl | exact Or.inr rfl)) (jgs_nil))))) (jss_one (js_asg (je_bin op_addA (s_add rfl) (je_ixLL (x := 2) (ja_nm (i := 4)) (ja_nm (i := 5))) (je_nm 6)) (jg_LL (x := 2) (ja_nm (i := 4)) (ja_nm (i := 5))) ok_gLL))) (jss_one (js_ret (je_typ call_tuple_of (s_tuple rfl) (S.free 52) boot_tuple (ja_cons (je_lc rfl SC.nd (ji_seq rfl (je_nm 2)) (own := [("row_so", 3)]) (blkOk_by (by kernel_rfl)) (fun s H C cl fp => jg_name SC.nd (i := 3) rfl (by first | exact Or.inl rfl | exact Or.inr rfl)) (fun s H C cl fp => jts_nil) (fun s H C cl fp => je_typ call_tuple_of (s_tuple rfl) (S.free 52) boot_tuple (ja_cons (je_nm 3) (ja_nil)))) (ja_nil))))))
theorem sc__law_put : FnScope ["spot", "step", "order_so", "rows_so", "looks_so", "axis_so", "way_so", "i", "k", "more_so", "near", "far", "u", "v", "hand_so", "j"] ["spot", "step"] (defScope s__law_put) := ⟨rfl, rfl, rfl, by decide +kernel, rfl, by decide +kernel, by decide +kernel⟩
theorem bd__law_put {f : Addr} {fd : FuncData} (D : FnP K "_law_put" s__law_put f fd) : Binds K fd ["spot", "step"] [] := D.bindsN fun _ _ _ _ _ _ us hl => match us, hl with | [_, _], _ => rfl
theorem K__law_put {f : Addr} {fd : FuncData} (D : FnP K "_law_put" s__law_put f fd) (s : Shared) (us : List Value) (x : K.In s.heap) (hl : us.length = 2) : BindsTo s fd ⟨[], (["spot", "step"] : List Str).zip us⟩ ((["spot", "step"] : List Str).zip us) := FunD.bindsK (ps := ["spot", "step"]) D (fun _ _ _ _ _ _ us hl => match us, hl with | [_, _], _ => rfl) s us x hl
theorem ok__law_put (S : Says faL fnL K mg) (fd : FuncData) (D__law_put : FnP K "_law_put" s__law_put (He.ga K "_law_put") fd) : FnOk P w K mg base (L2.CX P w) 2 (He.ga K "_law_put") fd ["spot", "step"] (spF (Gof K w) 2 F__law_put) := by
  obtain ⟨fd__law_flip, D__law_flip⟩ := S.c.def_ 40 (d := d__law_flip) rfl
  obtain ⟨fd__law_more, D__law_more⟩ := S.c.def_ 43 (d := d__law_more) rfl
  obtain ⟨fd__law_traded, D__law_traded⟩ := S.c.def_ 42 (d := d__law_traded) rfl
  refine fn_ok D__law_put sc__law_put [true, true] rfl fun cdv A outer s H E hr => ?_
  have tk : Takes (cxOf (L2.CX P w) P w K mg base ["spot", "step", "order_so", "rows_so", "looks_so", "axis_so", "way_so", "i", "k", "more_so", "near", "far", "u", "v", "hand_so", "j"] "_law_put" (defScope s__law_put) (He.ga K "_law_put") cdv A outer s H E) (fun cls d _ H => E cls d H) := takes_of rfl rfl rfl rfl
  have po : PassesOwn (model P w) (cxOf (L2.CX P w) P w K mg base ["spot", "step", "order_so", "rows_so", "looks_so", "axis_so", "way_so", "i", "k", "more_so", "near", "far", "u", "v", "hand_so", "j"] "_law_put" (defScope s__law_put) (He.ga K "_law_put") cdv A outer s H E).A (cxOf (L2.CX P w) P w K mg base ["spot", "step", "order_so", "rows_so", "looks_so", "axis_so", "way_so", "i", "k", "more_so", "near", "far", "u", "v", "hand_so", "j"] "_law_put" (defScope s__law_put) (He.ga K "_law_put") cdv A outer s H E).env (cxOf (L2.CX P w) P w K mg base ["spot", "step", "order_so", "rows_so", "looks_so", "axis_so", "way_so", "i", "k", "more_so", "near", "far", "u", "v", "hand_so", "j"] "_law_put" (defScope s__law_put) (He.ga K "_law_put") cdv A outer s H E).xe := passes_of rfl
  have hu : (cxOf (L2.CX P w) P w K mg base ["spot", "step", "order_so", "rows_so", "looks_so", "axis_so", "way_so", "i", "k", "more_so", "near", "far", "u", "v", "hand_so", "j"] "_law_put" (defScope s__law_put) (He.ga K "_law_put") cdv A outer s H E).A.units + 65 < cLine := hu_of hr
  have SC := sc__law_put
  exact jss_cons (js_asg (je_nm 0) (jg_tup rfl rfl (jgs_cons (jg_name SC.nd (i := 2) rfl (by first | exact Or.inl rfl | exact Or.inr rfl)) (jgs_cons (jg_name SC.nd (i := 3) rfl (by first | exact Or.inl rfl | exact Or.inr rfl)) (jgs_cons (jg_name SC.nd (i := 4) rfl (by first | exact Or.inl rfl | exact Or.inr rfl)) (jgs_nil))))) (ok_gT (.cons ok_gN (.cons ok_gN (.cons ok_gN (.nil)))))) (jss_cons (js_if (jt_cmp (op_eqD (hu64 hu)) (s_eq rfl) (je_ix (ix_G (g := Gof K w) (hu9 hu) rfl rfl) (s_get rfl) (je_nm 1) (je_int)) (je_str) (nomark _)) (jss_cons (js_par rfl SC.nd (ja_cons (je_ix (ix_G (g := Gof K w) (hu9 hu) rfl rfl) (s_get rfl) (je_nm 1) (je_int)) (ja_cons (je_ix (ix_G (g := Gof K w) (hu9 hu) rfl rfl) (s_get rfl) (je_nm 1) (je_int)) (ja_nil))) (i := 5) (j := 6)) (jss_cons (js_par rfl SC.nd (ja_cons (je_ix (ix_G (g := Gof K w) (hu9 hu) rfl rfl) (s_get rfl) (je_nm 2) (je_nm 5)) (ja_cons (je_ix (ix_G (g := Gof K w) (hu9 hu) rfl rfl) (s_get rfl) (je_nm 2) (je_un un_neg s_neg (je_int))) (ja_nil))) (i := 7) (j := 8)) (jss_cons (js_set SC.nd (i := 9) rfl (by first | exact Or.inl rfl | exact Or.inr rfl) (je_lst (by decide) (ja_cons (je_tup (by decide) (ja_cons (je_nm 5) (ja_cons (je_nm 7) (ja_cons (je_nm 6) (ja_nil))))) (ja_cons (je_tup (by decide) (ja_cons (je_nm 5) (ja_cons (je_nm 8) (ja_cons (je_nm 6) (ja_nil))))) (ja_nil))))) (jss_one (js_ret (je_tup (by decide) (ja_cons (je_call (ok__law_traded S fd__law_traded D__law_traded) (hr.mono (by decide)) (S.glo 42) D__law_traded.kp (bd__law_traded D__law_traded) tk (ja_cons (je_nm 2) (ja_cons (je_nm 5) (ja_cons (je_bin op_sub s_sub (je_blt c_len (s_len rfl) (S.free 53) boot_len (ja_cons (je_nm 2) (ja_nil))) (je_int)) (ja_nil))))) (ja_cons (je_call (ok__law_more S fd__law_more D__law_more) (hr.mono (by decide)) (S.glo 43) D__law_more.kp (bd__law_more D__law_more) tk (ja_cons (je_nm 3) (ja_cons (je_nm 9) (ja_nil)))) (ja_cons (je_call (ok__law_flip S fd__law_flip D__law_flip) (hr.mono (by decide)) (S.glo 40) D__law_flip.kp (bd__law_flip D__law_flip) tk (ja_cons (je_nm 4) (ja_cons (je_if (jt_cmp (op_eqD (hu64 hu)) (s_eq rfl) (je_nm 6) (je_int) (nomark _)) (je_nm 7) (je_nm 8)) (ja_nil)))) (ja_nil)))))))))) (jss_nil)) (jss_cons (js_asg (je_sl sl_A (s_sl rfl) (je_nm 1) (jo_some (je_int)) (jo_none)) (jg_tup rfl rfl (jgs_cons (jg_name SC.nd (i := 10) rfl (by first | exact Or.inl rfl | exact Or.inr rfl)) (jgs_cons (jg_name SC.nd (i := 11) rfl (by first | exact Or.inl rfl | exact Or.inr rfl)) (jgs_cons (jg_name SC.nd (i := 12) rfl (by first | exact Or.inl rfl | exact Or.inr rfl)) (jgs_cons (jg_name SC.nd (i := 13) rfl (by first | exact Or.inl rfl | exact Or.inr rfl)) (jgs_cons (jg_name SC.nd (i := 14) rfl (by first | exact Or.inl rfl | exact Or.inr rfl)) (jgs_nil))))))) (ok_gT (.cons ok_gN (.cons ok_gN (.cons ok_gN (.cons ok_gN (.cons ok_gN (.nil)))))))) (jss_cons (js_par rfl SC.nd (ja_cons (je_ix (ix_G (g := Gof K w) (hu9 hu) rfl rfl) (s_get rfl) (je_nm 2) (je_nm 10)) (ja_cons (je_ix (ix_G (g := Gof K w) (hu9 hu) rfl rfl) (s_get rfl) (je_nm 2) (je_nm 11)) (ja_nil))) (i := 7) (j := 15)) (jss_cons (js_set SC.nd (i := 9) rfl (by first | exact Or.inl rfl | exact Or.inr rfl) (je_lst (by decide) (ja_cons (je_tup (by decide) (ja_cons (je_nm 10) (ja_cons (je_nm 7) (ja_cons (je_nm 12) (ja_nil))))) (ja_cons (je_tup (by decide) (ja_cons (je_nm 10) (ja_cons (je_nm 15) (ja_cons (je_bin op_mulA (s_mul rfl) (je_nm 14) (je_nm 13)) (ja_nil))))) (ja_cons (je_tup (by decide) (ja_cons (je_nm 11) (ja_cons (je_nm 7) (ja_cons (je_bin op_sub s_sub (je_int) (je_bin op_mulA (s_mul rfl) (je_nm 14) (je_nm 12))) (ja_nil))))) (ja_cons (je_tup (by decide) (ja_cons (je_nm 11) (ja_cons (je_nm 15) (ja_cons (je_nm 13) (ja_nil))))) (ja_nil))))))) (jss_one (js_ret (je_tup (by decide) (ja_cons (je_call (ok__law_traded S fd__law_traded D__law_traded) (hr.mono (by decide)) (S.glo 42) D__law_traded.kp (bd__law_traded D__law_traded) tk (ja_cons (je_nm 2) (ja_cons (je_nm 10) (ja_cons (je_nm 11) (ja_nil))))) (ja_cons (je_call (ok__law_more S fd__law_more D__law_more) (hr.mono (by decide)) (S.glo 43) D__law_more.kp (bd__law_more D__law_more) tk (ja_cons (je_nm 3) (ja_cons (je_nm 9) (ja_nil)))) (ja_cons (je_call (ok__law_flip S fd__law_flip D__law_flip) (hr.mono (by decide)) (S.glo 40) D__law_flip.kp (bd__law_flip D__law_flip) tk (ja_cons (je_nm 4) (ja_cons (je_if (jt_cmp (op_eqD (hu64 hu)) (s_eq rfl) (je_nm 14) (je_int) (nomark _)) (je_nm 15) (je_nm 7)) (ja_nil)))) (ja_nil)))))))))))
theorem sc__law_put_all : FnScope ["spot", "row_so", "step"] ["spot", "row_so"] (defScope s__law_put_all) := ⟨rfl, rfl, rfl, by decide +kernel, rfl, by decide +kernel, by decide +kernel⟩
theorem bd__law_put_all {f : Addr} {fd : FuncData} (D : FnP K "_law_put_all" s__law_put_all f fd) : Binds K fd ["spot", "row_so"] [] := D.bindsN fun _ _ _ _ _ _ us hl => match us, hl with | [_, _], _ => rfl
theorem K__law_put_all {f : Addr} {fd : FuncData} (D : FnP K "_law_put_all" s__law_put_all f fd) (s : Shared) (us : List Value) (x : K.In s.heap) (hl : us.length = 2) : BindsTo s fd ⟨[], (["spot", "row_so"] : List Str).zip us⟩ ((["spot", "row_so"] : List Str).zip us) := FunD.bindsK (ps := ["spot", "row_so"]) D (fun _ _ _ _ _ _ us hl => match us, hl with | [_, _], _ => rfl) s us x hl
theorem ok__law_put_all (S : Says faL fnL K mg) (fd : FuncData) (D__law_put_all : FnP K "_law_put_all" s__law_put_all (He.ga K "_law_put_all") fd) : FnOk P w K mg base (L2.CX P w) 3 (He.ga K "_law_put_all") fd ["spot", "row_so"] (spF (Gof K w) 2 F__law_put_all) := by
  obtain ⟨fd__law_put, D__law_put⟩ := S.c.def_ 44 (d := d__law_put) rfl
  refine fn_ok D__law_put_all sc__law_put_all [false, true] rfl fun cdv A outer s H E hr => ?_
  have tk : Takes (cxOf (L2.CX P w) P w K mg base ["spot", "row_so", "step"] "_law_put_all" (defScope s__law_put_all) (He.ga K "_law_put_all") cdv A outer s H E) (fun cls d _ H => E cls d H) := takes_of rfl rfl rfl rfl
  have po : PassesOwn (model P w) (cxOf (L2.CX P w) P w K mg base ["spot", "row_so", "step"] "_law_put_all" (defScope s__law_put_all) (He.ga K "_law_put_all") cdv A outer s H E).A (cxOf (L2.CX P w) P w K mg base ["spot", "row_so", "step"] "_law_put_all" (defScope s__law_put_all) (He.ga K "_law_put_all") cdv A outer s H E).env (cxOf (L2.CX P w) P w K mg base ["spot", "row_so", "step"] "_law_put_all" (defScope s__law_put_all) (He.ga K "_law_put_all") cdv A outer s H E).xe := passes_of rfl
  have hu : (cxOf (L2.CX P w) P w K mg base ["spot", "row_so", "step"] "_law_put_all" (defScope s__law_put_all) (He.ga K "_law_put_all") cdv A outer s H E).A.units + 65 < cLine := hu_of hr
  have SC := sc__law_put_all
  exact jss_cons (js_for po rfl (ji_seq rfl (je_nm 1)) (jg_name SC.nd (i := 2) rfl (by first | exact Or.inl rfl | exact Or.inr rfl)) (jss_one (js_set SC.nd (i := 0) rfl (by first | exact Or.inl rfl | exact Or.inr rfl) (je_call (ok__law_put S fd__law_put D__law_put) (hr.mono (by decide)) (S.glo 44) D__law_put.kp (bd__law_put D__law_put) tk (ja_cons (je_nm 0) (ja_cons (je_nm 2) (ja_nil))))))) (jss_one (js_ret (je_nm 0)))
theorem sc__law_all_orders : FnScope ["many", "found", "lap", "later", "own", "k"] ["many"] (defScope s__law_all_orders) := ⟨rfl, rfl, rfl, by decide +kernel, rfl, by decide +kernel, by decide +kernel⟩
theorem bd__law_all_orders {f : Addr} {fd : FuncData} (D : FnP K "_law_all_orders" s__law_all_orders f fd) : Binds K fd ["many"] [] := D.bindsN fun _ _ _ _ _ _ us hl => match us, hl with | [_], _ => rfl
theorem K__law_all_orders {f : Addr} {fd : FuncData} (D : FnP K "_law_all_orders" s__law_all_orders f fd) (s : Shared) (us : List Value) (x : K.In s.heap) (hl : us.length = 1) : BindsTo s fd ⟨[], (["many"] : List Str).zip us⟩ ((["many"] : List Str).zip us) := FunD.bindsK (ps := ["many"]) D (fun _ _ _ _ _ _ us hl => match us, hl with | [_], _ => rfl) s us x hl
theorem ok__law_all_orders (S : Says faL fnL K mg) (fd : FuncData) (D__law_all_orders : FnP K "_law_all_orders" s__law_all_orders (He.ga K "_law_all_orders") fd) : FnOk P w K mg base (L2.CX P w) 1 (He.ga K "_law_all_orders") fd ["many"] (spF (Gof K w) 1 F__law_all_orders) := by
  refine fn_ok D__law_all_orders sc__law_all_orders [true] rfl fun cdv A outer s H E hr => ?_
  have tk : Takes (cxOf (L2.CX P w) P w K mg base ["many", "found", "lap", "later", "own", "k"] "_law_all_orders" (defScope s__law_all_orders) (He.ga K "_law_all_orders") cdv A outer s H E) (fun cls d _ H => E cls d H) := takes_of rfl rfl rfl rfl
  have po : PassesOwn (model P w) (cxOf (L2.CX P w) P w K mg base ["many", "found", "lap", "later", "own", "k"] "_law_all_orders" (defScope s__law_all_orders) (He.ga K "_law_all_orders") cdv A outer s H E).A (cxOf (L2.CX P w) P w K mg base ["many", "found", "lap", "later", "own", "k"] "_law_all_orders" (defScope s__law_all_orders) (He.ga K "_law_all_orders") cdv A outer s H E).env (cxOf (L2.CX P w) P w K mg base ["many", "found", "lap", "later", "own", "k"] "_law_all_orders" (defScope s__law_all_orders) (He.ga K "_law_all_orders") cdv A outer s H E).xe := passes_of rfl
  have hu : (cxOf (L2.CX P w) P w K mg base ["many", "found", "lap", "later", "own", "k"] "_law_all_orders" (defScope s__law_all_orders) (He.ga K "_law_all_orders") cdv A outer s H E).A.units + 65 < cLine := hu_of hr
  have SC := sc__law_all_orders
  exact jss_cons (js_set SC.nd (i := 1) rfl (by first | exact Or.inl rfl | exact Or.inr rfl) (je_lst (by decide) (ja_cons (je_tup (by decide) (ja_nil)) (ja_nil)))) (jss_cons (js_for po rfl (ji_rng1 (hm := S.free 58) (ha := ja_cons (je_nm 0) (ja_nil))) (jg_name SC.nd (i := 2) rfl (by first | exact Or.inl rfl | exact Or.inr rfl)) (jss_cons (js_set SC.nd (i := 3) rfl (by first | exact Or.inl rfl | exact Or.inr rfl) (je_lst (by decide) (ja_nil))) (jss_cons (js_for po rfl (ji_seq rfl (je_nm 1)) (jg_name SC.nd (i := 4) rfl (by first | exact Or.inl rfl | exact Or.inr rfl)) (jss_one (js_set SC.nd (i := 3) rfl (by first | exact Or.inl rfl | exact Or.inr rfl) (je_bin op_addA (s_add rfl) (je_nm 3) (je_lc rfl SC.nd (ji_rng1 (hm := S.free 58) (ha := ja_cons (je_nm 0) (ja_nil))) (own := [("k", 5)]) (blkOk_by (by kernel_rfl)) (fun s H C cl fp => jg_name SC.nd (i := 5) rfl (by first | exact Or.inl rfl | exact Or.inr rfl)) (fun s H C cl fp => jts_one (jt_cmp (op_ninG (g := Gof K w) hu rfl rfl) (s_nin rfl) (je_nm 5) (je_nm 4) (by with_unfolding_all rfl))) (fun s H C cl fp => je_bin op_addA (s_add rfl) (je_nm 4) (je_tup (by decide) (ja_cons (je_nm 5) (ja_nil))))))))) (jss_one (js_set SC.nd (i := 1) rfl (by first | exact Or.inl rfl | exact Or.inr rfl) (je_nm 3)))))) (jss_one (js_ret (je_nm 1))))
theorem sc__law_count : FnScope ["order_so", "out_so", "k", "own", "left_so", "rounds_so", "at_so"] ["order_so"] (defScope s__law_count) := ⟨rfl, rfl, rfl, by decide +kernel, rfl, by decide +kernel, by decide +kernel⟩
theorem bd__law_count {f : Addr} {fd : FuncData} (D : FnP K "_law_count" s__law_count f fd) : Binds K fd ["order_so"] [] := D.bindsN fun _ _ _ _ _ _ us hl => match us, hl with | [_], _ => rfl
theorem K__law_count {f : Addr} {fd : FuncData} (D : FnP K "_law_count" s__law_count f fd) (s : Shared) (us : List Value) (x : K.In s.heap) (hl : us.length = 1) : BindsTo s fd ⟨[], (["order_so"] : List Str).zip us⟩ ((["order_so"] : List Str).zip us) := FunD.bindsK (ps := ["order_so"]) D (fun _ _ _ _ _ _ us hl => match us, hl with | [_], _ => rfl) s us x hl
theorem ok__law_count (S : Says faL fnL K mg) (fd : FuncData) (D__law_count : FnP K "_law_count" s__law_count (He.ga K "_law_count") fd) : FnOk P w K mg base (L2.CX P w) 1 (He.ga K "_law_count") fd ["order_so"] (spF (Gof K w) 1 F__law_count) := by
  refine fn_ok D__law_count sc__law_count [true] rfl fun cdv A outer s H E hr => ?_
  have tk : Takes (cxOf (L2.CX P w) P w K mg base ["order_so", "out_so", "k", "own", "left_so", "rounds_so", "at_so"] "_law_count" (defScope s__law_count) (He.ga K "_law_count") cdv A outer s H E) (fun cls d _ H => E cls d H) := takes_of rfl rfl rfl rfl
  have po : PassesOwn (model P w) (cxOf (L2.CX P w) P w K mg base ["order_so", "out_so", "k", "own", "left_so", "rounds_so", "at_so"] "_law_count" (defScope s__law_count) (He.ga K "_law_count") cdv A outer s H E).A (cxOf (L2.CX P w) P w K mg base ["order_so", "out_so", "k", "own", "left_so", "rounds_so", "at_so"] "_law_count" (defScope s__law_count) (He.ga K "_law_count") cdv A outer s H E).env (cxOf (L2.CX P w) P w K mg base ["order_so", "out_so", "k", "own", "left_so", "rounds_so", "at_so"] "_law_count" (defScope s__law_count) (He.ga K "_law_count") cdv A outer s H E).xe := passes_of rfl
  have hu : (cxOf (L2.CX P w) P w K mg base ["order_so", "out_so", "k", "own", "left_so", "rounds_so", "at_so"] "_law_count" (defScope s__law_count) (He.ga K "_law_count") cdv A outer s H E).A.units + 65 < cLine := hu_of hr
  have SC := sc__law_count
  exact jss_cons (js_setLc rfl SC.nd (i := 1) rfl rfl (ji_enum (S.free 66) (je_nm 0)) (own := [("k", 2), ("own", 3)]) (blkOk_by (by kernel_rfl)) (fun s H C cl fp => jg_tup rfl rfl (jgs_cons (jg_name SC.nd (i := 2) rfl (by first | exact Or.inl rfl | exact Or.inr rfl)) (jgs_cons (jg_name SC.nd (i := 3) rfl (by first | exact Or.inl rfl | exact Or.inr rfl)) (jgs_nil)))) (fun s H C cl fp => jts_one (jt_cmp (op_neD (hu64 hu)) (s_ne rfl) (je_nm 3) (je_nm 2) (nomark _))) (fun s H C cl fp => je_nm 2)) (jss_cons (js_par rfl SC.nd (ja_cons (je_typ call_list_of (s_list rfl) (S.free 54) boot_list (ja_cons (je_nm 1) (ja_nil))) (ja_cons (je_int) (ja_nil))) (i := 4) (j := 5)) (jss_cons (js_while 100000 po (jt_cmp (op_neD (hu64 hu)) (s_ne rfl) (je_nm 4) (je_lst (by decide) (ja_nil)) (nomark _)) (jss_cons (js_set SC.nd (i := 6) rfl (by first | exact Or.inl rfl | exact Or.inr rfl) (je_ix (ix_G (g := Gof K w) (hu9 hu) rfl rfl) (s_get rfl) (je_nm 4) (je_int))) (jss_cons (js_while 100000 po (jt_cmp (op_inG (g := Gof K w) hu rfl rfl) (s_in rfl) (je_nm 6) (je_nm 4) (by with_unfolding_all rfl)) (jss_cons (js_setLc rfl SC.nd (i := 4) rfl rfl (ji_seq rfl (je_nm 4)) (own := [("own", 3)]) (blkOk_by (by kernel_rfl)) (fun s H C cl fp => jg_name SC.nd (i := 3) rfl (by first | exact Or.inl rfl | exact Or.inr rfl)) (fun s H C cl fp => jts_one (jt_cmp (op_neD (hu64 hu)) (s_ne rfl) (je_nm 3) (je_nm 6) (nomark _))) (fun s H C cl fp => je_nm 3)) (jss_one (js_set SC.nd (i := 6) rfl (by first | exact Or.inl rfl | exact Or.inr rfl) (je_ix (ix_G (g := Gof K w) (hu9 hu) rfl rfl) (s_get rfl) (je_nm 0) (je_nm 6)))))) (jss_one (js_set SC.nd (i := 5) rfl (by first | exact Or.inl rfl | exact Or.inr rfl) (je_bin op_addA (s_add rfl) (je_nm 5) (je_int))))))) (jss_one (js_ret (je_bin op_sub s_sub (je_bin op_addA (s_add rfl) (je_blt c_len (s_len rfl) (S.free 53) boot_len (ja_cons (je_nm 1) (ja_nil))) (je_nm 5)) (je_if (jt_cmp (op_neD (hu64 hu)) (s_ne rfl) (je_ix (ix_G (g := Gof K w) (hu9 hu) rfl rfl) (s_get rfl) (je_nm 0) (je_un un_neg s_neg (je_int))) (je_bin op_sub s_sub (je_blt c_len (s_len rfl) (S.free 53) boot_len (ja_cons (je_nm 0) (ja_nil))) (je_int)) (nomark _)) (je_int) (je_int)))))))
theorem sc_law : FnScope ["script", "tin", "many", "home_so", "found", "rows_so", "far_so", "later", "own", "axis_so", "its", "row_so", "there_so", "got", "step"] ["script"] (defScope s_law) := ⟨rfl, rfl, rfl, by decide +kernel, rfl, by decide +kernel, by decide +kernel⟩
theorem bd_law {f : Addr} {fd : FuncData} (D : FnP K "law" s_law f fd) : Binds K fd ["script"] [] := D.bindsN fun _ _ _ _ _ _ us hl => match us, hl with | [_], _ => rfl
theorem K_law {f : Addr} {fd : FuncData} (D : FnP K "law" s_law f fd) (s : Shared) (us : List Value) (x : K.In s.heap) (hl : us.length = 1) : BindsTo s fd ⟨[], (["script"] : List Str).zip us⟩ ((["script"] : List Str).zip us) := FunD.bindsK (ps := ["script"]) D (fun _ _ _ _ _ _ us hl => match us, hl with | [_], _ => rfl) s us x hl
theorem ok_law (S : Says faL fnL K mg) (fd : FuncData) (D_law : FnP K "law" s_law (He.ga K "law") fd) : FnOk P w K mg base (L2.CX P w) 16 (He.ga K "law") fd ["script"] (spF (Gof K w) 1 F_law) := by
  obtain ⟨fd__law_all_orders, D__law_all_orders⟩ := S.c.def_ 46 (d := d__law_all_orders) rfl
  obtain ⟨fd__law_box, D__law_box⟩ := S.c.def_ 35 (d := d__law_box) rfl
  obtain ⟨fd__law_cells, D__law_cells⟩ := S.c.def_ 37 (d := d__law_cells) rfl
  obtain ⟨fd__law_count, D__law_count⟩ := S.c.def_ 47 (d := d__law_count) rfl
  obtain ⟨fd__law_first, D__law_first⟩ := S.c.def_ 41 (d := d__law_first) rfl
  obtain ⟨fd__law_pick, D__law_pick⟩ := S.c.def_ 38 (d := d__law_pick) rfl
  obtain ⟨fd__law_put_all, D__law_put_all⟩ := S.c.def_ 45 (d := d__law_put_all) rfl
  obtain ⟨fd__law_same, D__law_same⟩ := S.c.def_ 39 (d := d__law_same) rfl
  obtain ⟨fd__law_take, D__law_take⟩ := S.c.def_ 36 (d := d__law_take) rfl
  obtain ⟨fd__law_traded, D__law_traded⟩ := S.c.def_ 42 (d := d__law_traded) rfl
  obtain ⟨fd_box_behind, D_box_behind⟩ := S.c.def_ 26 (d := d_box_behind) rfl
  obtain ⟨fd_is_order, D_is_order⟩ := S.c.def_ 20 (d := d_is_order) rfl
  obtain ⟨fd_order_sign, D_order_sign⟩ := S.c.def_ 22 (d := d_order_sign) rfl
  obtain ⟨fd_order_steps, D_order_steps⟩ := S.c.def_ 34 (d := d_order_steps) rfl
  obtain ⟨fd_order_tips, D_order_tips⟩ := S.c.def_ 32 (d := d_order_tips) rfl
  obtain ⟨fd_stepped, D_stepped⟩ := S.c.def_ 21 (d := d_stepped) rfl
  refine fn_ok D_law sc_law [true] rfl fun cdv A outer s H E hr => ?_
  have tk : Takes (cxOf (L2.CX P w) P w K mg base ["script", "tin", "many", "home_so", "found", "rows_so", "far_so", "later", "own", "axis_so", "its", "row_so", "there_so", "got", "step"] "law" (defScope s_law) (He.ga K "law") cdv A outer s H E) (fun cls d _ H => E cls d H) := takes_of rfl rfl rfl rfl
  have po : PassesOwn (model P w) (cxOf (L2.CX P w) P w K mg base ["script", "tin", "many", "home_so", "found", "rows_so", "far_so", "later", "own", "axis_so", "its", "row_so", "there_so", "got", "step"] "law" (defScope s_law) (He.ga K "law") cdv A outer s H E).A (cxOf (L2.CX P w) P w K mg base ["script", "tin", "many", "home_so", "found", "rows_so", "far_so", "later", "own", "axis_so", "its", "row_so", "there_so", "got", "step"] "law" (defScope s_law) (He.ga K "law") cdv A outer s H E).env (cxOf (L2.CX P w) P w K mg base ["script", "tin", "many", "home_so", "found", "rows_so", "far_so", "later", "own", "axis_so", "its", "row_so", "there_so", "got", "step"] "law" (defScope s_law) (He.ga K "law") cdv A outer s H E).xe := passes_of rfl
  have hu : (cxOf (L2.CX P w) P w K mg base ["script", "tin", "many", "home_so", "found", "rows_so", "far_so", "later", "own", "axis_so", "its", "row_so", "there_so", "got", "step"] "law" (defScope s_law) (He.ga K "law") cdv A outer s H E).A.units + 65 < cLine := hu_of hr
  have SC := sc_law
  exact jss_cons (js_set SC.nd (i := 1) rfl (by first | exact Or.inl rfl | exact Or.inr rfl) (je_call (ok__law_box S fd__law_box D__law_box) (hr.mono (by decide)) (S.glo 35) D__law_box.kp (bd__law_box D__law_box) tk (ja_cons (je_call (ok__law_cells S fd__law_cells D__law_cells) (hr.mono (by decide)) (S.glo 37) D__law_cells.kp (bd__law_cells D__law_cells) tk (ja_cons (je_nm 0) (ja_cons (je_int) (ja_nil)))) (ja_cons (je_int) (ja_nil))))) (jss_cons (js_set SC.nd (i := 2) rfl (by first | exact Or.inl rfl | exact Or.inr rfl) (je_bin op_addA (s_add rfl) (je_int) (je_call (ok__law_take S fd__law_take D__law_take) (hr.mono (by decide)) (S.glo 36) D__law_take.kp (bd__law_take D__law_take) tk (ja_cons (je_nm 1) (ja_cons (je_int) (ja_nil)))))) (jss_cons (js_set SC.nd (i := 3) rfl (by first | exact Or.inl rfl | exact Or.inr rfl) (je_tupR1 rfl (S.free 52) (S.free 58) (je_nm 2))) (jss_cons (js_par3 rfl SC.nd (ja_cons (je_dict0) (ja_cons (je_lst (by decide) (ja_cons (je_nm 3) (ja_nil))) (ja_cons (je_int) (ja_nil)))) (i := 4) (j := 5) (l := 6)) (jss_cons (js_asg (je_int) (jg_ls (W := W0) (x := 4) (hu9 hu) rfl rfl (je_nm 3)) ok_gL) (jss_cons (js_while 100000 po (jt_cmp (op_neD (hu64 hu)) (s_ne rfl) (je_nm 5) (je_lst (by decide) (ja_nil)) (nomark _)) (jss_cons (js_set SC.nd (i := 7) rfl (by first | exact Or.inl rfl | exact Or.inr rfl) (je_lst (by decide) (ja_nil))) (jss_cons (js_for po rfl (ji_seq rfl (je_nm 5)) (jg_name SC.nd (i := 8) rfl (by first | exact Or.inl rfl | exact Or.inr rfl)) (jss_one (js_for po rfl (ji_rng1 (hm := S.free 58) (ha := ja_cons (je_bin op_sub s_sub (je_nm 2) (je_int)) (ja_nil))) (jg_name SC.nd (i := 9) rfl (by first | exact Or.inl rfl | exact Or.inr rfl)) (jss_cons (js_set SC.nd (i := 10) rfl (by first | exact Or.inl rfl | exact Or.inr rfl) (je_call (ok__law_traded S fd__law_traded D__law_traded) (hr.mono (by decide)) (S.glo 42) D__law_traded.kp (bd__law_traded D__law_traded) tk (ja_cons (je_nm 8) (ja_cons (je_nm 9) (ja_cons (je_bin op_sub s_sub (je_nm 2) (je_int)) (ja_nil)))))) (jss_one (js_if (jt_cmp (op_ninG (g := Gof K w) hu rfl rfl) (s_nin rfl) (je_nm 10) (je_nm 4) (by with_unfolding_all rfl)) (jss_cons (js_asg (je_bin op_addA (s_add rfl) (je_ix (ix_G (g := Gof K w) (hu9 hu) rfl rfl) (s_get rfl) (je_nm 4) (je_nm 8)) (je_int)) (jg_ls (W := W0) (x := 4) (hu9 hu) rfl rfl (je_nm 10)) ok_gL) (jss_one (js_expr (je_bm PySem.F.plainAttrs_list PySem.F.slot_list_append PySem.F.type_list_append mt_append sm_app (ja_cons (je_nm 10) (ja_nil)))))) (jss_nil))))))) (jss_one (js_set SC.nd (i := 5) rfl (by first | exact Or.inl rfl | exact Or.inr rfl) (je_nm 7)))))) (jss_cons (js_if (jt_cmp (op_neD (hu64 hu)) (s_ne rfl) (je_blt (cr_srt rfl hu rfl) s_sorted (S.free 57) boot_sorted (ja_cons (je_nm 4) (ja_nil))) (je_call (ok__law_all_orders S fd__law_all_orders D__law_all_orders) (hr.mono (by decide)) (S.glo 46) D__law_all_orders.kp (bd__law_all_orders D__law_all_orders) tk (ja_cons (je_nm 2) (ja_nil))) (nomark _)) (jss_one (js_ret (je_bl))) (jss_nil)) (jss_cons (js_for po rfl (ji_seq rfl (je_blt (cr_srt rfl hu rfl) s_sorted (S.free 57) boot_sorted (ja_cons (je_nm 4) (ja_nil)))) (jg_name SC.nd (i := 8) rfl (by first | exact Or.inl rfl | exact Or.inr rfl)) (jss_one (js_if (jt_cmp (op_neD (hu64 hu)) (s_ne rfl) (je_call (ok__law_count S fd__law_count D__law_count) (hr.mono (by decide)) (S.glo 47) D__law_count.kp (bd__law_count D__law_count) tk (ja_cons (je_nm 8) (ja_nil))) (je_ix (ix_G (g := Gof K w) (hu9 hu) rfl rfl) (s_get rfl) (je_nm 4) (je_nm 8)) (nomark _)) (jss_one (js_ret (je_bl))) (jss_nil)))) (jss_cons (js_for po rfl (ji_seq rfl (je_call (ok__law_pick S fd__law_pick D__law_pick) (hr.mono (by decide)) (S.glo 38) D__law_pick.kp (bd__law_pick D__law_pick) tk (ja_cons (je_nm 1) (ja_cons (je_blt (cr_srt rfl hu rfl) s_sorted (S.free 57) boot_sorted (ja_cons (je_nm 4) (ja_nil))) (ja_cons (je_int) (ja_nil)))))) (jg_name SC.nd (i := 8) rfl (by first | exact Or.inl rfl | exact Or.inr rfl)) (jss_cons (js_set SC.nd (i := 11) rfl (by first | exact Or.inl rfl | exact Or.inr rfl) (je_callK (ok_order_tips S fd_order_tips D_order_tips) (hr.mono (by decide)) (S.glo 32) D_order_tips.kp (K_order_tips D_order_tips) tk (jk_cons (je_typ call_list_of (s_list rfl) (S.free 54) boot_list (ja_cons (je_nm 8) (ja_nil))) (jk_nil)))) (jss_cons (js_set SC.nd (i := 12) rfl (by first | exact Or.inl rfl | exact Or.inr rfl) (je_call (ok_box_behind S fd_box_behind D_box_behind) (hr.mono (by decide)) (S.glo 26) D_box_behind.kp (bd_box_behind D_box_behind) tk (ja_cons (je_call (ok__law_first S fd__law_first D__law_first) (hr.mono (by decide)) (S.glo 41) D__law_first.kp (bd__law_first D__law_first) tk (ja_cons (je_nm 2) (ja_nil))) (ja_cons (je_nm 11) (ja_nil))))) (jss_cons (js_set SC.nd (i := 13) rfl (by first | exact Or.inl rfl | exact Or.inr rfl) (je_lst (by decide) (ja_cons (je_callK (ok_order_steps S fd_order_steps D_order_steps) (hr.mono (by decide)) (S.glo 34) D_order_steps.kp (K_order_steps D_order_steps) tk (jk_cons (je_nm 8) (jk_nil))) (ja_cons (je_blt c_len (s_len rfl) (S.free 53) boot_len (ja_cons (je_nm 11) (ja_nil))) (ja_cons (je_ix (ix_G (g := Gof K w) (hu9 hu) rfl rfl) (s_get rfl) (je_nm 12) (je_int)) (ja_cons (je_callK (ok_order_sign S fd_order_sign D_order_sign) (hr.mono (by decide)) (S.glo 22) D_order_sign.kp (K_order_sign D_order_sign) tk (jk_cons (je_nm 8) (jk_nil))) (ja_cons (je_call (ok_is_order S fd_is_order D_is_order) (hr.mono (by decide)) (S.glo 20) D_is_order.kp (bd_is_order D_is_order) tk (ja_cons (je_nm 8) (ja_nil))) (ja_nil)))))))) (jss_cons (js_if (jt_w (jw_or (jt_not (jt_tst rfl (je_call (ok__law_same S fd__law_same D__law_same) (hr.mono (by decide)) (S.glo 39) D__law_same.kp (bd__law_same D__law_same) tk (ja_cons (je_nm 13) (ja_cons (je_lst (by decide) (ja_cons (je_ix (ix_G (g := Gof K w) (hu9 hu) rfl rfl) (s_get rfl) (je_nm 4) (je_nm 8)) (ja_cons (je_ix (ix_G (g := Gof K w) (hu9 hu) rfl rfl) (s_get rfl) (je_nm 4) (je_nm 8)) (ja_cons (je_nm 8) (ja_cons (je_bin op_sub s_sub (je_int) (je_bin op_mulA (s_mul rfl) (je_int) (je_bin op_mod s_mod (je_ix (ix_G (g := Gof K w) (hu9 hu) rfl rfl) (s_get rfl) (je_nm 4) (je_nm 8)) (je_int)))) (ja_cons (je_bl) (ja_nil))))))) (ja_nil)))))) (jw_or1 (jt_cmp (op_neD (hu64 hu)) (s_ne rfl) (je_lc rfl SC.nd (ji_seq rfl (je_nm 11)) (own := [("step", 14)]) (blkOk_by (by kernel_rfl)) (fun s H C cl fp => jg_name SC.nd (i := 14) rfl (by first | exact Or.inl rfl | exact Or.inr rfl)) (fun s H C cl fp => jts_one (jt_w (jw_or (jt_cmp (op_neD (hu64 hu)) (s_ne rfl) (je_ix (ix_G (g := Gof K w) (hu9 hu) rfl rfl) (s_get rfl) (je_nm 14) (je_int)) (je_str) (nomark _)) (jw_or1 (jt_cmp (op_neD (hu64 hu)) (s_ne rfl) (je_ix (ix_G (g := Gof K w) (hu9 hu) rfl rfl) (s_get rfl) (je_nm 14) (je_int)) (je_int) (nomark _)))))) (fun s H C cl fp => je_int)) (je_lst (by decide) (ja_nil)) (nomark _))))) (jss_one (js_ret (je_bl))) (jss_nil)) (jss_cons (js_set SC.nd (i := 9) rfl (by first | exact Or.inl rfl | exact Or.inr rfl) (je_call (ok__law_take S fd__law_take D__law_take) (hr.mono (by decide)) (S.glo 36) D__law_take.kp (bd__law_take D__law_take) tk (ja_cons (je_nm 1) (ja_cons (je_bin op_sub s_sub (je_nm 2) (je_int)) (ja_nil))))) (jss_cons (js_set SC.nd (i := 10) rfl (by first | exact Or.inl rfl | exact Or.inr rfl) (je_ix (ix_G (g := Gof K w) (hu9 hu) rfl rfl) (s_get rfl) (je_call (ok_stepped S fd_stepped D_stepped) (hr.mono (by decide)) (S.glo 21) D_stepped.kp (bd_stepped D_stepped) tk (ja_cons (je_nm 12) (ja_cons (je_tup (by decide) (ja_cons (je_str) (ja_cons (je_nm 9) (ja_cons (je_int) (ja_nil))))) (ja_nil)))) (je_int))) (jss_one (js_if (jt_w (jw_or (jt_cmp (op_neD (hu64 hu)) (s_ne rfl) (je_blt call_abs s_abs (S.free 67) boot_abs (ja_cons (je_bin op_sub s_sub (je_call (ok_order_steps S fd_order_steps D_order_steps) (hr.mono (by decide)) (S.glo 34) D_order_steps.kp (bd_order_steps D_order_steps) tk (ja_cons (je_nm 10) (ja_nil))) (je_ix (ix_G (g := Gof K w) (hu9 hu) rfl rfl) (s_get rfl) (je_nm 4) (je_nm 8))) (ja_nil))) (je_int) (nomark _)) (jw_or1 (jt_cmp (op_neD (hu64 hu)) (s_ne rfl) (je_call (ok_order_sign S fd_order_sign D_order_sign) (hr.mono (by decide)) (S.glo 22) D_order_sign.kp (bd_order_sign D_order_sign) tk (ja_cons (je_nm 10) (ja_nil))) (je_bin op_sub s_sub (je_int) (je_call (ok_order_sign S fd_order_sign D_order_sign) (hr.mono (by decide)) (S.glo 22) D_order_sign.kp (bd_order_sign D_order_sign) tk (ja_cons (je_nm 8) (ja_nil)))) (nomark _))))) (jss_one (js_ret (je_bl))) (jss_nil)))))))))) (jss_cons (js_set SC.nd (i := 8) rfl (by first | exact Or.inl rfl | exact Or.inr rfl) (je_typ call_tuple_of (s_tuple rfl) (S.free 52) boot_tuple (ja_cons (je_call (ok__law_pick S fd__law_pick D__law_pick) (hr.mono (by decide)) (S.glo 38) D__law_pick.kp (bd__law_pick D__law_pick) tk (ja_cons (je_nm 1) (ja_cons (je_lstR1 rfl (S.free 54) (S.free 58) (je_int)) (ja_cons (je_int) (ja_nil))))) (ja_nil)))) (jss_cons (js_set SC.nd (i := 11) rfl (by first | exact Or.inl rfl | exact Or.inr rfl) (je_call (ok_order_tips S fd_order_tips D_order_tips) (hr.mono (by decide)) (S.glo 32) D_order_tips.kp (bd_order_tips D_order_tips) tk (ja_cons (je_nm 8) (ja_nil)))) (jss_one (js_ret (je_call (ok__law_same S fd__law_same D__law_same) (hr.mono (by decide)) (S.glo 39) D__law_same.kp (bd__law_same D__law_same) tk (ja_cons (je_lst (by decide) (ja_cons (je_call (ok_order_steps S fd_order_steps D_order_steps) (hr.mono (by decide)) (S.glo 34) D_order_steps.kp (bd_order_steps D_order_steps) tk (ja_cons (je_nm 8) (ja_nil))) (ja_cons (je_blt c_len (s_len rfl) (S.free 53) boot_len (ja_cons (je_nm 11) (ja_nil))) (ja_cons (je_ix (ix_G (g := Gof K w) (hu9 hu) rfl rfl) (s_get rfl) (je_call (ok__law_put_all S fd__law_put_all D__law_put_all) (hr.mono (by decide)) (S.glo 45) D__law_put_all.kp (bd__law_put_all D__law_put_all) tk (ja_cons (je_call (ok__law_first S fd__law_first D__law_first) (hr.mono (by decide)) (S.glo 41) D__law_first.kp (bd__law_first D__law_first) tk (ja_cons (je_int) (ja_nil))) (ja_cons (je_nm 11) (ja_nil)))) (je_int)) (ja_nil))))) (ja_cons (je_lst (by decide) (ja_cons (je_call (ok__law_count S fd__law_count D__law_count) (hr.mono (by decide)) (S.glo 47) D__law_count.kp (bd__law_count D__law_count) tk (ja_cons (je_nm 8) (ja_nil))) (ja_cons (je_call (ok__law_count S fd__law_count D__law_count) (hr.mono (by decide)) (S.glo 47) D__law_count.kp (bd__law_count D__law_count) tk (ja_cons (je_nm 8) (ja_nil))) (ja_cons (je_nm 8) (ja_nil))))) (ja_nil))))))))))))))))
end
end Lk80
end
/-! file Hd_k80 -/
section
set_option linter.all false
set_option autoImplicit false
set_option maxRecDepth 100000
set_option maxHeartbeats 0
set_option Elab.async false
namespace Lk80
open PySem PySem.Spec PyProof.Rows L2 Mv
abbrev R : PySem.W.OpenRow := PySem.W.OpenLaw.row PySem.Challenge.rw_movedchest_k80_main_law_orders_by_fewest
abbrev hk : PySem.W.Hook := He.hookD 4 faL fnL
def ob (s : PySem.W.SharedT) : He.AlD := He.obsDG 4 faL fnL (HandSHeadRun.getT s)
theorem ob_eq (s : PySem.W.SharedT) : ob s = hk.obs s.abs := He.obsDG_eq (HandSHeadRun.getT_eq s)
def loose : List Str := (["Unfit", "is_number", "is_long", "tupled", "are_numbers", "FEWEST_SIDES", "TIP", "TURN", "TIP_PARTS", "TURN_PARTS", "is_sign", "are_signs", "is_order_in", "is_place_in", "is_step_in", "sure_place", "sure_order", "sure_step", "added", "exchanged_at", "turned_sign", "with_row", "tipped_in", "turned_in", "stepped_in", "sign_of", "is_order", "stepped", "order_sign", "are_steps_in"] : List Str) ++ (["sure_steps", "behind_in", "box_behind", "order_tree", "ways_back", "tips_of", "tip_tree", "to_order", "order_tips", "order_steps", "rounds_of", "_law_box", "_law_take", "_law_cells", "_law_pick", "_law_same", "_law_flip", "_law_first", "_law_traded", "_law_more", "_law_put", "_law_put_all", "_law_all_orders", "_law_count"] : List Str)
theorem run (w : World) : HandSHeadRun.RunEq R (PySem.W.view R.prog [60]) hk ob 4000 loose w := by
  intro os
  kernel_rfl
theorem law_defs {P : Program} {w : World} {K : PySem.W.Frag} {h : Heap} {mg : Str → Option Value} {f : Addr} (X : K.In h) (G : h.Ns mainGlobals mg) (hfa : mg ("law" : Str) = some (.ref f)) (c : He.SaysD faL fnL K) :
    ∃ fd : FuncData, (∀ (s : Shared) (v : Value), BindsTo s fd ⟨[v], []⟩ [("script", v)]) ∧ ∀ base : Heap, K.In base → base.Ns mainGlobals mg → FnOk P w K mg base (L2.CX P w) 16 f fd ["script"] (spF (Gof K w) 1 F_law) := by
  obtain ⟨fd, D⟩ := c.def_ 48 (d := d_law) rfl
  have S : Says faL fnL K mg := ⟨⟨h, X, G⟩, c⟩
  have e := hfa.symm.trans (S.glo 48)
  cases e
  have b := FunD.bindsA (ps := ["script"]) D fun _ _ _ _ _ _ us hl => match us, hl with | [_], _ => rfl
  exact ⟨fd, fun s v => b s [v] rfl, fun base _ _ => ok_law S fd D⟩
end Lk80
open PySem PySem.W PySem.Calls PyProof.Rows
theorem Lk80.holds (HL : ∀ ns : List Int, ns.length ≤ 63 → ∃ e, Lk80.F_law [.val (.scr ns)] = .ret (.val (.bl true)) e) : PySem.Challenge.rw_movedchest_k80_main_law_orders_by_fewest.Holds := by
  w_on; o_law
  refine HandSHeadRun.head_any (r := OpenLaw.row PySem.Challenge.rw_movedchest_k80_main_law_orders_by_fewest) (q := view (OpenLaw.row PySem.Challenge.rw_movedchest_k80_main_law_orders_by_fewest).prog [60]) (H := Lk80.hk) (ob := Lk80.ob) (M := 4000) (loose := Lk80.loose) (d := HandSHeadRun.topDef (OpenLaw.row PySem.Challenge.rw_movedchest_k80_main_law_orders_by_fewest).prog 60) (kwd := []) Lk80.ob_eq
    (by kernel_rfl) (fun s => by kernel_rfl) Lk80.run (by kernel_rfl) (by kernel_rfl) (by kernel_rfl) (by rfl) (by first | assumption | decide +kernel) (by decide +kernel) ⟨rfl, rfl, rfl, rfl, rfl, by decide +kernel⟩ ?hw ?hc
  case hw => w_witness2
  case hc =>
    refine Mv.walk_ofM (l := PySem.Challenge.rw_movedchest_k80_main_law_orders_by_fewest) (n := 63) (k := 16) (x := "script") rfl (by decide) (by kernel_rfl) ⟨rfl, by decide, by decide⟩ ?F
    intro w mg fa h Y G hmg0
    obtain ⟨K, KX, c⟩ := Y
    have hmg : mg ("law" : PySem.Str) = some (.ref fa) := by
      have e : (HandSHeadRun.topDef (OpenLaw.row PySem.Challenge.rw_movedchest_k80_main_law_orders_by_fewest).prog 60).name = ("law" : PySem.Str) := by kernel_rfl
      rw [← e]
      exact hmg0
    obtain ⟨fd, hb, hF⟩ := Lk80.law_defs (P := (PySem.Challenge.rw_movedchest_k80_main_law_orders_by_fewest).prog) (w := w) KX G hmg c
    exact ⟨K, fd, _, KX, hb, fun H a ns hl hO hS => Mv.sp_law hO hS (HL ns hl), hF⟩
end
/-! file Cm1 -/
section
set_option linter.all false
set_option autoImplicit false
set_option maxRecDepth 100000
/-! Cm1: draws. -/
namespace Cm
open PySem hiding Env ret
open Mv

def B_take : SS := seqS (ifS (tstB (op2 (bop gtB) (op2 getP (nm 0) (cst (.int 0))) (cst (.int 0)))) (seqS (asgS 2 (op2 modP (opN intP [op2 getP (nm 0) (cst (.int 0))]) (nm 1))) (seqS (asgG (gL putO 0 (cst (.int 0))) (op2 fdivP (op2 getP (nm 0) (cst (.int 0))) (nm 1))) (retS (nm 2)))) (skipS)) (seqS (asgG (gL putO 0 (cst (.int 2))) (op2 addP (op2 getP (nm 0) (cst (.int 2))) (cst (.int 1)))) (seqS (asgS 3 (op2 modP (opN intP [op2 mulP (op2 addP (op2 getP (nm 0) (cst (.int 1))) (op2 mulP (cst (.int 48271)) (op2 getP (nm 0) (cst (.int 2))))) (op2 addP (cst (.int 39373)) (op2 getP (nm 0) (cst (.int 2))))]) (cst (.int 2147483647)))) (seqS (asgS 4 (op2 addP (op2 modP (opN intP [nm 3]) (cst (.int 40009))) (cst (.int 7)))) (seqS (asgS 5 (op2 modP (opN intP [op2 mulP (op2 addP (op2 addP (nm 3) (op2 getP (nm 0) (cst (.int 2)))) (op2 fdivP (op2 getP (nm 0) (cst (.int 1))) (cst (.int 1000003)))) (nm 4)]) (cst (.int 2147483629)))) (retS (op2 modP (opN intP [op2 fdivP (op2 modP (opN intP [op2 addP (op2 mulP (nm 5) (cst (.int 48271))) (nm 3)]) (cst (.int 2147483587))) (cst (.int 64))]) (nm 1)))))))
def F_take : FN := mkF 6 [true, true] B_take

/-- what the drawing list may look like: K draws more at most are behind it -/
def Tin (K : Nat) (o : OV) : Prop := ∃ A B C : Int, o = .ls [.int A, .int B, .int C] ∧ 0 ≤ C ∧ C ≤ K

theorem take_ok {K : Nat} {o : OV} (hT : Tin K o) (hK : K < 2 ^ 60) {n : Int} (h0 : 0 < n) (h1 : n < 1073741824) :
    ∃ (d : Int) (o' : OV), F_take [o, .val (.int n)] = .ret (.val (.int d)) [o', .val (.int n)] ∧ 0 ≤ d ∧ d < n ∧ Tin (K + 1) o' := by
  obtain ⟨A, B, C, rfl, hC0, hC1⟩ := hT
  by_cases hA : 0 < A
  · refine ⟨A % n, .ls [.int (A / n), .int B, .int C], ?_, Int.emod_nonneg _ (by omega), Int.emod_lt_of_pos _ h0, ⟨_, _, _, rfl, hC0, by omega⟩⟩
    simp [hA, F_take, mkF, B_take, seqS, skipS, ifS, ofX, tstB, op1, op2, bnd, nm, cst, Mv.ret, vw, view, ofO, getP, ixP, bop, gtB, asgS, opN, args, vws, intP, modP, hold, setV, frzUn, asgG, esc, gL, ownB, putL, fdivP, retS, endF, outsOf, addP, mulP, Option.bind, ovI, h0, h1]
  · have hs : smI (39373 + (C + 1)) = true := by simp [smI]; omega
    have hs2 : ∀ x : Int, smI (x % 40009 + 7) = true := by intro x; simp [smI]; omega
    refine ⟨((((B + 48271 * (C + 1)) * (39373 + (C + 1)) % 2147483647 + (C + 1) + B / 1000003) * ((B + 48271 * (C + 1)) * (39373 + (C + 1)) % 2147483647 % 40009 + 7) % 2147483629 * 48271 + (B + 48271 * (C + 1)) * (39373 + (C + 1)) % 2147483647) % 2147483587 / 64) % n, .ls [.int A, .int B, .int (C + 1)], ?_, Int.emod_nonneg _ (by omega), Int.emod_lt_of_pos _ h0, ⟨_, _, _, rfl, by omega, by omega⟩⟩
    have hs3 : smI 48271 = true := by decide
    simp [hA, hs, hs2, hs3, F_take, mkF, B_take, seqS, skipS, ifS, ofX, tstB, op1, op2, bnd, nm, cst, Mv.ret, vw, view, ofO, getP, ixP, bop, gtB, asgS, opN, args, vws, intP, modP, hold, setV, frzUn, asgG, esc, gL, ownB, putL, fdivP, retS, endF, outsOf, addP, mulP, Option.bind, ovI, h0, h1]
/-- a loop that goes through -/
theorem forL_inv {g : TGt} {body : SS} (I : List PV → Env → Prop)
    (hS : ∀ p ps e, I (p :: ps) e → ∃ e1 e2, g p e = .nx e1 ∧ (body e1 = .nx e2 ∨ body e1 = .ct e2) ∧ I ps e2) :
    ∀ (xs : List PV) (e : Env), I xs e → ∃ e', forL g body xs e = .nx e' ∧ I [] e'
  | [], e, h => ⟨e, rfl, h⟩
  | p :: ps, e, h => by
    obtain ⟨e1, e2, h1, h2, h3⟩ := hS p ps e h
    obtain ⟨e', h4, h5⟩ := forL_inv I hS ps e2 h3
    refine ⟨e', ?_, h5⟩
    rcases h2 with h2 | h2 <;> simp only [forL, h1, h2, h4]
/-- a loop that may end early by an answer -/
theorem forL_ret {g : TGt} {body : SS} (I : List PV → Env → Prop) (R : SR → Prop)
    (hS : ∀ p ps e, I (p :: ps) e → ∃ e1, g p e = .nx e1 ∧ ((∃ e2, (body e1 = .nx e2 ∨ body e1 = .ct e2) ∧ I ps e2) ∨ (∃ r e2, body e1 = .rt r e2 ∧ R (.rt r e2)))) :
    ∀ (xs : List PV) (e : Env), I xs e → (∃ e', forL g body xs e = .nx e' ∧ I [] e') ∨ R (forL g body xs e)
  | [], e, h => .inl ⟨e, rfl, h⟩
  | p :: ps, e, h => by
    obtain ⟨e1, h1, h2⟩ := hS p ps e h
    rcases h2 with ⟨e2, h2, h3⟩ | ⟨r, e2, h2, h3⟩
    · rcases forL_ret I R hS ps e2 h3 with ⟨e', h4, h5⟩ | h4
      · exact .inl ⟨e', by rcases h2 with h2 | h2 <;> simp only [forL, h1, h2, h4], h5⟩
      · refine .inr ?_
        rcases h2 with h2 | h2 <;> simpa only [forL, h1, h2] using h4
    · exact .inr (by simpa only [forL, h1, h2] using h3)

def B_box (c : Int) : SS := seqS (asgS 2 (ifE (tstB (op2 (bop ltB) (nm 1) (opN lenP [nm 0]))) (op2 getP (nm 0) (nm 1)) (cst (.int 0)))) (retS (lstD [op2 mulP (opN absP [nm 2]) (opN intP [op2 (bop geB) (opN absP [nm 2]) (op2 powP (cst (.int 10)) (cst (.int 18)))]), op2 addP (op2 addP (op2 modP (opN intP [nm 2]) (cst (.int 2305843009213693951))) (op2 mulP (cst (.int 39373)) (nm 1))) (cst (.int c)), cst (.int 0)]))
def F_box (c : Int) : FN := mkF 3 [true, true] (B_box c)

theorem box_ok (c : Int) (zs : List Int) (k : Nat) (hk : k < 1000) : ∃ o', F_box c [.ls (zs.map .int), .val (.int k)] = .ret o' [.ls (zs.map .int), .val (.int k)] ∧ Tin 0 o' := by
  have hb : ∀ (p : Prop) [Decidable p], smI (if p then 1 else 0) = true := by intro p _; split <;> decide
  have hs : smI 39373 = true := by decide
  suffices h : ∃ A B : Int, F_box c [.ls (zs.map .int), .val (.int k)] = .ret (.ls [.int A, .int B, .int 0]) [.ls (zs.map .int), .val (.int k)] by
    obtain ⟨A, B, h⟩ := h
    exact ⟨_, h, _, _, 0, rfl, by omega, by omega⟩
  by_cases h : k < zs.length
  · have hx : (zs.map PV.int)[k]? = some (.int zs[k]) := by simp [h]
    have hi : ((k : Int) < (zs.length : Int)) := by omega
    refine ⟨(if zs[k] < 0 then -zs[k] else zs[k]) * if 1000000000000000000 ≤ (if zs[k] < 0 then -zs[k] else zs[k]) then 1 else 0, zs[k] % 2305843009213693951 + 39373 * ↑k + c, ?_⟩
    simp [h, hi, hb, hs, F_box, B_box, mkF, seqS, ofX, tstB, ifE, op1, op2, bnd, nm, cst, Mv.ret, vw, view, ofO, getP, ixP, bop, ltB, geB, asgS, opN, args, vws, lenP, absP, intP, modP, powP, hold, setV, frzUn, esc, escs, lstD, retS, endF, outsOf, addP, mulP, Option.bind, ovI]
  · have hi : ¬ ((k : Int) < (zs.length : Int)) := by omega
    refine ⟨?_, ?_, ?_⟩
    rotate_left 2
    simp [h, hi, hb, hs, F_box, B_box, mkF, seqS, ofX, tstB, ifE, op1, op2, bnd, nm, cst, Mv.ret, vw, view, ofO, getP, ixP, bop, ltB, geB, asgS, opN, args, vws, lenP, absP, intP, modP, powP, hold, setV, frzUn, esc, escs, lstD, retS, endF, outsOf, addP, mulP, Option.bind, ovI]
    rfl

def B_cells : SS := seqS (asgS 2 (orE (opN listP [slE (nm 0) (noP) (prtP (nm 1))]) (lstD [cst (.int 0)]))) (seqS (forS (srcN (slE (nm 0) (prtP (nm 1)) (prtP (cst (.int 63))))) (gT [gN 3, gN 4]) (seqS (asgS 5 (op2 modP (opN intP [nm 3]) (nm 1))) (asgG (gL putO 2 (nm 5)) (op2 addP (op2 getP (nm 2) (nm 5)) (op2 mulP (nm 4) (op2 addP (nm 3) (cst (.int 2)))))))) (retS (nm 2)))
def F_cells : FN := mkF 6 [true, true] B_cells

theorem enum_step : ∀ (xs : List PV) (k : Nat) (p : PV) (ps : List PV), enumL k xs = p :: ps → ∃ x r, xs = x :: r ∧ p = .tup [.int k, x] ∧ ps = enumL (k + 1) r
  | [], _, _, _, h => by simp [enumL] at h
  | x :: r, k, p, ps, h => by
    simp only [enumL, List.cons.injEq] at h
    exact ⟨x, r, rfl, h.1.symm, h.2.symm⟩

theorem seq_nx {a b : SS} {e e1 : Env} {r : SR} (h1 : a e = .nx e1) (h2 : b e1 = r) : seqS a b e = r := by simp only [seqS, h1, h2]
theorem mk_rt {n : Nat} {pins : List Bool} {body : SS} {os0 : List OV} {o : OV} {e : Env} {outs : List OV} (h0 : os0.length = pins.length) (h1 : pins.length ≤ n)
    (h2 : body ((frzUn pins os0).map some ++ List.replicate (n - pins.length) none) = .rt (.v o) e) (h3 : outsOf pins (frzUn pins os0) e = some outs) : mkF n pins body os0 = .ret o outs := by
  simp only [mkF, h0, h1, and_self, if_true, h2, endF, h3]
theorem mk_rtb {n : Nat} {pins : List Bool} {body : SS} {os0 : List OV} {i : Nat} {o : OV} {e : Env} {outs : List OV} (h0 : os0.length = pins.length) (h1 : pins.length ≤ n)
    (h2 : body ((frzUn pins os0).map some ++ List.replicate (n - pins.length) none) = .rt (.b i) e) (h4 : e[i]? = some (some o)) (h5 : pins[i]? ≠ some true) (h3 : outsOf pins (frzUn pins os0) (e.set i none) = some outs) : mkF n pins body os0 = .ret o outs := by
  simp only [mkF, h0, h1, and_self, if_true, h2, h4, if_neg h5, endF, h3]

theorem cutP_map (ns : List Int) (lo hi : Option Int) : ∃ zs : List Int, cutP (ns.map .int) lo hi = zs.map .int ∧ zs.length ≤ ns.length := by
  refine ⟨(ns.drop (sIxP ns.length 0 lo)).take (sIxP ns.length ns.length hi - sIxP ns.length 0 lo), ?_, ?_⟩
  · simp [cutP]
  · simp; omega

end Cm
end
/-! file CmR -/
section
set_option linter.all false
set_option autoImplicit false
/-! CmR: rules of evaluation, from the left. -/
namespace Cm
open PySem hiding Env ret
open Mv

variable {e e1 e2 e3 e4 : Env} {r q t : RV} {x y z p : PV} {o : OV} {f g h : SE RV} {b b' : Bool} {rs : List RV} {ps : List PV} {os outs : List OV} {fs : List (SE RV)}

theorem vw_ok (h : view r e = some p) : vw r e = .ok p e := by simp only [vw, h]
theorem nm_val {i : Nat} (h : e[i]? = some (some (.val p))) : nm i e = .ok (.v (.val p)) e := by simp only [nm, h]
theorem nm_own {i : Nat} (h : e[i]? = some (some o)) (ho : o.own = true) : nm i e = .ok (.b i) e := by
  cases o <;> simp_all [nm, OV.own]
theorem op1_ok {op : PV → Option OV} (h1 : f e = .ok r e1) (h2 : view r e1 = some x) (h3 : op x = some o) : op1 op f e = .ok (.v o) e1 := by
  simp only [op1, bnd, h1, vw, h2, ofO, h3, Mv.ret]
theorem op2_ok {op : PV → PV → Option OV} (h1 : f e = .ok r e1) (h2 : g e1 = .ok q e2) (h3 : view r e2 = some x) (h4 : view q e2 = some y) (h5 : op x y = some o) : op2 op f g e = .ok (.v o) e2 := by
  simp only [op2, bnd, h1, h2, vw, h3, h4, ofO, h5, Mv.ret]
theorem args_nil : args [] e = .ok [] e := rfl
theorem args_cons (h1 : f e = .ok r e1) (h2 : args fs e1 = .ok rs e2) : args (f :: fs) e = .ok (r :: rs) e2 := by
  simp only [args, bnd, h1, h2, Mv.ret]
theorem vws_nil : vws [] e = .ok [] e := rfl
theorem vws_cons (h1 : view r e = some p) (h2 : vws rs e = .ok ps e) : vws (r :: rs) e = .ok (p :: ps) e := by
  simp only [vws, bnd, vw, h1, h2, Mv.ret]
theorem escs_nil : escs [] e = .ok [] e := rfl
theorem escs_cons (h1 : esc r e = .ok p e1) (h2 : escs rs e1 = .ok ps e2) : escs (r :: rs) e = .ok (p :: ps) e2 := by
  simp only [escs, bnd, h1, h2, Mv.ret]
theorem holds_nil : holds [] e = .ok [] e := rfl
theorem holds_cons (h1 : hold r e = .ok o e1) (h2 : holds rs e1 = .ok os e2) : holds (r :: rs) e = .ok (o :: os) e2 := by
  simp only [holds, bnd, h1, h2, Mv.ret]
theorem opN_ok {op : List PV → Option OV} (h1 : args fs e = .ok rs e1) (h2 : vws rs e1 = .ok ps e2) (h3 : op ps = some o) : opN op fs e = .ok (.v o) e2 := by
  simp only [opN, bnd, h1, h2, ofO, h3, Mv.ret]
theorem tupD_ok (h1 : args fs e = .ok rs e1) (h2 : escs rs e1 = .ok ps e2) : tupD fs e = .ok (.v (.val (.tup ps))) e2 := by
  simp only [tupD, bnd, h1, h2, Mv.ret]
theorem lstD_ok (h1 : args fs e = .ok rs e1) (h2 : escs rs e1 = .ok ps e2) : lstD fs e = .ok (.v (.ls ps)) e2 := by
  simp only [lstD, bnd, h1, h2, Mv.ret]
theorem tst_ok (h1 : f e = .ok r e1) (h2 : view r e1 = some x) (h3 : truth x = some b) : tst f e = .ok b e1 := by
  simp only [tst, bnd, h1, vw, h2, ofO, h3, Mv.ret]
theorem tstB_ok (h1 : f e = .ok r e1) (h2 : view r e1 = some (.bl b)) : tstB f e = .ok b e1 := by
  simp only [tstB, bnd, h1, vw, h2, Mv.ret]
theorem tNot_ok {c : SE Bool} (h1 : c e = .ok b e1) : tNotS c e = .ok (!b) e1 := by simp only [tNotS, bnd, h1, Mv.ret]
theorem tAnd_t {c d : SE Bool} (h1 : c e = .ok true e1) (h2 : d e1 = .ok b e2) : tAndS c d e = .ok b e2 := by simp only [tAndS, bnd, h1, h2, if_true]
theorem tAnd_f {c d : SE Bool} (h1 : c e = .ok false e1) : tAndS c d e = .ok false e1 := by simp [tAndS, bnd, h1, Mv.ret]
theorem tOr_t {c d : SE Bool} (h1 : c e = .ok true e1) : tOrS c d e = .ok true e1 := by simp only [tOrS, bnd, h1, if_true, Mv.ret]
theorem tOr_f {c d : SE Bool} (h1 : c e = .ok false e1) (h2 : d e1 = .ok b e2) : tOrS c d e = .ok b e2 := by simp [tOrS, bnd, h1, h2]
theorem ifE_t {c : SE Bool} (h1 : c e = .ok true e1) (h2 : f e1 = .ok r e2) : ifE c f g e = .ok r e2 := by simp only [ifE, bnd, h1, h2, if_true]
theorem ifE_f {c : SE Bool} (h1 : c e = .ok false e1) (h2 : g e1 = .ok r e2) : ifE c f g e = .ok r e2 := by simp [ifE, bnd, h1, h2]
theorem andE_t (h1 : f e = .ok r e1) (h2 : view r e1 = some x) (h3 : truth x = some true) (h4 : g e1 = .ok q e2) : andE f g e = .ok q e2 := by
  simp only [andE, bnd, h1, vw, h2, ofO, h3, Mv.ret, if_true, h4]
theorem andE_f (h1 : f e = .ok r e1) (h2 : view r e1 = some x) (h3 : truth x = some false) : andE f g e = .ok r e1 := by
  simp [andE, bnd, h1, vw, h2, ofO, h3, Mv.ret]
theorem orE_t (h1 : f e = .ok r e1) (h2 : view r e1 = some x) (h3 : truth x = some true) : orE f g e = .ok r e1 := by
  simp only [orE, bnd, h1, vw, h2, ofO, h3, Mv.ret, if_true]
theorem orE_f (h1 : f e = .ok r e1) (h2 : view r e1 = some x) (h3 : truth x = some false) (h4 : g e1 = .ok q e2) : orE f g e = .ok q e2 := by
  simp [orE, bnd, h1, vw, h2, ofO, h3, Mv.ret, h4]
theorem notE_ok (h1 : f e = .ok r e1) (h2 : view r e1 = some x) (h3 : truth x = some b) : notE f e = .ok (.v (.val (.bl !b))) e1 := by
  simp only [notE, bnd, h1, vw, h2, ofO, h3, Mv.ret]
theorem callF_ok {F : FN} (h1 : args fs e = .ok rs e1) (h2 : nodupN (refs rs) = true) (h3 : derefs rs e1 = some os) (h4 : F os = .ret o outs) (h5 : putBack rs outs e1 = e2) : callF F fs e = .ok (.v o) e2 := by
  simp only [callF, bnd, h1, callRs, h2, if_true, h3, h4, h5]
/-! ### statements -/
variable {s s' : SS} {u : SR}
theorem asgS_ok {i : Nat} (h1 : f e = .ok r e1) (h2 : hold r e1 = .ok o e2) (h3 : e2.set i (some o) = e3) : asgS i f e = .nx e3 := by
  simp only [asgS, ofX, h1, h2, setV, h3]
theorem asgG_ok {gt : TGt} (h1 : f e = .ok r e1) (h2 : esc r e1 = .ok p e2) (h3 : gt p e2 = u) : asgG gt f e = u := by
  simp only [asgG, ofX, h1, h2, h3]
theorem exprS_ok (h1 : f e = .ok r e1) : exprS f e = .nx e1 := by simp only [exprS, ofX, h1]
theorem retS_ok (h1 : f e = .ok r e1) : retS f e = .rt r e1 := by simp only [retS, ofX, h1]
theorem ifS_t {c : SE Bool} (h1 : c e = .ok true e1) (h2 : s e1 = u) : ifS c s s' e = u := by simp only [ifS, ofX, h1, if_true, h2]
theorem ifS_f {c : SE Bool} (h1 : c e = .ok false e1) (h2 : s' e1 = u) : ifS c s s' e = u := by simp [ifS, ofX, h1, h2]
theorem seq_rt (h1 : s e = .rt r e1) : seqS s s' e = .rt r e1 := by simp only [seqS, h1]
theorem skip_ok : skipS e = .nx e := rfl
theorem forS_ok {src : Src} {gt : TGt} (h1 : src e = .ok ps e1) (h2 : forL gt s ps e1 = u) : forS src gt s e = u := by simp only [forS, ofX, h1, h2]
theorem forL_nil {gt : TGt} : forL gt s [] e = .nx e := rfl
theorem forL_nx {gt : TGt} (h1 : gt p e = .nx e1) (h2 : s e1 = .nx e2) (h3 : forL gt s ps e2 = u) : forL gt s (p :: ps) e = u := by simp only [forL, h1, h2, h3]
theorem forL_rt {gt : TGt} (h1 : gt p e = .nx e1) (h2 : s e1 = .rt r e2) : forL gt s (p :: ps) e = .rt r e2 := by simp only [forL, h1, h2]
theorem while_t {c : SE Bool} {n : Nat} (h1 : c e = .ok true e1) (h2 : s e1 = .nx e2) (h3 : whileL c s n e2 = u) : whileL c s (n + 1) e = u := by simp only [whileL, ofX, h1, if_true, h2, h3]
theorem while_f {c : SE Bool} {n : Nat} (h1 : c e = .ok false e1) : whileL c s (n + 1) e = .nx e1 := by simp [whileL, ofX, h1, skipS]
theorem parS_ok {is : List Nat} (h1 : args fs e = .ok rs e1) (h2 : holds rs e1 = .ok os e2) (h3 : setVs is os e2 = u) : parS is fs e = u := by
  simp only [parS, ofX, h1, h2, h3]
theorem srcE_lst (h1 : f e = .ok r e1) (h2 : esc r e1 = .ok (.lst ps) e2) : srcE f e = .ok ps e2 := by simp only [srcE, bnd, h1, h2, Mv.ret]
theorem srcE_tup (h1 : f e = .ok r e1) (h2 : esc r e1 = .ok (.tup ps) e2) : srcE f e = .ok ps e2 := by simp only [srcE, bnd, h1, h2, Mv.ret]
theorem srcN_lst (h1 : f e = .ok r e1) (h2 : esc r e1 = .ok (.lst ps) e2) : srcN f e = .ok (enumL 0 ps) e2 := by simp only [srcN, bnd, h1, h2, Mv.ret]
theorem srcN_tup (h1 : f e = .ok r e1) (h2 : esc r e1 = .ok (.tup ps) e2) : srcN f e = .ok (enumL 0 ps) e2 := by simp only [srcN, bnd, h1, h2, Mv.ret]
theorem srcR_1 {n : Int} (h1 : args fs e = .ok rs e1) (h2 : vws rs e1 = .ok [.int n] e1) (h3 : -(2 ^ 62) ≤ n ∧ n < 2 ^ 62) : srcR fs e = .ok (rngL 0 n.toNat) e1 := by
  simp only [srcR, bnd, h1, h2, if_pos h3, Mv.ret]
theorem compS_ok {src : Src} {gt : TGt} {c : SE Bool} {vs : List Nat} {ys : List PV} (h1 : src e = .ok ps e1) (h2 : noOwn e1 vs = true) (h3 : compL gt c f vs ps [] e1 = .ok ys e2) (h4 : backE e1 (wipeE e2 vs) vs = e3) :
    compS src gt c f vs e = .ok (.v (.ls ys)) e3 := by
  simp only [compS, bnd, h1, h2, if_true, h3, h4]
end Cm
end
/-! file Cm2 -/
section
set_option linter.all false
set_option autoImplicit false
set_option maxRecDepth 100000
namespace Cm
open PySem hiding Env ret
open Mv
theorem cells_loop (m : Nat) (s : List Int) (h0 : 0 < m) (h1 : m < 1000) : ∀ (rs zs : List Int) (k : Nat), k + rs.length < 1000 → (rs ≠ [] → m ≤ zs.length) → ∀ x3 x4 x5 : Option OV,
    ∃ (zs' : List Int) (y3 y4 y5 : Option OV), forL (gT [gN 3, gN 4]) (seqS (asgS 5 (op2 modP (opN intP [nm 3]) (nm 1))) (asgG (gL putO 2 (nm 5)) (op2 addP (op2 getP (nm 2) (nm 5)) (op2 mulP (nm 4) (op2 addP (nm 3) (cst (.int 2)))))))
      (enumL k (rs.map .int)) [some (.val (.scr s)), some (.val (.int m)), some (.ls (zs.map .int)), x3, x4, x5] = .nx [some (.val (.scr s)), some (.val (.int m)), some (.ls (zs'.map .int)), y3, y4, y5] ∧ zs'.length = zs.length
  | [], zs, k, _, _, x3, x4, x5 => ⟨zs, x3, x4, x5, rfl, rfl⟩
  | r :: rs, zs, k, hk, hz, x3, x4, x5 => by
    have hz := hz (by simp)
    obtain ⟨j, hj, hlt⟩ : ∃ j : Nat, (k : Int) % (m : Int) = (j : Int) ∧ j < zs.length := ⟨k % m, by simp, Nat.lt_of_lt_of_le (Nat.mod_lt _ h0) hz⟩
    have hm : (0 : Int) < (m : Int) := by omega
    have hs : smI ((k : Int) + 2) = true := by simp only [List.length_cons] at hk; simp [smI]; omega
    have hlt' : (j : Int) < (zs.length : Int) := by omega
    have hn0 : (0 : Int) ≤ (j : Int) := by omega
    obtain ⟨zs', y3, y4, y5, h, hl⟩ := cells_loop m s h0 h1 rs (zs.set (j) (zs[j] + r * (k + 2))) (k + 1) (by simp at hk; omega) (by intro _; simpa using hz) (some (.val (.int k))) (some (.val (.int r))) (some (.val (.int (j : Int))))
    refine ⟨zs', y3, y4, y5, ?_, by simpa using hl⟩
    refine forL_nx (p := .tup [.int k, .int r]) (e1 := [some (.val (.scr s)), some (.val (.int m)), some (.ls (zs.map .int)), some (.val (.int k)), some (.val (.int r)), x5]) rfl ?_ h
    refine seq_nx (asgS_ok (op2_ok (opN_ok (args_cons rfl args_nil) (vws_cons rfl vws_nil) rfl) rfl rfl rfl (o := .val (.int (j : Int))) ?_) rfl rfl) ?_
    · simp only [modP, hm, if_true, hj, ovI]
    refine asgG_ok (op2_ok (op2_ok rfl rfl rfl rfl (o := .val (.int zs[j])) ?_) (op2_ok rfl (op2_ok rfl rfl rfl rfl rfl) rfl rfl (o := .val (.int (r * (k + 2)))) ?_) rfl rfl rfl) rfl ?_
    · simp [getP, ixP, hlt', hn0, hlt]
    · simp [mulP, hs]
    · simp [gL, ownB, nm, view, putL, ixP, hlt', hn0, hlt, List.map_set]

/-- the cells' list: ints -/
theorem cells_ok (ns : List Int) (hn : ns.length ≤ 63) (m : Nat) (h0 : 0 < m) (h1 : m < 900) :
    ∃ zs : List Int, F_cells [.val (.scr ns), .val (.int m)] = .ret (.ls (zs.map .int)) [.val (.scr ns), .val (.int m)] ∧ 0 < zs.length := by
  obtain ⟨c0, hc0, hcl⟩ := cutP_map ns none (some (m : Int))
  obtain ⟨c1, hc1, hc2⟩ := cutP_map ns (some (m : Int)) (some 63)
  have hm0 : ¬ ((m : Int) < 0) := by omega
  have hl0 : c0.length = min m ns.length := by
    have := congrArg List.length hc0
    simp [cutP, sIxP, hm0] at this; omega
  have hl1 : c1.length ≤ ns.length - m := by
    have := congrArg List.length hc1
    simp [cutP, sIxP, hm0] at this; omega
  obtain ⟨z0, hz0, hz1, hz2⟩ : ∃ z0 : List Int, orE (opN listP [slE (nm 0) (noP) (prtP (nm 1))]) (lstD [cst (.int 0)]) [some (.val (.scr ns)), some (.val (.int m)), none, none, none, none] = .ok (.v (.ls (z0.map .int))) [some (.val (.scr ns)), some (.val (.int m)), none, none, none, none] ∧ 0 < z0.length ∧ (c1 ≠ [] → m ≤ z0.length) := by
    have hsl : slE (nm 0) (noP) (prtP (nm 1)) [some (.val (.scr ns)), some (.val (.int m)), none, none, none, none] = .ok (.v (.ls (c0.map .int))) [some (.val (.scr ns)), some (.val (.int m)), none, none, none, none] := by
      rw [← hc0]; rfl
    cases c0 with
    | nil =>
      refine ⟨[0], orE_f (opN_ok (args_cons hsl args_nil) (vws_cons rfl vws_nil) rfl) rfl rfl rfl, by simp, ?_⟩
      intro hne
      have : 0 < c1.length := List.length_pos_iff.2 hne
      simp at hl0; omega
    | cons a r =>
      refine ⟨a :: r, orE_t (opN_ok (args_cons hsl args_nil) (vws_cons rfl vws_nil) rfl) rfl rfl, by simp, ?_⟩
      intro hne
      have : 0 < c1.length := List.length_pos_iff.2 hne
      omega
  obtain ⟨zs', y3, y4, y5, hL, hLl⟩ := cells_loop m ns h0 (by omega) c1 z0 0 (by omega) hz2 none none none
  refine ⟨zs', ?_, by omega⟩
  refine mk_rtb (i := 2) (e := [some (.val (.scr ns)), some (.val (.int m)), some (.ls (zs'.map .int)), y3, y4, y5]) rfl (by decide) ?_ rfl (by simp) rfl
  refine seq_nx (asgS_ok hz0 rfl rfl) ?_
  refine seq_nx (forS_ok (srcN_lst (r := .v (.ls (c1.map .int))) ?_ rfl) hL) ?_
  · rw [← hc1]; rfl
  · rfl
end Cm
end
/-! file Cm3 -/
section
set_option linter.all false
set_option autoImplicit false
set_option maxRecDepth 100000
namespace Cm
open PySem hiding Env ret
open Mv
theorem mLs_ok {op : LOp} {x : Nat} {fs : List (SE RV)} {e e1 e2 e3 : Env} {rs : List RV} {ps zs0 zs ys : List PV} {p : PV} (h0 : e[x]? = some (some (.ls zs0))) (h1 : args fs e = .ok rs e1) (h2 : escs rs e1 = .ok ps e2)
    (h3 : e2[x]? = some (some (.ls zs))) (h4 : op zs ps = some (p, ys)) (h5 : e2.set x (some (.ls ys)) = e3) : mLs op x fs e = .ok (.v (.val p)) e3 := by
  simp only [mLs, h0, bnd, h1, h2, h3, h4, h5]

def B_pick : SS := seqS (parS [3, 4] [opN listP [nm 1], lstD []]) (seqS (forS (srcR [opN minP [opN intP [nm 2], opN lenP [nm 3]]]) (gN 5) (exprS (mLs appO 4 [mLs popO 3 [callF F_take [nm 0, opN lenP [nm 3]]]]))) (retS (nm 4)))
def F_pick : FN := mkF 6 [true, true, true] B_pick

theorem perm_pick : ∀ (xs : List PV) (j : Nat) (h : j < xs.length), (xs[j] :: xs.eraseIdx j).Perm xs
  | [], _, h => by simp at h
  | x :: xs, 0, _ => by simp
  | x :: xs, j + 1, h => by
    simp only [List.getElem_cons_succ, List.eraseIdx_cons_succ]
    exact (List.Perm.swap _ _ _).trans ((perm_pick xs j (by simpa using h)).cons x)

theorem pick_loop (g : OV) (c : Int) : ∀ (laps : List PV) (K : Nat) (o : OV) (pool found : List PV) (x5 : Option OV), Tin K o → K + laps.length < 2 ^ 60 → laps.length ≤ pool.length → pool.length + found.length < lnX →
    ∃ (o' : OV) (pool' picked : List PV) (y5 : Option OV), forL (gN 5) (exprS (mLs appO 4 [mLs popO 3 [callF F_take [nm 0, opN lenP [nm 3]]]])) laps [some o, some g, some (.val (.int c)), some (.ls pool), some (.ls found), x5]
      = .nx [some o', some g, some (.val (.int c)), some (.ls pool'), some (.ls (found ++ picked)), y5] ∧ Tin (K + laps.length) o' ∧ (picked ++ pool').Perm pool ∧ picked.length = laps.length
  | [], K, o, pool, found, x5, hT, _, _, _ => ⟨o, pool, [], x5, by simp [forL, skipS], hT, by simp, rfl⟩
  | l :: laps, K, o, pool, found, x5, hT, hK, hl, hx => by
    have hl' : laps.length + 1 ≤ pool.length := by simpa using hl
    have hK' : K + (laps.length + 1) < 2 ^ 60 := by simpa using hK
    have hlx : lnX = 16777216 := rfl
    obtain ⟨d, o1, hd, hd0, hd1, hT1⟩ := take_ok hT (by omega) (n := (pool.length : Int)) (by omega) (by omega)
    obtain ⟨j, rfl⟩ : ∃ j : Nat, d = (j : Int) := ⟨d.toNat, by omega⟩
    have hj : j < pool.length := by omega
    obtain ⟨A, B, C, ho, _, _⟩ := hT
    have hpop : popO pool [.int (j : Int)] = some (pool[j], pool.eraseIdx j) := by
      have h1 : ¬ ((j : Int) < 0) := by omega
      have h2 : (j : Int) < 2 ^ 63 := by omega
      simp only [popO, if_neg h1, if_pos h2]
      simp [hj]
    have happ : appO found [pool[j]] = some (.non, found ++ [pool[j]]) := by
      have : found.length < lnX := by omega
      simp only [appO, if_pos this]
    have hel : (pool.eraseIdx j).length = pool.length - 1 := List.length_eraseIdx_of_lt hj
    obtain ⟨o', pool', picked, y5, hL, hT', hP, hN⟩ := pick_loop g c laps (K + 1) o1 (pool.eraseIdx j) (found ++ [pool[j]]) (some (.val l)) hT1 (by omega) (by omega) (by simp; omega)
    refine ⟨o', pool', pool[j] :: picked, y5, ?_, by simpa [Nat.add_assoc, Nat.add_comm 1] using hT', ?_, by simp [hN]⟩
    · rw [show found ++ pool[j] :: picked = (found ++ [pool[j]]) ++ picked by simp]
      subst ho
      refine forL_nx rfl ?_ hL
      refine exprS_ok (mLs_ok rfl (args_cons (mLs_ok rfl (args_cons (callF_ok (rs := [.b 0, .v (.val (.int pool.length))]) (args_cons rfl (args_cons (opN_ok (args_cons rfl args_nil) (vws_cons rfl vws_nil) rfl) args_nil)) (by rfl) rfl hd rfl) args_nil) (escs_cons rfl escs_nil) rfl hpop rfl) args_nil) (escs_cons rfl escs_nil) rfl happ rfl)
    · refine (List.Perm.cons _ hP).trans ?_
      exact perm_pick pool j hj

theorem pick_ok {K : Nat} {o g : OV} {xs : List PV} (hT : Tin K o) (hK : K + xs.length < 2 ^ 60) (hx : xs.length < lnX) (hg : g = .ls xs ∨ g = .val (.lst xs) ∨ g = .val (.tup xs)) (c : Nat) (hc : c < 2 ^ 60) :
    ∃ (o' : OV) (rest ys : List PV), F_pick [o, g, .val (.int c)] = .ret (.ls ys) [o', g, .val (.int c)] ∧ (ys ++ rest).Perm xs ∧ ys.length = min c xs.length ∧ Tin (K + xs.length) o' := by
  have hlx : lnX = 16777216 := rfl
  have hm : ∃ m : Nat, m = min c xs.length := ⟨_, rfl⟩
  obtain ⟨m, hm⟩ := hm
  obtain ⟨o', pool', ys, y5, hL, hT', hP, hN⟩ := pick_loop g c (rngL 0 m) K o xs [] none hT (by simp [rngL]; omega) (by simp [rngL]; omega) (by simpa using hx)
  have hNm : (rngL 0 m).length = m := by simp [rngL]
  refine ⟨o', pool', ys, ?_, hP, by omega, ?_⟩
  · refine mk_rtb (i := 4) (e := [some o', some g, some (.val (.int c)), some (.ls pool'), some (.ls ys), y5]) rfl (by decide) ?_ rfl (by simp) rfl
    have hl : opN listP [nm 1] [some o, some g, some (.val (.int c)), none, none, none] = .ok (.v (.ls xs)) [some o, some g, some (.val (.int c)), none, none, none] := by
      rcases hg with rfl | rfl | rfl <;> rfl
    refine seq_nx (parS_ok (args_cons hl (args_cons rfl args_nil)) rfl rfl) ?_
    have hmin : minP [.int c, .int xs.length] = some (ovI m) := by
      have : ((m : Nat) : Int) = if (xs.length : Int) < (c : Int) then (xs.length : Int) else (c : Int) := by rw [hm]; split <;> omega
      simp only [minP, this]
    refine seq_nx (forS_ok (srcR_1 (n := m) (args_cons (opN_ok (args_cons rfl (args_cons rfl args_nil)) (vws_cons rfl (vws_cons rfl vws_nil)) hmin) args_nil) (vws_cons rfl vws_nil) (by omega)) hL) rfl
  · obtain ⟨A, B, C, h1, h2, h3⟩ := hT'
    exact ⟨A, B, C, h1, h2, by omega⟩
end Cm
end
/-! file CmE -/
section
set_option linter.all false
set_option autoImplicit false
/-! CmE: the same thing, told by a Bool (for the kernel). -/
namespace Cm
open PySem hiding Env ret
open Mv
def strB (a b : Str) : Bool := decide (a.cps.toList = b.cps.toList)
mutual
def pvB : PV → PV → Bool
  | .non, q => match q with | .non => true | _ => false
  | .bl a, q => match q with | .bl b => a == b | _ => false
  | .int i, q => match q with | .int j => decide (i = j) | _ => false
  | .str x, q => match q with | .str y => strB x y | _ => false
  | .tup xs, q => match q with | .tup ys => pvsB xs ys | _ => false
  | .lst xs, q => match q with | .lst ys => pvsB xs ys | _ => false
  | .dic xs, q => match q with | .dic ys => kvsB xs ys | _ => false
  | .fn a, q => match q with | .fn b => a == b | _ => false
  | .ty a, q => match q with | .ty b => a == b | _ => false
  | .scr a, q => match q with | .scr b => decide (a = b) | _ => false
def pvsB : List PV → List PV → Bool
  | [], q => match q with | [] => true | _ => false
  | x :: xs, q => match q with | y :: ys => pvB x y && pvsB xs ys | _ => false
def kvsB : List (PV × PV) → List (PV × PV) → Bool
  | [], q => match q with | [] => true | _ => false
  | (a, b) :: xs, q => match q with | (c, d) :: ys => pvB a c && pvB b d && kvsB xs ys | _ => false
end
theorem strB_eq {a b : Str} (h : strB a b = true) : a = b := by
  cases a; cases b
  simp only [strB, decide_eq_true_eq] at h
  congr 1
  exact Array.toList_inj.1 h
mutual
theorem pvB_eq : ∀ (a b : PV), pvB a b = true → a = b
  | .non, q, h => by cases q <;> simp_all [pvB]
  | .bl a, q, h => by cases q <;> simp_all [pvB]
  | .int i, q, h => by cases q <;> simp_all [pvB]
  | .str x, q, h => by
    cases q <;> simp_all [pvB]
    exact strB_eq h
  | .tup xs, q, h => by
    cases q <;> simp_all [pvB]
    exact pvsB_eq _ _ h
  | .lst xs, q, h => by
    cases q <;> simp_all [pvB]
    exact pvsB_eq _ _ h
  | .dic xs, q, h => by
    cases q <;> simp_all [pvB]
    exact kvsB_eq _ _ h
  | .fn a, q, h => by cases q <;> simp_all [pvB]
  | .ty a, q, h => by cases q <;> simp_all [pvB]
  | .scr a, q, h => by cases q <;> simp_all [pvB]
theorem pvsB_eq : ∀ (a b : List PV), pvsB a b = true → a = b
  | [], q, h => by cases q <;> simp_all [pvsB]
  | x :: xs, q, h => by
    cases q with
    | nil => simp [pvsB] at h
    | cons y ys =>
      simp only [pvsB, Bool.and_eq_true] at h
      rw [pvB_eq _ _ h.1, pvsB_eq _ _ h.2]
theorem kvsB_eq : ∀ (a b : List (PV × PV)), kvsB a b = true → a = b
  | [], q, h => by cases q <;> simp_all [kvsB]
  | (a, b) :: xs, q, h => by
    cases q with
    | nil => simp [kvsB] at h
    | cons y ys =>
      obtain ⟨c, d⟩ := y
      simp only [kvsB, Bool.and_eq_true] at h
      rw [pvB_eq _ _ h.1.1, pvB_eq _ _ h.1.2, kvsB_eq _ _ h.2]
end
def pvssB : List (List PV) → List (List PV) → Bool
  | [], [] => true
  | x :: xs, y :: ys => pvsB x y && pvssB xs ys
  | _, _ => false
theorem pvssB_eq : ∀ (a b : List (List PV)), pvssB a b = true → a = b
  | [], [], _ => rfl
  | x :: xs, y :: ys, h => by
    simp only [pvssB, Bool.and_eq_true] at h
    rw [pvsB_eq _ _ h.1, pvssB_eq _ _ h.2]
  | [], _ :: _, h => by simp [pvssB] at h
  | _ :: _, [], h => by simp [pvssB] at h
def ovB' : OV → OV → Bool
  | .val a, .val b => pvB a b
  | .ls a, .ls b => pvsB a b
  | .dc a, .dc b => kvsB a b
  | .ll a, .ll b => pvssB a b
  | _, _ => false
theorem ovB_eq {a b : OV} (h : ovB' a b = true) : a = b := by
  cases a <;> cases b <;> simp only [ovB', Bool.false_eq_true] at h
  · rw [pvB_eq _ _ h]
  · rw [pvsB_eq _ _ h]
  · rw [kvsB_eq _ _ h]
  · rw [pvssB_eq _ _ h]
def ovsB : List OV → List OV → Bool
  | [], [] => true
  | x :: xs, y :: ys => ovB' x y && ovsB xs ys
  | _, _ => false
theorem ovsB_eq : ∀ (a b : List OV), ovsB a b = true → a = b
  | [], [], _ => rfl
  | x :: xs, y :: ys, h => by
    simp only [ovsB, Bool.and_eq_true] at h
    rw [ovB_eq h.1, ovsB_eq _ _ h.2]
  | [], _ :: _, h => by simp [ovsB] at h
  | _ :: _, [], h => by simp [ovsB] at h
def envB : Env → Env → Bool
  | [], [] => true
  | none :: xs, none :: ys => envB xs ys
  | some x :: xs, some y :: ys => ovB' x y && envB xs ys
  | _, _ => false
theorem envB_eq : ∀ (a b : Env), envB a b = true → a = b
  | [], [], _ => rfl
  | none :: xs, none :: ys, h => by
    simp only [envB] at h
    rw [envB_eq _ _ h]
  | some x :: xs, some y :: ys, h => by
    simp only [envB, Bool.and_eq_true] at h
    rw [ovB_eq h.1, envB_eq _ _ h.2]
  | [], _ :: _, h => by simp [envB] at h
  | _ :: _, [], h => by simp [envB] at h
  | none :: _, some _ :: _, h => by simp [envB] at h
  | some _ :: _, none :: _, h => by simp [envB] at h
/-- a def answers so -/
def frB (r : FR) (o : OV) (os : List OV) : Bool := match r with
  | .ret a b => ovB' a o && ovsB b os
  | _ => false
theorem frB_eq {r : FR} {o : OV} {os : List OV} (h : frB r o os = true) : r = .ret o os := by
  cases r <;> simp only [frB, Bool.and_eq_true, Bool.false_eq_true] at h
  rw [ovB_eq h.1, ovsB_eq _ _ h.2]
def nxB (r : SR) (e : Env) : Bool := match r with
  | .nx a => envB a e
  | _ => false
theorem nxB_eq {r : SR} {e : Env} (h : nxB r e = true) : r = .nx e := by
  cases r <;> simp only [nxB, Bool.false_eq_true] at h
  rw [envB_eq _ _ h]
end Cm
end
/-! file CmG -/
section
set_option linter.all false
set_option autoImplicit false
/-! CmG: rules for places that are written. -/
namespace Cm
open PySem hiding Env ret
open Mv
variable {e e1 e2 e3 : Env} {r : RV} {p : PV} {fi : SE RV}
theorem ixP_nat {n a : Nat} (h : a < n) : ixP n (a : Int) = some a := by
  have : ((a : Int) < (n : Int)) := by omega
  simp [ixP, this]
theorem getT {l : List PV} {a : Nat} (h : a < l.length) : getP (.tup l) (.int a) = some (.val l[a]) := by simp [getP, ixP_nat h, h]
theorem getL {l : List PV} {a : Nat} (h : a < l.length) : getP (.lst l) (.int a) = some (.val l[a]) := by simp [getP, ixP_nat h, h]
theorem gL_ls {put : List (PV × PV) → PV → PV → Option (List (PV × PV))} {x a : Nat} {xs ys : List PV} (h0 : e[x]? = some (some (.ls xs))) (h1 : fi e = .ok r e1) (h2 : view r e1 = some (.int a)) (h3 : e1[x]? = some (some (.ls ys))) (h4 : a < ys.length)
    (h5 : e1.set x (some (.ls (ys.set a p))) = e2) : gL put x fi p e = .nx e2 := by
  have hb : ownB e x = true := by simp only [ownB, h0]
  simp only [gL, hb, if_true, h1, h2, putL, h3, ixP_nat h4, h5]
theorem gL_dc {put : List (PV × PV) → PV → PV → Option (List (PV × PV))} {x : Nat} {k : PV} {xs ys zs : List (PV × PV)} (h0 : e[x]? = some (some (.dc xs))) (h1 : fi e = .ok r e1) (h2 : view r e1 = some k) (h3 : e1[x]? = some (some (.dc ys))) (h4 : put ys k p = some zs)
    (h5 : e1.set x (some (.dc zs)) = e2) : gL put x fi p e = .nx e2 := by
  have hb : ownB e x = true := by simp only [ownB, h0]
  simp only [gL, hb, if_true, h1, h2, putL, h3, h4, h5]
theorem gT_2 {g1 g2 : TGt} {p1 p2 : PV} (h1 : g1 p1 e = .nx e1) (h2 : g2 p2 e1 = .nx e2) : gT [g1, g2] (.tup [p1, p2]) e = .nx e2 := by
  simp only [gT, List.length_cons, List.length_nil, if_true, gTs, seqS, h1, h2, skipS]
end Cm
end
/-! file CmL -/
section
set_option linter.all false
set_option autoImplicit false
set_option maxRecDepth 100000
/-! CmL: comprehensions. -/
namespace Cm
open PySem hiding Env ret
open Mv
/-- a comprehension with a test: what is kept, and what it becomes -/
theorem compL_flt {gt : TGt} {c : SE Bool} {elt : SE RV} {vs : List Nat} (I : Env → Prop) (b : PV → Bool) (f : PV → PV) : ∀ (ps acc : List PV) (e : Env),
    (∀ p ∈ ps, ∀ e, I e → ∃ e1 e2, gt p (wipeE e vs) = .nx e1 ∧ c e1 = .ok (b p) e2 ∧ (b p = false → I e2) ∧ (b p = true → ∃ r e3 e4, elt e2 = .ok r e3 ∧ esc r e3 = .ok (f p) e4 ∧ I e4)) →
    I e → acc.length + ps.length ≤ lnX → ∃ e', compL gt c elt vs ps acc e = .ok (acc ++ (ps.filter b).map f) e' ∧ I e'
  | [], acc, e, _, hI, _ => ⟨e, by simp [compL, Mv.ret], hI⟩
  | p :: ps, acc, e, h, hI, hl => by
    obtain ⟨e1, e2, h1, h2, h3, h4⟩ := h p (by simp) e hI
    simp only [List.length_cons] at hl
    cases hb : b p with
    | false =>
      rw [hb] at h2
      obtain ⟨e', k1, k2⟩ := compL_flt I b f ps acc e2 (fun q hq => h q (by simp [hq])) (h3 hb) (by omega)
      exact ⟨e', by simp only [compL, h1, h2, k1, List.filter_cons, hb, Bool.false_eq_true, if_false], k2⟩
    | true =>
      rw [hb] at h2
      obtain ⟨r, e3, e4, h5, h6, h7⟩ := h4 hb
      obtain ⟨e', k1, k2⟩ := compL_flt I b f ps (acc ++ [f p]) e4 (fun q hq => h q (by simp [hq])) h7 (by simp; omega)
      have hx : acc.length < lnX := by omega
      exact ⟨e', by simp only [compL, h1, h2, h5, h6, if_pos hx, k1, List.filter_cons, hb, if_true, List.map_cons, List.append_assoc, List.cons_append, List.nil_append], k2⟩
theorem compL_map {gt : TGt} {elt : SE RV} {vs : List Nat} (I : Env → Prop) (f : PV → PV) (ps : List PV) (e : Env)
    (h : ∀ p ∈ ps, ∀ e, I e → ∃ e1 r e3 e4, gt p (wipeE e vs) = .nx e1 ∧ elt e1 = .ok r e3 ∧ esc r e3 = .ok (f p) e4 ∧ I e4)
    (hI : I e) (hl : ps.length ≤ lnX) : ∃ e', compL gt (Mv.ret true) elt vs ps [] e = .ok (ps.map f) e' ∧ I e' := by
  obtain ⟨e', k1, k2⟩ := compL_flt (gt := gt) (c := Mv.ret true) (elt := elt) (vs := vs) I (fun _ => true) f ps [] e (by
    intro p hp e hI
    obtain ⟨e1, r, e3, e4, h1, h2, h3, h4⟩ := h p hp e hI
    exact ⟨e1, e1, h1, rfl, (by intro h; cases h), fun _ => ⟨r, e3, e4, h2, h3, h4⟩⟩) hI (by simpa using hl)
  refine ⟨e', ?_, k2⟩
  rw [k1, List.filter_eq_self.2 (fun _ _ => rfl), List.nil_append]
end Cm
end
/-! file CmP -/
section
set_option linter.all false
set_option autoImplicit false
set_option maxRecDepth 100000
/-! CmP: comprehensions and loops over lists of things of one kind. -/
namespace Cm
open PySem hiding Env ret
open Mv
variable {α σ : Type}
theorem tNot_t {c : SE Bool} {e e1 : Env} (h1 : c e = .ok true e1) : tNotS c e = .ok false e1 := tNot_ok h1
theorem tNot_f {c : SE Bool} {e e1 : Env} (h1 : c e = .ok false e1) : tNotS c e = .ok true e1 := tNot_ok h1
theorem set_back (e : Env) (j : Nat) : e.set j (e[j]?.getD none) = e := by
  by_cases h : j < e.length
  · rw [List.getElem?_eq_getElem h]; simp
  · exact List.set_eq_of_length_le (by omega)
def notOwn (o : Option (Option OV)) : Prop := match o with
  | some (some o) => o.own = false
  | _ => True
theorem noOwn1 {e : Env} {j : Nat} (h : notOwn e[j]?) : noOwn e [j] = true := by
  simp only [noOwn, Bool.and_true]
  split
  · rename_i o ho; rw [ho] at h; simp only [notOwn] at h; cases o <;> simp_all [OV.own]
  · rfl
theorem comp1 {src : Src} {j : Nat} {c : SE Bool} {elt : SE RV} {e0 e : Env} (g : α → PV) (b : α → Bool) (f : α → OV) (ys : List α)
    (hs : src e0 = .ok (ys.map g) e) (hj : notOwn e[j]?)
    (hc : ∀ y ∈ ys, c (e.set j (some (.val (g y)))) = .ok (b y) (e.set j (some (.val (g y)))))
    (he : ∀ y ∈ ys, b y = true → elt (e.set j (some (.val (g y)))) = .ok (.v (f y)) (e.set j (some (.val (g y))))) (hl : ys.length ≤ lnX) :
    compS src (gN j) c elt [j] e0 = .ok (.v (.ls ((ys.filter b).map fun y => (f y).frz))) e := by
  suffices h : ∀ (zs : List α) (acc : List PV) (x : Option OV), (∀ y ∈ zs, y ∈ ys) → acc.length + zs.length ≤ lnX → ∃ x', compL (gN j) c elt [j] (zs.map g) acc (e.set j x) = .ok (acc ++ (zs.filter b).map fun y => (f y).frz) (e.set j x') by
    obtain ⟨x', h1⟩ := h ys [] (e[j]?.getD none) (fun _ h => h) (by simpa using hl)
    rw [set_back] at h1
    refine compS_ok hs (noOwn1 hj) h1 ?_
    simp only [wipeE, backE, List.set_set, set_back]
  intro zs
  induction zs with
  | nil => intro acc x _ _; exact ⟨x, by simp [compL, Mv.ret]⟩
  | cons y zs ih =>
    intro acc x hz hl
    simp only [List.length_cons] at hl
    have hy := hz y (by simp)
    have hw : gN j (g y) (wipeE (e.set j x) [j]) = .nx (e.set j (some (.val (g y)))) := by simp only [wipeE, gN, List.set_set]
    cases hb : b y with
    | false =>
      obtain ⟨x', h1⟩ := ih acc (some (.val (g y))) (fun z hz' => hz z (by simp [hz'])) (by omega)
      exact ⟨x', by simp only [List.map_cons, compL, hw, hc y hy, hb, h1, List.filter_cons, Bool.false_eq_true, if_false]⟩
    | true =>
      obtain ⟨x', h1⟩ := ih (acc ++ [(f y).frz]) (some (.val (g y))) (fun z hz' => hz z (by simp [hz'])) (by simp; omega)
      have hx : acc.length < lnX := by omega
      exact ⟨x', by simp only [List.map_cons, compL, hw, hc y hy, hb, he y hy hb, esc, if_pos hx, h1, List.filter_cons, if_true, List.append_assoc, List.cons_append, List.nil_append]⟩
/-- without a test -/
theorem comp1m {src : Src} {j : Nat} {elt : SE RV} {e0 e : Env} (g : α → PV) (f : α → OV) (ys : List α)
    (hs : src e0 = .ok (ys.map g) e) (hj : notOwn e[j]?)
    (he : ∀ y ∈ ys, elt (e.set j (some (.val (g y)))) = .ok (.v (f y)) (e.set j (some (.val (g y))))) (hl : ys.length ≤ lnX) :
    compS src (gN j) (Mv.ret true) elt [j] e0 = .ok (.v (.ls (ys.map fun y => (f y).frz))) e := by
  have := comp1 (c := Mv.ret true) g (fun _ => true) f ys hs hj (fun _ _ => rfl) (fun y hy _ => he y hy) hl
  rwa [List.filter_eq_self.2 (fun _ _ => rfl)] at this
theorem set_i {e : Env} {i j : Nat} {a b c : Option OV} (h : i ≠ j) : ((e.set i a).set j b).set i c = (e.set i c).set j b := by
  rw [List.set_comm _ _ (fun x => h x.symm), List.set_set]
theorem noOwn2 {e : Env} {i j : Nat} (h : notOwn e[i]?) (h' : notOwn e[j]?) : noOwn e [i, j] = true := by
  have h1 := noOwn1 h
  have h2 := noOwn1 h'
  simp only [noOwn, Bool.and_true] at h1 h2 ⊢
  rw [h1, h2]; rfl
/-- two names: pairs -/
theorem comp2 {src : Src} {i j : Nat} {c : SE Bool} {elt : SE RV} {e0 e : Env} (g1 g2 : α → PV) (b : α → Bool) (f : α → OV) (ys : List α) (hij : i ≠ j)
    (hs : src e0 = .ok (ys.map fun y => .tup [g1 y, g2 y]) e) (hi : notOwn e[i]?) (hj : notOwn e[j]?)
    (hc : ∀ y ∈ ys, c ((e.set i (some (.val (g1 y)))).set j (some (.val (g2 y)))) = .ok (b y) ((e.set i (some (.val (g1 y)))).set j (some (.val (g2 y)))))
    (he : ∀ y ∈ ys, b y = true → elt ((e.set i (some (.val (g1 y)))).set j (some (.val (g2 y)))) = .ok (.v (f y)) ((e.set i (some (.val (g1 y)))).set j (some (.val (g2 y))))) (hl : ys.length ≤ lnX) :
    compS src (gT [gN i, gN j]) c elt [i, j] e0 = .ok (.v (.ls ((ys.filter b).map fun y => (f y).frz))) e := by
  have hji : j ≠ i := fun h => hij h.symm
  suffices h : ∀ (zs : List α) (acc : List PV) (x x2 : Option OV), (∀ y ∈ zs, y ∈ ys) → acc.length + zs.length ≤ lnX → ∃ x' x2', compL (gT [gN i, gN j]) c elt [i, j] (zs.map fun y => .tup [g1 y, g2 y]) acc ((e.set i x).set j x2) = .ok (acc ++ (zs.filter b).map fun y => (f y).frz) ((e.set i x').set j x2') by
    obtain ⟨x', x2', h1⟩ := h ys [] (e[i]?.getD none) (e[j]?.getD none) (fun _ h => h) (by simpa using hl)
    rw [set_back, set_back] at h1
    refine compS_ok hs (noOwn2 hi hj) h1 ?_
    simp only [wipeE, backE, List.set_set]
    rw [set_i hij, set_i hij, List.set_set, set_back, set_back]
  intro zs
  induction zs with
  | nil => intro acc x x2 _ _; exact ⟨x, x2, by simp [compL, Mv.ret]⟩
  | cons y zs ih =>
    intro acc x x2 hz hl
    simp only [List.length_cons] at hl
    have hy := hz y (by simp)
    have hw : gT [gN i, gN j] (.tup [g1 y, g2 y]) (wipeE ((e.set i x).set j x2) [i, j]) = .nx ((e.set i (some (.val (g1 y)))).set j (some (.val (g2 y)))) := by
      refine gT_2 rfl ?_
      simp only [wipeE, gN, List.set_set]
      rw [set_i hij, List.set_set]
    cases hb : b y with
    | false =>
      obtain ⟨x', x2', h1⟩ := ih acc (some (.val (g1 y))) (some (.val (g2 y))) (fun z hz' => hz z (by simp [hz'])) (by omega)
      exact ⟨x', x2', by simp only [List.map_cons, compL, hw, hc y hy, hb, h1, List.filter_cons, Bool.false_eq_true, if_false]⟩
    | true =>
      obtain ⟨x', x2', h1⟩ := ih (acc ++ [(f y).frz]) (some (.val (g1 y))) (some (.val (g2 y))) (fun z hz' => hz z (by simp [hz'])) (by simp; omega)
      have hx : acc.length < lnX := by omega
      exact ⟨x', x2', by simp only [List.map_cons, compL, hw, hc y hy, hb, he y hy hb, esc, if_pos hx, h1, List.filter_cons, if_true, List.append_assoc, List.cons_append, List.nil_append]⟩
end Cm
namespace Cm
open PySem hiding Env ret
open Mv
variable {α σ : Type}
theorem comp2m {src : Src} {i j : Nat} {elt : SE RV} {e0 e : Env} (g1 g2 : α → PV) (f : α → OV) (ys : List α) (hij : i ≠ j)
    (hs : src e0 = .ok (ys.map fun y => .tup [g1 y, g2 y]) e) (hi : notOwn e[i]?) (hj : notOwn e[j]?)
    (he : ∀ y ∈ ys, elt ((e.set i (some (.val (g1 y)))).set j (some (.val (g2 y)))) = .ok (.v (f y)) ((e.set i (some (.val (g1 y)))).set j (some (.val (g2 y))))) (hl : ys.length ≤ lnX) :
    compS src (gT [gN i, gN j]) (Mv.ret true) elt [i, j] e0 = .ok (.v (.ls (ys.map fun y => (f y).frz))) e := by
  have := comp2 (c := Mv.ret true) g1 g2 (fun _ => true) f ys hij hs hi hj (fun _ _ => rfl) (fun y hy _ => he y hy) hl
  rwa [List.filter_eq_self.2 (fun _ _ => rfl)] at this
theorem enum_map (g : α → PV) : ∀ (ys : List α) (k : Nat), enumL k (ys.map g) = (ys.zipIdx k).map fun z => .tup [.int (z.2 : Nat), g z.1]
  | [], _ => rfl
  | y :: ys, k => by simp only [List.map_cons, enumL, List.zipIdx_cons, enum_map g ys (k + 1)]
theorem zip_map {β : Type} (g : α → PV) (h : β → PV) : ∀ (xs : List α) (ys : List β), zipL (xs.map g) (ys.map h) = (xs.zip ys).map fun z => .tup [g z.1, h z.2]
  | [], _ => by simp [zipL]
  | x :: xs, [] => by simp [zipL]
  | x :: xs, y :: ys => by simp only [List.map_cons, zipL, List.zip_cons_cons, zip_map g h xs ys]
/-- a loop that only changes a state -/
theorem forL_fold {gt : TGt} {body : SS} (g : α → PV) (E : σ → Env → Prop) (step : σ → α → σ) : ∀ (ys : List α) (s : σ) (e : Env),
    (∀ y ∈ ys, ∀ s e, E s e → ∃ e1 e2, gt (g y) e = .nx e1 ∧ body e1 = .nx e2 ∧ E (step s y) e2) → E s e → ∃ e', forL gt body (ys.map g) e = .nx e' ∧ E (ys.foldl step s) e'
  | [], s, e, _, h => ⟨e, rfl, h⟩
  | y :: ys, s, e, hS, h => by
    obtain ⟨e1, e2, h1, h2, h3⟩ := hS y (by simp) s e h
    obtain ⟨e', h4, h5⟩ := forL_fold g E step ys (step s y) e2 (fun z hz => hS z (by simp [hz])) h3
    exact ⟨e', forL_nx h1 h2 h4, h5⟩
/-- a loop that only asks: each time it goes on -/
theorem forL_all {gt : TGt} {body : SS} (g : α → PV) (I : Env → Prop) (ys : List α) (e : Env)
    (hS : ∀ y ∈ ys, ∀ e, I e → ∃ e1 e2, gt (g y) e = .nx e1 ∧ body e1 = .nx e2 ∧ I e2) (h : I e) : ∃ e', forL gt body (ys.map g) e = .nx e' ∧ I e' :=
  forL_fold g (fun (_ : Unit) => I) (fun _ _ => ()) ys () e (fun y hy _ e h => hS y hy e h) h
theorem intsOf_map (f : α → Int) : ∀ ys : List α, intsOf (ys.map fun y => .int (f y)) = some (ys.map f)
  | [] => rfl
  | y :: ys => by simp [intsOf, intsOf_map f ys]
theorem blsOf_map (f : α → Bool) : ∀ ys : List α, blsOf (ys.map fun y => .bl (f y)) = some (ys.map f)
  | [] => rfl
  | y :: ys => by simp [blsOf, blsOf_map f ys]
theorem all_map (f : α → Bool) (ys : List α) : allP [.lst (ys.map fun y => .bl (f y))] = some (ovB (ys.all f)) := by
  simp only [allP, blsOf_map, Option.map, List.all_map]; rfl
theorem any_map (f : α → Bool) (ys : List α) : anyP [.lst (ys.map fun y => .bl (f y))] = some (ovB (ys.any f)) := by
  simp only [anyP, blsOf_map, Option.map, List.any_map]; rfl
theorem sum_map (f : α → Int) (ys : List α) : sumP [.lst (ys.map fun y => .int (f y))] = some (ovI (ys.map f).sum) := by
  simp only [sumP, intsOf_map, Option.map]
theorem sum_mapT (f : α → Int) (ys : List α) : sumP [.tup (ys.map fun y => .int (f y))] = some (ovI (ys.map f).sum) := by
  simp only [sumP, intsOf_map, Option.map]
end Cm
end
/-! file Bs0 -/
section
set_option linter.all false
set_option autoImplicit false
set_option maxRecDepth 100000
/-! Bs0: sorted. -/
namespace Cm
open PySem hiding Env ret
open Mv
theorem pw_chain : ∀ xs : List PV, xs.Pairwise (fun a b => leP a b = true) → chainB xs = true
  | [], _ => rfl
  | [x], _ => rfl
  | x :: y :: r, h => by
    rw [List.pairwise_cons] at h
    simp only [chainB, h.1 y (by simp), pw_chain (y :: r) h.2, Bool.and_self]
theorem mrg_pw : ∀ (n : Nat) (xs ys : List PV), xs.length + ys.length ≤ n → xs.Pairwise (fun a b => leP a b = true) → ys.Pairwise (fun a b => leP a b = true) → (mrg n xs ys).Pairwise (fun a b => leP a b = true)
  | 0, xs, ys, h, _, _ => by
    have h1 : xs = [] := List.length_eq_zero_iff.1 (by omega)
    have h2 : ys = [] := List.length_eq_zero_iff.1 (by omega)
    subst h1 h2; exact .nil
  | n + 1, [], ys, _, _, h => by simpa [mrg] using h
  | n + 1, x :: xs, [], _, h, _ => by simpa [mrg] using h
  | n + 1, x :: xs, y :: ys, hl, hx, hy => by
    simp only [List.length_cons] at hl
    have hx' := List.pairwise_cons.1 hx
    have hy' := List.pairwise_cons.1 hy
    unfold mrg
    split
    · rename_i hxy
      refine List.pairwise_cons.2 ⟨fun z hz => ?_, mrg_pw n xs (y :: ys) (by simp; omega) hx'.2 hy⟩
      have := (mrg_perm n xs (y :: ys)).mem_iff.1 hz
      simp only [List.mem_append, List.mem_cons] at this
      rcases this with h | rfl | h
      · exact hx'.1 z h
      · exact hxy
      · exact leP_trans _ _ _ hxy (hy'.1 z h)
    · rename_i hxy
      have hyx : leP y x = true := by
        have := leP_total x y
        cases h : leP x y
        · rw [h] at this; simpa using this
        · exact absurd h hxy
      refine List.pairwise_cons.2 ⟨fun z hz => ?_, mrg_pw n (x :: xs) ys (by simp; omega) hx hy'.2⟩
      have := (mrg_perm n (x :: xs) ys).mem_iff.1 hz
      simp only [List.mem_append, List.mem_cons] at this
      rcases this with (rfl | h) | h
      · exact hyx
      · exact leP_trans _ _ _ hyx (hx'.1 z h)
      · exact hy'.1 z h
theorem msort_pw : ∀ (n : Nat) (xs : List PV), xs.length ≤ n → (msort n xs).Pairwise (fun a b => leP a b = true)
  | 0, xs, h => by
    have h1 : xs = [] := List.length_eq_zero_iff.1 (by omega)
    subst h1; exact .nil
  | n + 1, [], _ => by simp [msort]
  | n + 1, [x], _ => by simp [msort]
  | n + 1, x :: y :: r, h => by
    unfold msort
    have hl1 : ((x :: y :: r).take ((x :: y :: r).length / 2)).length ≤ n := by simp at h ⊢; omega
    have hl2 : ((x :: y :: r).drop ((x :: y :: r).length / 2)).length ≤ n := by simp at h ⊢; omega
    refine mrg_pw _ _ _ ?_ (msort_pw n _ hl1) (msort_pw n _ hl2)
    rw [(msort_perm _ _).length_eq, (msort_perm _ _).length_eq]
    simp; omega
theorem sortO_ok {xs : List PV} (h : srtB xs = true) : sortO xs = some (msort xs.length xs) := by
  simp only [sortO, h, pw_chain _ (msort_pw _ xs (Nat.le_refl _)), Bool.and_self, if_true]
/-- what is sorted and has the same things -/
theorem sort_is {xs zs : List PV} (h : srtB xs = true) (hp : zs.Perm xs) (hz : zs.Pairwise fun a b => leP a b = true) : sortO xs = some zs := by
  have ok := srtB_ok h
  rw [sortO_ok h]
  congr 1
  refine List.Perm.eq_of_pairwise (le := fun a b => leP a b = true) (fun a b ha hb h1 h2 => ?_) (msort_pw _ _ (Nat.le_refl _)) hz ((msort_perm _ _).trans hp.symm)
  have ma := (msort_perm _ _).mem_iff.mp ha
  have mb := hp.mem_iff.mp hb
  refine toks_same (ok.a a ma) (ok.a b mb) (ok.al a ma b mb) ?_
  unfold leP ltP PySem.W.dataLt at h1 h2
  rw [Bool.not_eq_true'] at h1 h2
  exact (PyProof.Rows.listOrd PyProof.Rows.itemOrd).total _ _ h2 h1
theorem leP_int (a b : Int) : leP (.int a) (.int b) = decide (a ≤ b) := by
  have : ltP (.int b) (.int a) = decide (b < a) := PySem.W.dataLt_int b a
  rw [leP, this, Bool.eq_iff_iff]; simp
theorem srtB_int (xs : List Int) (h : xs.length ≤ lnX) : srtB (xs.map fun i => .int i) = true := by
  simp only [srtB, Bool.and_eq_true, List.length_map, decide_eq_true_eq]
  refine ⟨⟨⟨⟨h, ?_⟩, ?_⟩, ?_⟩, ?_⟩
  · simp [List.all_eq_true, srtA]
  · simp [List.all_eq_true, okD]
  · cases xs with
    | nil => rfl
    | cons x r => simp [shp]
  · simp [isTup]
theorem sort_int {xs zs : List Int} (h : xs.length ≤ lnX) (hp : zs.Perm xs) (hz : zs.Pairwise (· ≤ ·)) : sortO (xs.map fun i => .int i) = some (zs.map fun i => .int i) := by
  refine sort_is (srtB_int xs h) (hp.map _) ?_
  rw [List.pairwise_map]
  exact hz.imp fun h => by rw [leP_int]; simpa using h
end Cm
end
/-! file Bs1 -/
section
set_option linter.all false
set_option autoImplicit false
set_option maxRecDepth 100000
/-! Bs1: places of boxes, as data of their own kinds: what a place is. -/
namespace Bs
open PySem hiding Env ret
open Mv Cm Bx
variable {α : Type}
def natL (o : List Nat) : List PV := o.map fun (k : Nat) => .int (k : Int)
def natsP (o : List Nat) : PV := .tup (natL o)
def intL (r : List Int) : List PV := r.map fun i => .int i
def rowP (r : List Int) : PV := .tup (intL r)
def tabP (t : List (List Int)) : PV := .tup (t.map fun r => rowP r)
structure Pl where
  o : List Nat
  t : List (List Int)
  s : List Int
def Pl.pv (p : Pl) : PV := .tup [natsP p.o, tabP p.t, rowP p.s]
structure Pl.Ok (n : Nat) (p : Pl) : Prop where
  o : p.o.Perm (List.range n)
  tl : p.t.length = n - 1
  tr : ∀ r ∈ p.t, r.length = n
  sl : p.s.length = n
  ss : ∀ x ∈ p.s, x = 1 ∨ x = -1
theorem Pl.Ok.ol {n : Nat} {p : Pl} (h : p.Ok n) : p.o.length = n := by rw [h.o.length_eq, List.length_range]
theorem lnX_eq : lnX = 16777216 := rfl

theorem is_number_ok (i : Int) : F_is_number [.val (.int i)] = .ret (ovB true) [.val (.int i)] := rfl
theorem are_numbers_ok (f : α → Int) (ys : List α) (hl : ys.length ≤ lnX) : F_are_numbers [.val (.tup (ys.map fun y => .int (f y)))] = .ret (ovB true) [.val (.tup (ys.map fun y => .int (f y)))] := by
  refine mk_rt (e := [some (.val (.tup (ys.map fun y => .int (f y)))), none]) rfl (by decide) (retS_ok (andE_t rfl rfl rfl (opN_ok (args_cons (comp1m (fun y => .int (f y)) (fun _ => ovB true) ys rfl trivial (fun y _ => rfl) hl) args_nil) (vws_cons rfl vws_nil) ?_))) rfl
  rw [show (allP [.lst (ys.map fun y => (ovB true).frz)]) = some (ovB (ys.all fun _ => true)) from all_map (fun _ => true) ys]
  simp
theorem is_sign_ok (i : Int) (h : i = 1 ∨ i = -1) : F_is_sign [.val (.int i)] = .ret (ovB true) [.val (.int i)] := by
  rcases h with rfl | rfl <;> rfl
theorem are_signs_ok (ys : List Int) (hl : ys.length ≤ lnX) (hs : ∀ y ∈ ys, y = 1 ∨ y = -1) : F_are_signs [.val (rowP ys)] = .ret (ovB true) [.val (rowP ys)] := by
  refine mk_rt (e := [some (.val (rowP ys)), none]) rfl (by decide) (retS_ok (andE_t rfl rfl rfl (opN_ok (args_cons (comp1m (fun y => .int y) (fun _ => ovB true) ys rfl trivial (fun y hy => ?_) hl) args_nil) (vws_cons rfl vws_nil) ?_))) rfl
  · exact callF_ok (args_cons rfl args_nil) rfl rfl (is_sign_ok y (hs y hy)) rfl
  · rw [show (allP [.lst (ys.map fun y => (ovB true).frz)]) = some (ovB (ys.all fun _ => true)) from all_map (fun _ => true) ys]
    simp
theorem pw_range (n : Nat) : ((List.range n).map fun (k : Nat) => (k : Int)).Pairwise (· ≤ ·) := by
  rw [List.pairwise_map]
  exact (List.pairwise_lt_range (n := n)).imp fun h => by omega
theorem natL_eq (o : List Nat) : natL o = (o.map fun (k : Nat) => (k : Int)).map fun i => .int i := by simp [natL]
theorem sort_order {o : List Nat} {n : Nat} (h : o.Perm (List.range n)) (hn : n ≤ 1000) : sortO (natL o) = some (natL (List.range n)) := by
  rw [natL_eq, natL_eq]
  exact sort_int (by simp [h.length_eq, lnX_eq]; omega) (h.symm.map _) (pw_range n)
theorem rng_natL (n : Nat) : rngL 0 n = natL (List.range n) := by simp [rngL, natL]
theorem peqs_int : ∀ xs : List Int, peqs (intL xs) (intL xs) = true
  | [] => rfl
  | x :: xs => by simp [intL, peqs, peq]; exact peqs_int xs
theorem okD_ints (f : α → Int) (k : Nat) (ys : List α) : okD (k + 1) (.tup (ys.map fun y => .int (f y))) = true := by
  simp [okD, List.all_eq_true]
theorem okD_intl (f : α → Int) (k : Nat) (ys : List α) : okD (k + 1) (.lst (ys.map fun y => .int (f y))) = true := by
  simp [okD, List.all_eq_true]
theorem peqs_ints (f g : α → Int) : ∀ ys : List α, peqs (ys.map fun y => .int (f y)) (ys.map fun y => .int (g y)) = ys.all fun y => f y == g y
  | [] => rfl
  | y :: ys => by simp [peqs, peq, peqs_ints f g ys]
theorem is_order_in_ok {o : List Nat} {n : Nat} (h : o.Perm (List.range n)) (h3 : 3 ≤ n) (hn : n ≤ 1000) : F_is_order_in [.val (natsP o)] = .ret (ovB true) [.val (natsP o)] := by
  have hl : o.length = n := by rw [h.length_eq, List.length_range]
  have hlen : lenP [natsP o] = some (ovI n) := by simp [lenP, natsP, natL, hl]
  have hc : callF F_are_numbers [nm 0] [some (.val (natsP o))] = .ok (.v (ovB true)) [some (.val (natsP o))] :=
    callF_ok (args_cons rfl args_nil) rfl rfl (are_numbers_ok (fun (k : Nat) => (k : Int)) o (by rw [lnX_eq]; omega)) rfl
  refine mk_rt (e := [some (.val (natsP o))]) rfl (by decide) (retS_ok (andE_t hc rfl rfl (andE_t (op2_ok (opN_ok (args_cons rfl args_nil) (vws_cons rfl vws_nil) hlen) rfl rfl rfl (o := ovB true) ?_) rfl rfl
    (op2_ok (opN_ok (args_cons rfl args_nil) (vws_cons rfl vws_nil) (o := .ls (natL (List.range n))) ?_) (opN_ok (args_cons (opN_ok (args_cons rfl args_nil) (vws_cons rfl vws_nil) hlen) args_nil) (vws_cons rfl vws_nil) (o := .ls (natL (List.range n))) ?_) rfl rfl (o := ovB true) ?_)))) rfl
  · have : (3 : Int) ≤ (n : Int) := by omega
    simp [bop, geB, this]
  · simp only [sortedP, natsP, itemsK, Option.bind, sort_order h hn, Option.map]
  · have h1 : ((-(2 ^ 62) ≤ (0 : Int) ∧ (0 : Int) < 2 ^ 62) ∧ -(2 ^ 62) ≤ (n : Int) ∧ (n : Int) < 2 ^ 62) ∧ ((n : Int) - 0).toNat ≤ 2 ^ 24 := by omega
    simp only [rgP, rgO, if_pos h1]
    simp [rng_natL]
  · have h1 : okD 64 (.lst (natL (List.range n))) = true := okD_intl (fun (k : Nat) => (k : Int)) 63 _
    have h2 : peqs (natL (List.range n)) (natL (List.range n)) = true := by rw [natL, peqs_ints]; simp
    simp only [bop, OV.see, eqB, h1, peq, h2]
    rfl
end Bs
end
/-! file Bs2 -/
section
set_option linter.all false
set_option autoImplicit false
set_option maxRecDepth 100000
/-! Bs2: places taken apart and put together. -/
namespace Bs
open PySem hiding Env ret
open Mv Cm Bx
variable {α : Type}
theorem get_nat {o : List Nat} {a : Nat} (h : a < o.length) : getP (natsP o) (.int (a : Int)) = some (ovI ((o.getD a 0 : Nat) : Int)) := by
  have : a < (natL o).length := by simpa [natL] using h
  rw [natsP, getT this]; simp [natL, h]
theorem get_row {r : List Int} {a : Nat} (h : a < r.length) : getP (rowP r) (.int (a : Int)) = some (ovI (r.getD a 0)) := by
  have : a < (intL r).length := by simpa [intL] using h
  rw [rowP, getT this]; simp [intL, h]
theorem get_tab {t : List (List Int)} {a : Nat} (h : a < t.length) : getP (tabP t) (.int (a : Int)) = some (.val (rowP (t.getD a []))) := by
  have : a < (t.map fun r => rowP r).length := by simpa using h
  rw [tabP, getT this]; simp [h]
theorem len_nat (o : List Nat) : lenP [natsP o] = some (ovI (o.length : Nat)) := by simp [lenP, natsP, natL]
theorem len_row (o : List Int) : lenP [rowP o] = some (ovI (o.length : Nat)) := by simp [lenP, rowP, intL]
theorem len_tab (o : List (List Int)) : lenP [tabP o] = some (ovI (o.length : Nat)) := by simp [lenP, tabP]
theorem eqB_int (a b : Int) : eqB (.int a) (.int b) = some (a == b) := rfl
theorem neB_int (a b : Int) : neB (.int a) (.int b) = some (!(a == b)) := rfl
theorem is_long_ok (xs : List PV) (n : Nat) (h : xs.length = n) : F_is_long [.val (.tup xs), .val (.int (n : Int))] = .ret (ovB true) [.val (.tup xs), .val (.int (n : Int))] := by
  refine mk_rt (e := [some (.val (.tup xs)), some (.val (.int (n : Int)))]) rfl (by decide) (retS_ok (andE_t rfl rfl rfl (op2_ok (opN_ok (args_cons rfl args_nil) (vws_cons rfl vws_nil) rfl) rfl rfl rfl (o := ovB true) ?_))) rfl
  simp only [bop, OV.see, eqB_int, h]; simp
theorem is_place_in_ok {n : Nat} {p : Pl} (h : p.Ok n) (h3 : 3 ≤ n) (hn : n ≤ 1000) : F_is_place_in [.val p.pv] = .ret (ovB true) [.val p.pv] := by
  have hlx := lnX_eq
  have hol := h.ol
  have e0 : op2 getP (nm 0) (cst (.int 0)) [some (.val p.pv), none, none] = .ok (.v (.val (natsP p.o))) [some (.val p.pv), none, none] := rfl
  have c1 : callF F_is_order_in [op2 getP (nm 0) (cst (.int 0))] [some (.val p.pv), none, none] = .ok (.v (ovB true)) [some (.val p.pv), none, none] :=
    callF_ok (args_cons rfl args_nil) rfl rfl (is_order_in_ok h.o h3 hn) rfl
  have c2 : callF F_are_signs [op2 getP (nm 0) (cst (.int 2))] [some (.val p.pv), none, none] = .ok (.v (ovB true)) [some (.val p.pv), none, none] :=
    callF_ok (args_cons rfl args_nil) rfl rfl (are_signs_ok p.s (by rw [h.sl]; omega) h.ss) rfl
  refine mk_rt (e := [some (.val p.pv), some (ovI (n : Nat)), none]) rfl (by decide) ?_ rfl
  have c0 : callF F_is_long [nm 0, cst (.int 3)] [some (.val p.pv), none, none] = .ok (.v (ovB true)) [some (.val p.pv), none, none] :=
    callF_ok (rs := [.v (.val p.pv), .v (ovI 3)]) (args_cons rfl (args_cons rfl args_nil)) rfl rfl (is_long_ok [natsP p.o, tabP p.t, rowP p.s] 3 rfl) rfl
  refine seq_nx (ifS_f (tOr_f (tNot_t (tst_ok c0 rfl rfl)) (tOr_f (tNot_t (tst_ok c1 rfl rfl)) (tNot_t (tst_ok c2 rfl rfl)))) rfl) ?_
  refine seq_nx (asgS_ok (o := ovI (n : Nat)) (opN_ok (args_cons rfl args_nil) (vws_cons rfl vws_nil) (o := ovI (n : Nat)) (by rw [← hol]; exact len_nat p.o)) rfl rfl) ?_
  refine seq_nx (ifS_f (tOr_f (tstB_ok (op2_ok (opN_ok (args_cons rfl args_nil) (vws_cons rfl vws_nil) (len_row p.s)) rfl rfl rfl (o := ovB false) ?_) rfl) (tNot_t (tst_ok (callF_ok (args_cons rfl (args_cons (op2_ok rfl rfl rfl rfl (o := ovI ((n - 1 : Nat) : Int)) ?_) args_nil)) rfl rfl (is_long_ok (p.t.map fun r => rowP r) (n - 1) (by simpa using h.tl)) rfl) rfl rfl))) rfl) ?_
  · simp only [bop, OV.see, neB_int, h.sl]; simp
  · simp only [subP]; congr 3; omega
  refine retS_ok (opN_ok (args_cons (comp1m (fun r => rowP r) (fun _ => ovB true) p.t rfl trivial (fun r hr => ?_) (by rw [h.tl]; omega)) args_nil) (vws_cons rfl vws_nil) ?_)
  · refine andE_t (callF_ok (args_cons rfl args_nil) rfl rfl (are_numbers_ok (fun i => i) r (by rw [h.tr r hr]; omega)) rfl) rfl rfl (op2_ok (opN_ok (args_cons rfl args_nil) (vws_cons rfl vws_nil) (len_row r)) rfl rfl rfl (o := ovB true) ?_)
    simp only [bop, OV.see, eqB_int, h.tr r hr]; simp
  · rw [show (allP [.lst (p.t.map fun y => (ovB true).frz)]) = some (ovB (p.t.all fun _ => true)) from all_map (fun _ => true) p.t]
    simp
/-! ### tupled -/
def Tpd (k : Nat) (p q : PV) : Prop := F_tupled k [.val p] = .ret (.val q) [.val p]
theorem tpd_int (k : Nat) (i : Int) : Tpd (k + 1) (.int i) (.int i) := rfl
theorem tpd_str (k : Nat) (s : Str) : Tpd (k + 1) (.str s) (.str s) := rfl
theorem tpd_tup (k : Nat) (f : PV → PV) (xs : List PV) (hl : xs.length ≤ lnX) (h : ∀ p ∈ xs, Tpd k p (f p)) : Tpd (k + 1) (.tup xs) (.tup (xs.map f)) := by
  refine mk_rt (e := [some (.val (.tup xs)), none]) rfl (by decide) (retS_ok (ifE_t (tst_ok rfl rfl rfl) (opN_ok (args_cons (comp1m (e := [some (.val (.tup xs)), none]) id (fun p => .val (f p)) xs (by rw [List.map_id]; rfl) trivial (fun p hp => ?_) hl) args_nil) (vws_cons rfl vws_nil) rfl))) rfl
  exact callF_ok (args_cons rfl args_nil) rfl rfl (h p hp) rfl
theorem tpd_lst (k : Nat) (f : PV → PV) (xs : List PV) (hl : xs.length ≤ lnX) (h : ∀ p ∈ xs, Tpd k p (f p)) : Tpd (k + 1) (.lst xs) (.tup (xs.map f)) := by
  refine mk_rt (e := [some (.val (.lst xs)), none]) rfl (by decide) (retS_ok (ifE_t (tst_ok rfl rfl rfl) (opN_ok (args_cons (comp1m (e := [some (.val (.lst xs)), none]) id (fun p => .val (f p)) xs (by rw [List.map_id]; rfl) trivial (fun p hp => ?_) hl) args_nil) (vws_cons rfl vws_nil) rfl))) rfl
  exact callF_ok (args_cons rfl args_nil) rfl rfl (h p hp) rfl
theorem tupled_ls (k : Nat) (f : PV → PV) (xs : List PV) (hl : xs.length ≤ lnX) (h : ∀ p ∈ xs, Tpd k p (f p)) : F_tupled (k + 1) [.ls xs] = .ret (.val (.tup (xs.map f))) [.val (.lst xs)] := by
  refine mk_rt (e := [some (.val (.lst xs)), none]) rfl (by decide) (retS_ok (ifE_t (tst_ok (e1 := [some (.ls xs), none]) rfl rfl rfl) (opN_ok (args_cons (comp1m (e := [some (.val (.lst xs)), none]) id (fun p => .val (f p)) xs (by rw [List.map_id]; rfl) trivial (fun p hp => ?_) hl) args_nil) (vws_cons rfl vws_nil) rfl))) rfl
  exact callF_ok (args_cons rfl args_nil) rfl rfl (h p hp) rfl
theorem tp_tup (k : Nat) (xs : List PV) (hl : xs.length ≤ lnX) (h : ∀ p ∈ xs, Tpd k p p) : Tpd (k + 1) (.tup xs) (.tup xs) := by
  have := tpd_tup k id xs hl h
  rwa [List.map_id] at this
theorem tp_ints (k : Nat) (f : α → Int) (xs : List α) (hl : xs.length ≤ lnX) : Tpd (k + 2) (.tup (xs.map fun y => .int (f y))) (.tup (xs.map fun y => .int (f y))) := by
  refine tp_tup (k + 1) _ (by simpa using hl) fun p hp => ?_
  simp only [List.mem_map] at hp
  obtain ⟨y, _, rfl⟩ := hp
  exact tpd_int k _
theorem tp_pl {n : Nat} {p : Pl} (h : p.Ok n) (hn : n ≤ 1000) (k : Nat) : Tpd (k + 4) p.pv p.pv := by
  have hlx := lnX_eq
  have hol := h.ol
  have hx : ∀ q ∈ [natsP p.o, tabP p.t, rowP p.s], Tpd (k + 3) q q := by
    intro q hq
    simp only [List.mem_cons, List.not_mem_nil, or_false] at hq
    rcases hq with rfl | rfl | rfl
    · exact tp_ints (k + 1) _ p.o (by omega)
    · refine tp_tup (k + 2) _ (by rw [List.length_map, h.tl]; omega) fun r hr => ?_
      simp only [List.mem_map] at hr
      obtain ⟨r, hr, rfl⟩ := hr
      exact tp_ints k (fun i => i) r (by rw [h.tr r hr]; omega)
    · exact tp_ints (k + 1) (fun i => i) p.s (by rw [h.sl]; omega)
  exact tp_tup (k + 3) _ (by simp [lnX_eq]) hx
theorem sure_place_ok {n : Nat} {p : Pl} (h : p.Ok n) (h3 : 3 ≤ n) (hn : n ≤ 1000) {q : PV} (hq : Tpd 12 q p.pv) : F_sure_place [.val q] = .ret (.val p.pv) [.val q] := by
  refine mk_rt (e := [some (.val q), some (.val p.pv)]) rfl (by decide) ?_ rfl
  refine seq_nx (asgS_ok (callF_ok (args_cons rfl args_nil) rfl rfl hq rfl) rfl rfl) ?_
  exact seq_nx (ifS_f (tNot_t (tst_ok (callF_ok (args_cons rfl args_nil) rfl rfl (is_place_in_ok h h3 hn) rfl) rfl rfl)) rfl) rfl
theorem sure_place_pl {n : Nat} {p : Pl} (h : p.Ok n) (h3 : 3 ≤ n) (hn : n ≤ 1000) : F_sure_place [.val p.pv] = .ret (.val p.pv) [.val p.pv] := sure_place_ok h h3 hn (tp_pl h hn 8)
theorem sure_order_ok {o : List Nat} {n : Nat} (h : o.Perm (List.range n)) (h3 : 3 ≤ n) (hn : n ≤ 1000) : F_sure_order [.val (natsP o)] = .ret (.val (natsP o)) [.val (natsP o)] := by
  have hl : o.length = n := by rw [h.length_eq, List.length_range]
  refine mk_rt (e := [some (.val (natsP o)), some (.val (natsP o))]) rfl (by decide) ?_ rfl
  refine seq_nx (asgS_ok (callF_ok (args_cons rfl args_nil) rfl rfl (tp_ints 10 _ o (by rw [lnX_eq]; omega)) rfl) rfl rfl) ?_
  exact seq_nx (ifS_f (tNot_t (tst_ok (callF_ok (args_cons rfl args_nil) rfl rfl (is_order_in_ok h h3 hn) rfl) rfl rfl)) rfl) rfl
theorem sure_order_ls {o : List Nat} {n : Nat} (h : o.Perm (List.range n)) (h3 : 3 ≤ n) (hn : n ≤ 1000) : F_sure_order [.ls (natL o)] = .ret (.val (natsP o)) [.val (.lst (natL o))] := by
  have hl : o.length = n := by rw [h.length_eq, List.length_range]
  have ht : F_tupled 12 [.ls (natL o)] = .ret (.val (natsP o)) [.val (.lst (natL o))] := by
    have := tupled_ls 11 id (natL o) (by simp [natL, lnX_eq]; omega) (by
      intro p hp
      simp only [natL, List.mem_map] at hp
      obtain ⟨y, _, rfl⟩ := hp
      exact tpd_int 10 _)
    rwa [List.map_id] at this
  refine mk_rt (e := [some (.val (.lst (natL o))), some (.val (natsP o))]) rfl (by decide) ?_ rfl
  refine seq_nx (asgS_ok (callF_ok (args_cons rfl args_nil) rfl rfl ht rfl) rfl rfl) ?_
  exact seq_nx (ifS_f (tNot_t (tst_ok (callF_ok (args_cons rfl args_nil) rfl rfl (is_order_in_ok h h3 hn) rfl) rfl rfl)) rfl) rfl
end Bs
end
/-! file Bs3 -/
section
set_option linter.all false
set_option autoImplicit false
set_option maxRecDepth 100000
/-! Bs3: one step of a box. -/
namespace Bs
open PySem hiding Env ret
open Mv Cm Bx
variable {α : Type}
def addAt (r : List Int) (p : Nat × Int) : List Int := r.set p.1 (r.getD p.1 0 + p.2)
def pairP (p : Nat × Int) : PV := .tup [.int (p.1 : Nat), .int p.2]
theorem addAt_len (r : List Int) (p : Nat × Int) : (addAt r p).length = r.length := by simp [addAt]
theorem gL_row {x : Nat} {fi : SE RV} {e e2 : Env} {q : RV} {a : Nat} {r : List Int} {d : Int} {put : List (PV × PV) → PV → PV → Option (List (PV × PV))} (h0 : e[x]? = some (some (.ls (intL r)))) (h1 : fi e = .ok q e) (h2 : view q e = some (.int (a : Nat))) (h4 : a < r.length)
    (h5 : e.set x (some (.ls (intL (r.set a d)))) = e2) : gL put x fi (.int d) e = .nx e2 := by
  refine gL_ls h0 h1 h2 h0 (by simpa [intL] using h4) ?_
  rw [← h5]; simp [intL, List.map_set]
theorem added_ok (r : List Int) (ps : List (Nat × Int)) (h : ∀ p ∈ ps, p.1 < r.length) :
    F_added [.val (rowP r), .val (.tup (ps.map pairP))] = .ret (.val (rowP (ps.foldl addAt r))) [.val (rowP r), .val (.tup (ps.map pairP))] := by
  have hI := forL_fold (gt := gT [gN 3, gN 4]) (body := asgG (gL putO 2 (nm 3)) (op2 addP (op2 getP (nm 2) (nm 3)) (nm 4))) pairP
    (fun (s : List Int) e => s.length = r.length ∧ ∃ x3 x4, e = [some (.val (rowP r)), some (.val (.tup (ps.map pairP))), some (.ls (intL s)), x3, x4]) addAt ps r
    [some (.val (rowP r)), some (.val (.tup (ps.map pairP))), some (.ls (intL r)), none, none] (by
      rintro ⟨a, d⟩ hy s e ⟨hs, x3, x4, rfl⟩
      have ha : a < s.length := by rw [hs]; exact h _ hy
      refine ⟨[some (.val (rowP r)), some (.val (.tup (ps.map pairP))), some (.ls (intL s)), some (.val (.int (a : Nat))), some (.val (.int d))],
        [some (.val (rowP r)), some (.val (.tup (ps.map pairP))), some (.ls (intL (addAt s (a, d)))), some (.val (.int (a : Nat))), some (.val (.int d))], rfl, ?_, ?_⟩
      · refine asgG_ok (op2_ok (op2_ok rfl rfl rfl rfl (o := ovI (s.getD a 0)) ?_) rfl rfl rfl rfl) rfl ?_
        · have hl : a < (intL s).length := by simpa [intL] using ha
          have := getL hl
          rw [this]; simp [intL, ha]
        · exact gL_row rfl rfl rfl ha rfl
      · exact ⟨by rw [addAt_len]; exact hs, _, _, rfl⟩) ⟨rfl, none, none, rfl⟩
  obtain ⟨e', h1, hs, x3, x4, rfl⟩ := hI
  refine mk_rt (e := [some (.val (rowP r)), some (.val (.tup (ps.map pairP))), some (.ls (intL (ps.foldl addAt r))), x3, x4]) rfl (by decide) ?_ rfl
  exact seq_nx (asgS_ok (opN_ok (args_cons rfl args_nil) (vws_cons rfl vws_nil) rfl) rfl rfl) (seq_nx (forS_ok (srcE_tup rfl rfl) h1) rfl)
/-- two places exchanged -/
def exch (o : List Nat) (a b : Nat) : List Nat := (o.set a (o.getD b 0)).set b (o.getD a 0)
theorem exch_natL (o : List Nat) (a b : Nat) : ((natL o).set a (.int (o.getD b 0 : Nat))).set b (.int (o.getD a 0 : Nat)) = natL (exch o a b) := by
  simp [natL, exch, List.map_set]
theorem exchanged_ok (o : List Nat) (a b : Nat) (ha : a < o.length) (hb : b < o.length) :
    F_exchanged_at [.val (natsP o), .val (.int (a : Nat)), .val (.int (b : Nat))] = .ret (.val (natsP (exch o a b))) [.val (natsP o), .val (.int (a : Nat)), .val (.int (b : Nat))] := by
  rw [natsP.eq_1 (exch o a b), ← exch_natL]
  refine mk_rt (e := [some (.val (natsP o)), some (.val (.int (a : Nat))), some (.val (.int (b : Nat))), some (.ls (((natL o).set a (.int (o.getD b 0 : Nat))).set b (.int (o.getD a 0 : Nat))))]) rfl (by decide) ?_ rfl
  refine seq_nx (asgS_ok (opN_ok (args_cons rfl args_nil) (vws_cons rfl vws_nil) rfl) rfl rfl) ?_
  refine seq_nx (asgG_ok (tupD_ok (args_cons (op2_ok rfl rfl rfl rfl (get_nat hb)) (args_cons (op2_ok rfl rfl rfl rfl (get_nat ha)) args_nil)) (escs_cons rfl (escs_cons rfl escs_nil))) rfl
    (gT_2 (gL_ls rfl rfl rfl rfl (by simpa [natL] using ha) rfl) (gL_ls rfl rfl rfl rfl (by simpa [natL] using hb) rfl))) ?_
  exact retS_ok (opN_ok (args_cons rfl args_nil) (vws_cons rfl vws_nil) rfl)
/-- one sign turned -/
def negAt (s : List Int) (i : Nat) : List Int := s.set i (0 - s.getD i 0)
theorem negAt_eq (s : List Int) (i : Nat) : negAt s i = s.zipIdx.map fun z => if z.2 = i then 0 - z.1 else z.1 := by
  apply List.ext_getElem
  · simp [negAt]
  · intro k h1 h2
    simp only [negAt, List.getElem_set, List.getElem_map, List.getElem_zipIdx, Nat.zero_add]
    have hk : k < s.length := by simpa [negAt] using h1
    by_cases h : i = k
    · subst h; simp [hk]
    · have h' : ¬ k = i := fun x => h x.symm
      simp [h, h']
theorem turned_sign_ok (s : List Int) (i : Nat) (hl : s.length ≤ lnX) : F_turned_sign [.val (rowP s), .val (.int (i : Nat))] = .ret (.val (rowP (negAt s i))) [.val (rowP s), .val (.int (i : Nat))] := by
  rw [negAt_eq]
  refine mk_rt (e := [some (.val (rowP s)), some (.val (.int (i : Nat))), none, none]) rfl (by decide) (retS_ok (opN_ok (args_cons
    (comp2m (e := [some (.val (rowP s)), some (.val (.int (i : Nat))), none, none]) (fun z => .int ((z.2 : Nat) : Int)) (fun z => .int z.1) (fun z => ovI (if z.2 = i then 0 - z.1 else z.1)) s.zipIdx (by decide) ?_ trivial trivial (fun z _ => ?_) (by simpa using hl)) args_nil) (vws_cons rfl vws_nil) ?_)) rfl
  · rw [← enum_map (fun (x : Int) => .int x) s 0]; exact srcN_tup rfl rfl
  · by_cases h : z.2 = i
    · rw [if_pos h]
      refine ifE_t (tstB_ok (op2_ok rfl rfl rfl rfl (o := ovB true) ?_) rfl) rfl
      simp only [bop, OV.see, eqB_int, h]; simp
    · rw [if_neg h]
      refine ifE_f (tstB_ok (op2_ok rfl rfl rfl rfl (o := ovB false) ?_) rfl) rfl
      have : ((z.2 : Int) == (i : Int)) = false := by simp; omega
      simp only [bop, OV.see, eqB_int, this]; rfl
  · simp [tupleP, rowP, intL]
theorem slP_tab (t : List (List Int)) (lo hi : Option Int) : slP (tabP t) lo hi = some (.val (.tup (cutP (t.map fun r => rowP r) lo hi))) := rfl
theorem cutP_to {β : Type} (xs : List PV) (a : Nat) (h : a ≤ xs.length) : cutP xs none (some (a : Int)) = xs.take a := by
  have h0 : ¬ ((a : Int) < 0) := by omega
  simp [cutP, sIxP, h0]
theorem cutP_from {β : Type} (xs : List PV) (a : Nat) (h : a ≤ xs.length) : cutP xs (some (a : Int)) none = xs.drop a := by
  have h0 : ¬ ((a : Int) < 0) := by omega
  simp only [cutP, sIxP, if_neg h0, Int.toNat_natCast, Nat.min_eq_left h]
  exact List.take_of_length_le (by simp)
theorem with_row_ok (t : List (List Int)) (a : Nat) (r : List Int) (h : a < t.length) (hl : t.length ≤ 1000) : F_with_row [.val (tabP t), .val (.int (a : Nat)), .val (rowP r)] = .ret (.val (tabP (t.set a r))) [.val (tabP t), .val (.int (a : Nat)), .val (rowP r)] := by
  have hx := lnX_eq
  have h1 : slP (tabP t) none (some (a : Int)) = some (.val (.tup ((t.map fun r => rowP r).take a))) := by rw [slP_tab, cutP_to (β := Unit) _ _ (by simp; omega)]
  have h2 : slP (tabP t) (some ((a : Int) + 1)) none = some (.val (.tup ((t.map fun r => rowP r).drop (a + 1)))) := by
    rw [slP_tab, show (a : Int) + 1 = ((a + 1 : Nat) : Int) by omega, cutP_from (β := Unit) _ _ (by simp; omega)]
  have s1 : slE (nm 0) noP (prtP (nm 1)) [some (.val (tabP t)), some (.val (.int (a : Nat))), some (.val (rowP r))] = .ok (.v (.val (.tup ((t.map fun r => rowP r).take a)))) [some (.val (tabP t)), some (.val (.int (a : Nat))), some (.val (rowP r))] := by
    rw [show (OV.val (PV.tup ((t.map fun r => rowP r).take a))) = _ from rfl]
    simp only [slE, bnd, nm, noP, prtP, Mv.ret, vw, view, OV.see, List.getElem?_cons_zero, List.getElem?_cons_succ, h1, ofO]
  have s2 : slE (nm 0) (prtP (op2 addP (nm 1) (cst (.int 1)))) noP [some (.val (tabP t)), some (.val (.int (a : Nat))), some (.val (rowP r))] = .ok (.v (.val (.tup ((t.map fun r => rowP r).drop (a + 1))))) [some (.val (tabP t)), some (.val (.int (a : Nat))), some (.val (rowP r))] := by
    simp only [slE, bnd, op2, nm, noP, cst, addP, prtP, Mv.ret, vw, view, OV.see, List.getElem?_cons_zero, List.getElem?_cons_succ, ofO, ovI, h2]
  refine mk_rt (e := [some (.val (tabP t)), some (.val (.int (a : Nat))), some (.val (rowP r))]) rfl (by decide) ?_ rfl
  refine retS_ok (op2_ok (op2_ok s1 (tupD_ok (args_cons rfl args_nil) (escs_cons rfl escs_nil)) rfl rfl (o := .val (.tup ((t.map fun r => rowP r).take a ++ [rowP r]))) ?_) s2 rfl rfl ?_)
  · have : ((t.map fun r => rowP r).take a).length + [rowP r].length ≤ lnX := by simp; omega
    simp only [addP, OV.frz]; rw [if_pos this]
  · have : ((t.map fun r => rowP r).take a ++ [rowP r]).length + ((t.map fun r => rowP r).drop (a + 1)).length ≤ lnX := by simp; omega
    simp only [addP]; rw [if_pos this, tabP, List.map_set, List.set_eq_take_append_cons_drop]
    simp [h]
/-! ### steps -/
inductive Sp where
  | tip (a : Nat) (w : Int)
  | turn (a b : Nat) (u v h : Int)
def Sp.pv : Sp → PV
  | .tip a w => .tup [.str "tip", .int (a : Nat), .int w]
  | .turn a b u v h => .tup [.str "turn", .int (a : Nat), .int (b : Nat), .int u, .int v, .int h]
def sg (i : Int) : Prop := i = 1 ∨ i = -1
def Sp.Ok (n : Nat) : Sp → Prop
  | .tip a w => a < n - 1 ∧ sg w
  | .turn a b u v h => a < b ∧ b < n - 1 ∧ sg u ∧ sg v ∧ sg h
def Pl.step (p : Pl) : Sp → Pl
  | .tip a w => ⟨exch p.o a (p.o.length - 1), p.t.set a (addAt (addAt (p.t.getD a []) (p.o.getD a 0, w)) (p.o.getD (p.o.length - 1) 0, w)), negAt p.s (if w = 1 then p.o.getD a 0 else p.o.getD (p.o.length - 1) 0)⟩
  | .turn a b u v h => ⟨exch p.o a b, (p.t.set a (addAt (addAt (p.t.getD a []) (p.o.getD a 0, u)) (p.o.getD b 0, h * v))).set b (addAt (addAt (p.t.getD b []) (p.o.getD a 0, 0 - h * u)) (p.o.getD b 0, v)), negAt p.s (if h = 1 then p.o.getD b 0 else p.o.getD a 0)⟩
theorem exch_len (o : List Nat) (a b : Nat) : (exch o a b).length = o.length := by simp [exch]
theorem exch_perm {o : List Nat} {a b : Nat} (ha : a < o.length) (hb : b < o.length) : (exch o a b).Perm o := by
  rw [List.perm_iff_count]
  intro x
  have hva : o.getD a 0 = o[a] := by simp [ha]
  have hvb : o.getD b 0 = o[b] := by simp [hb]
  have hb' : b < (o.set a (o.getD b 0)).length := by simpa using hb
  have hg : (o.set a (o.getD b 0))[b] = o[b] := by
    rw [List.getElem_set]; split
    · exact hvb
    · rfl
  rw [exch, List.count_set hb', hg, List.count_set ha, hva, hvb]
  have hpos : (o[a] == x) = true → 0 < List.count x o := by
    intro h
    rw [List.count_pos_iff]
    rw [beq_iff_eq] at h
    rw [← h]; exact List.getElem_mem ha
  cases h1 : (o[a] == x) <;> cases h2 : (o[b] == x) <;> simp_all <;> omega
theorem mem_lt {o : List Nat} {n : Nat} (h : o.Perm (List.range n)) {a : Nat} (ha : a < n) : o.getD a 0 < n := by
  have hl : o.length = n := by rw [h.length_eq, List.length_range]
  have hm : o.getD a 0 ∈ o := by
    have : a < o.length := by omega
    simp [this]
  exact List.mem_range.1 (h.mem_iff.1 hm)
theorem foldl_addAt_len (ps : List (Nat × Int)) : ∀ r : List Int, (ps.foldl addAt r).length = r.length := by
  induction ps with
  | nil => intro r; rfl
  | cons p ps ih => intro r; rw [List.foldl_cons, ih, addAt_len]
theorem negAt_ok {n : Nat} {s : List Int} (i : Nat) (hl : s.length = n) (hs : ∀ x ∈ s, x = 1 ∨ x = -1) : (negAt s i).length = n ∧ ∀ x ∈ negAt s i, x = 1 ∨ x = -1 := by
  refine ⟨by simp [negAt, hl], fun x hx => ?_⟩
  rw [negAt_eq] at hx
  simp only [List.mem_map] at hx
  obtain ⟨⟨y, k⟩, hz, rfl⟩ := hx
  have hy : y ∈ s := (List.mem_zipIdx' hz).2 ▸ List.getElem_mem _
  have := hs y hy
  by_cases h : k = i
  · simp only [if_pos h]; omega
  · simp only [if_neg h]; exact this
theorem tab_len {n : Nat} {t : List (List Int)} (hr : ∀ r ∈ t, r.length = n) {a : Nat} (ha : a < t.length) : (t.getD a []).length = n := by
  refine hr _ ?_
  simp [ha]
theorem set_rows {n : Nat} {t : List (List Int)} (hr : ∀ r ∈ t, r.length = n) (a : Nat) {r : List Int} (h : r.length = n) : ∀ x ∈ t.set a r, x.length = n := by
  intro x hx
  rcases List.mem_or_eq_of_mem_set hx with h1 | h1
  · exact hr x h1
  · rw [h1]; exact h
theorem step_ok {n : Nat} {p : Pl} {s : Sp} (h : p.Ok n) (hs : s.Ok n) (h3 : 3 ≤ n) : (p.step s).Ok n := by
  have hol := h.ol
  cases s with
  | tip a w =>
    obtain ⟨ha, hw⟩ := hs
    have hn := negAt_ok (if w = 1 then p.o.getD a 0 else p.o.getD (p.o.length - 1) 0) h.sl h.ss
    refine ⟨(exch_perm (by omega) (by omega)).trans h.o, by simp [Pl.step, h.tl], ?_, hn.1, hn.2⟩
    exact set_rows h.tr a (by simp [addAt_len]; simpa using tab_len h.tr (a := a) (by rw [h.tl]; omega))
  | turn a b u v hh =>
    obtain ⟨hab, hb, hu, hv, hw⟩ := hs
    have hn := negAt_ok (if hh = 1 then p.o.getD b 0 else p.o.getD a 0) h.sl h.ss
    refine ⟨(exch_perm (by omega) (by omega)).trans h.o, by simp [Pl.step, h.tl], ?_, hn.1, hn.2⟩
    refine set_rows (set_rows h.tr a ?_) b ?_
    · simp [addAt_len]; simpa using tab_len h.tr (a := a) (by rw [h.tl]; omega)
    · simp [addAt_len]; simpa using tab_len h.tr (a := b) (by rw [h.tl]; omega)
theorem if_sign {E : Env} {i j k x y : Nat} {w : Int} (h0 : E[i]? = some (some (ovI w))) (h1 : E[j]? = some (some (ovI (x : Nat)))) (h2 : E[k]? = some (some (ovI (y : Nat)))) :
    ifE (tstB (op2 (bop eqB) (nm i) (cst (.int 1)))) (nm j) (nm k) E = .ok (.v (ovI ((if w = 1 then x else y : Nat) : Int))) E := by
  by_cases h : w = 1
  · rw [if_pos h]
    refine ifE_t (tstB_ok (op2_ok (nm_val h0) rfl rfl rfl (o := ovB true) ?_) rfl) (nm_val h1)
    rw [h]; rfl
  · rw [if_neg h]
    refine ifE_f (tstB_ok (op2_ok (nm_val h0) rfl rfl rfl (o := ovB false) ?_) rfl) (nm_val h2)
    have : (w == 1) = false := by simpa using h
    simp only [bop, OV.see, eqB_int, this]; rfl
theorem tipped_ok {n : Nat} {p : Pl} {a : Nat} {w : Int} (h : p.Ok n) (hs : (Sp.tip a w).Ok n) (h3 : 3 ≤ n) (hn : n ≤ 1000) :
    F_tipped_in [.val p.pv, .val (.int (a : Nat)), .val (.int w)] = .ret (.val (p.step (.tip a w)).pv) [.val p.pv, .val (.int (a : Nat)), .val (.int w)] := by
  have hlx := lnX_eq
  have hol := h.ol
  obtain ⟨ha, hw⟩ := hs
  have hta : (p.t.getD a []).length = n := tab_len h.tr (by rw [h.tl]; omega)
  have hi := mem_lt h.o (a := a) (by omega)
  have hk := mem_lt h.o (a := n - 1) (by omega)
  rw [Pl.step, hol]
  refine mk_rt (e := [some (.val p.pv), some (.val (.int (a : Nat))), some (.val (.int w)), some (.val (natsP p.o)), some (.val (tabP p.t)), some (.val (rowP p.s)), some (ovI ((n - 1 : Nat) : Int)), some (ovI (p.o.getD a 0 : Nat)), some (ovI (p.o.getD (n - 1) 0 : Nat)),
    some (.val (rowP (addAt (addAt (p.t.getD a []) (p.o.getD a 0, w)) (p.o.getD (n - 1) 0, w)))), some (.val (rowP (negAt p.s (if w = 1 then p.o.getD a 0 else p.o.getD (n - 1) 0))))]) rfl (by decide) ?_ rfl
  refine seq_nx (asgG_ok rfl rfl (u := .nx [some (.val p.pv), some (.val (.int (a : Nat))), some (.val (.int w)), some (.val (natsP p.o)), some (.val (tabP p.t)), some (.val (rowP p.s)), none, none, none, none, none]) rfl) ?_
  refine seq_nx (asgS_ok (op2_ok (opN_ok (args_cons rfl args_nil) (vws_cons rfl vws_nil) (len_nat p.o)) rfl rfl rfl (o := ovI ((n - 1 : Nat) : Int)) ?_) rfl rfl) ?_
  · simp only [subP, OV.see]; congr 3; omega
  refine seq_nx (parS_ok (args_cons (op2_ok rfl rfl rfl rfl (get_nat (by omega : a < p.o.length))) (args_cons (op2_ok rfl rfl rfl rfl (get_nat (by omega : n - 1 < p.o.length))) args_nil)) rfl rfl) ?_
  refine seq_nx (asgS_ok (callF_ok (rs := [.v (.val (rowP (p.t.getD a []))), .v (.val (.tup ([(p.o.getD a 0, w), (p.o.getD (n - 1) 0, w)].map pairP)))]) (args_cons (op2_ok rfl rfl rfl rfl (get_tab (by rw [h.tl]; omega))) (args_cons (tupD_ok (args_cons (tupD_ok (args_cons rfl (args_cons rfl args_nil)) (escs_cons rfl (escs_cons rfl escs_nil))) (args_cons (tupD_ok (args_cons rfl (args_cons rfl args_nil)) (escs_cons rfl (escs_cons rfl escs_nil))) args_nil)) (escs_cons rfl (escs_cons rfl escs_nil))) args_nil)) rfl rfl
    (added_ok (p.t.getD a []) [(p.o.getD a 0, w), (p.o.getD (n - 1) 0, w)] ?_) rfl) rfl rfl) ?_
  · intro q hq
    simp only [List.mem_cons, List.not_mem_nil, or_false] at hq
    rcases hq with rfl | rfl
    · rw [hta]; exact hi
    · rw [hta]; exact hk
  refine seq_nx (asgS_ok (callF_ok (rs := [.v (.val (rowP p.s)), .v (ovI ((if w = 1 then p.o.getD a 0 else p.o.getD (n - 1) 0 : Nat) : Int))]) (args_cons rfl (args_cons (if_sign rfl rfl rfl) args_nil)) rfl rfl (turned_sign_ok p.s (if w = 1 then p.o.getD a 0 else p.o.getD (n - 1) 0) (by rw [h.sl]; omega)) rfl) rfl rfl) ?_
  refine retS_ok (tupD_ok (args_cons (callF_ok (rs := [.v (.val (natsP p.o)), .v (ovI (a : Nat)), .v (ovI ((n - 1 : Nat) : Int))]) (args_cons rfl (args_cons rfl (args_cons rfl args_nil))) rfl rfl (exchanged_ok p.o a (n - 1) (by omega) (by omega)) rfl)
    (args_cons (callF_ok (rs := [.v (.val (tabP p.t)), .v (ovI (a : Nat)), .v (.val (rowP (addAt (addAt (p.t.getD a []) (p.o.getD a 0, w)) (p.o.getD (n - 1) 0, w))))]) (args_cons rfl (args_cons rfl (args_cons rfl args_nil))) rfl rfl (with_row_ok p.t a _ (by rw [h.tl]; omega) (by rw [h.tl]; omega)) rfl) (args_cons rfl args_nil))) rfl)
end Bs
end
/-! file Bs4 -/
section
set_option linter.all false
set_option autoImplicit false
set_option maxRecDepth 100000
/-! Bs4: steps, rows of steps. -/
namespace Cm
open PySem hiding Env ret
open Mv
variable {e e1 e2 e3 e4 : Env} {r q t s : RV} {x y y' z z' u : PV} {f g h k : SE RV} {b : Bool} {op op' op'' : PV → PV → Option Bool}
theorem chE_t (h1 : f e = .ok r e1) (h2 : g e1 = .ok q e2) (h3 : view r e2 = some x) (h4 : view q e2 = some y) (h5 : op x y = some true) (h6 : h e2 = .ok t e3) (h7 : view q e3 = some y') (h8 : view t e3 = some z) (h9 : op' y' z = some b) :
    chE op op' f g h e = .ok (.v (ovB b)) e3 := by
  simp only [chE, bnd, h1, h2, vw, h3, h4, ofO, h5, Mv.ret, if_true, h6, h7, h8, h9]
theorem chE3_t (h1 : f e = .ok r e1) (h2 : g e1 = .ok q e2) (h3 : view r e2 = some x) (h4 : view q e2 = some y) (h5 : op x y = some true) (h6 : h e2 = .ok t e3) (h7 : view q e3 = some y') (h8 : view t e3 = some z) (h9 : op' y' z = some true)
    (h10 : k e3 = .ok s e4) (h11 : view t e4 = some z') (h12 : view s e4 = some u) (h13 : op'' z' u = some b) : chE3 op op' op'' f g h k e = .ok (.v (ovB b)) e4 := by
  simp only [chE3, bnd, h1, h2, vw, h3, h4, ofO, h5, Mv.ret, if_true, h6, h7, h8, h9, h10, h11, h12, h13]
theorem slE_ok {l m : SE (Option Int)} {i j : Option Int} {o : OV} (h1 : f e = .ok r e1) (h2 : l e1 = .ok i e2) (h3 : m e2 = .ok j e3) (h4 : view r e3 = some x) (h5 : slP x i j = some o) : slE f l m e = .ok (.v o) e3 := by
  simp only [slE, bnd, h1, h2, h3, vw, h4, ofO, h5, Mv.ret]
theorem prt_ok {i : Int} (h1 : f e = .ok r e1) (h2 : view r e1 = some (.int i)) : prtP f e = .ok (some i) e1 := by
  simp only [prtP, bnd, h1, vw, h2, Mv.ret]
end Cm
namespace Bs
open PySem hiding Env ret
open Mv Cm Bx
variable {α : Type}
theorem mul_sg {i j : Int} (h : sg i) : mulP (.int i) (.int j) = some (ovI (i * j)) := by
  rcases h with rfl | rfl <;> rfl
theorem turned_ok {n : Nat} {p : Pl} {a b : Nat} {u v w : Int} (h : p.Ok n) (hs : (Sp.turn a b u v w).Ok n) (h3 : 3 ≤ n) (hn : n ≤ 1000) :
    F_turned_in [.val p.pv, .val (.tup [.int (a : Nat), .int (b : Nat), .int u, .int v, .int w])] = .ret (.val (p.step (.turn a b u v w)).pv) [.val p.pv, .val (.tup [.int (a : Nat), .int (b : Nat), .int u, .int v, .int w])] := by
  have hlx := lnX_eq
  have hol := h.ol
  obtain ⟨hab, hb, hu, hv, hw⟩ := hs
  have hta : (p.t.getD a []).length = n := tab_len h.tr (by rw [h.tl]; omega)
  have htb : (p.t.getD b []).length = n := tab_len h.tr (by rw [h.tl]; omega)
  have hi := mem_lt h.o (a := a) (by omega)
  have hk := mem_lt h.o (a := b) (by omega)
  rw [Pl.step]
  let T1 := addAt (addAt (p.t.getD a []) (p.o.getD a 0, u)) (p.o.getD b 0, w * v)
  let T2 := addAt (addAt (p.t.getD b []) (p.o.getD a 0, 0 - w * u)) (p.o.getD b 0, v)
  refine mk_rt (e := [some (.val p.pv), some (.val (.tup [.int (a : Nat), .int (b : Nat), .int u, .int v, .int w])), some (.val (natsP p.o)), some (.val (tabP p.t)), some (.val (rowP p.s)), some (ovI (a : Nat)), some (ovI (b : Nat)), some (ovI u), some (ovI v), some (ovI w), some (ovI (p.o.getD a 0 : Nat)), some (ovI (p.o.getD b 0 : Nat)),
    some (.val (rowP T1)), some (.val (rowP T2)), some (.val (tabP ((p.t.set a T1).set b T2)))]) rfl (by decide) ?_ rfl
  refine seq_nx (asgG_ok rfl rfl (u := .nx [some (.val p.pv), some (.val (.tup [.int (a : Nat), .int (b : Nat), .int u, .int v, .int w])), some (.val (natsP p.o)), some (.val (tabP p.t)), some (.val (rowP p.s)), none, none, none, none, none, none, none, none, none, none]) rfl) ?_
  refine seq_nx (asgG_ok rfl rfl (u := .nx [some (.val p.pv), some (.val (.tup [.int (a : Nat), .int (b : Nat), .int u, .int v, .int w])), some (.val (natsP p.o)), some (.val (tabP p.t)), some (.val (rowP p.s)), some (ovI (a : Nat)), some (ovI (b : Nat)), some (ovI u), some (ovI v), some (ovI w), none, none, none, none, none]) rfl) ?_
  refine seq_nx (parS_ok (args_cons (op2_ok rfl rfl rfl rfl (get_nat (by omega : a < p.o.length))) (args_cons (op2_ok rfl rfl rfl rfl (get_nat (by omega : b < p.o.length))) args_nil)) rfl rfl) ?_
  refine seq_nx (asgS_ok (callF_ok (rs := [.v (.val (rowP (p.t.getD a []))), .v (.val (.tup ([(p.o.getD a 0, u), (p.o.getD b 0, w * v)].map pairP)))]) (args_cons (op2_ok rfl rfl rfl rfl (get_tab (by rw [h.tl]; omega))) (args_cons (tupD_ok (args_cons (tupD_ok (args_cons rfl (args_cons rfl args_nil)) (escs_cons rfl (escs_cons rfl escs_nil))) (args_cons (tupD_ok (args_cons rfl (args_cons (op2_ok rfl rfl rfl rfl (mul_sg hw)) args_nil)) (escs_cons rfl (escs_cons rfl escs_nil))) args_nil)) (escs_cons rfl (escs_cons rfl escs_nil))) args_nil)) rfl rfl
    (added_ok (p.t.getD a []) [(p.o.getD a 0, u), (p.o.getD b 0, w * v)] ?_) rfl) rfl rfl) ?_
  · intro q hq
    simp only [List.mem_cons, List.not_mem_nil, or_false] at hq
    rcases hq with rfl | rfl
    · rw [hta]; exact hi
    · rw [hta]; exact hk
  refine seq_nx (asgS_ok (callF_ok (rs := [.v (.val (rowP (p.t.getD b []))), .v (.val (.tup ([(p.o.getD a 0, 0 - w * u), (p.o.getD b 0, v)].map pairP)))]) (args_cons (op2_ok rfl rfl rfl rfl (get_tab (by rw [h.tl]; omega))) (args_cons (tupD_ok (args_cons (tupD_ok (args_cons rfl (args_cons (op2_ok rfl (op2_ok rfl rfl rfl rfl (mul_sg hw)) rfl rfl rfl) args_nil)) (escs_cons rfl (escs_cons rfl escs_nil))) (args_cons (tupD_ok (args_cons rfl (args_cons rfl args_nil)) (escs_cons rfl (escs_cons rfl escs_nil))) args_nil)) (escs_cons rfl (escs_cons rfl escs_nil))) args_nil)) rfl rfl
    (added_ok (p.t.getD b []) [(p.o.getD a 0, 0 - w * u), (p.o.getD b 0, v)] ?_) rfl) rfl rfl) ?_
  · intro q hq
    simp only [List.mem_cons, List.not_mem_nil, or_false] at hq
    rcases hq with rfl | rfl
    · rw [htb]; exact hi
    · rw [htb]; exact hk
  refine seq_nx (asgS_ok (callF_ok (rs := [.v (.val (tabP (p.t.set a T1))), .v (ovI (b : Nat)), .v (.val (rowP T2))]) (args_cons (callF_ok (rs := [.v (.val (tabP p.t)), .v (ovI (a : Nat)), .v (.val (rowP T1))]) (args_cons rfl (args_cons rfl (args_cons rfl args_nil))) rfl rfl (with_row_ok p.t a _ (by rw [h.tl]; omega) (by rw [h.tl]; omega)) rfl) (args_cons rfl (args_cons rfl args_nil))) rfl rfl (with_row_ok (p.t.set a T1) b T2 (by simp [h.tl]; omega) (by simp [h.tl]; omega)) rfl) rfl rfl) ?_
  refine retS_ok (tupD_ok (args_cons (callF_ok (rs := [.v (.val (natsP p.o)), .v (ovI (a : Nat)), .v (ovI (b : Nat))]) (args_cons rfl (args_cons rfl (args_cons rfl args_nil))) rfl rfl (exchanged_ok p.o a b (by omega) (by omega)) rfl)
    (args_cons rfl (args_cons (callF_ok (rs := [.v (.val (rowP p.s)), .v (ovI ((if w = 1 then p.o.getD b 0 else p.o.getD a 0 : Nat) : Int))]) (args_cons rfl (args_cons (if_sign rfl rfl rfl) args_nil)) rfl rfl (turned_sign_ok p.s _ (by rw [h.sl]; omega)) rfl) args_nil))) rfl)
theorem stepped_in_ok {n : Nat} {p : Pl} {s : Sp} (h : p.Ok n) (hs : s.Ok n) (h3 : 3 ≤ n) (hn : n ≤ 1000) : F_stepped_in [.val p.pv, .val s.pv] = .ret (.val (p.step s).pv) [.val p.pv, .val s.pv] := by
  cases s with
  | tip a w =>
    refine mk_rt (e := [some (.val p.pv), some (.val (Sp.tip a w).pv)]) rfl (by decide) (retS_ok (ifE_t (tstB_ok (op2_ok (op2_ok rfl rfl rfl rfl rfl) rfl rfl rfl (o := ovB true) ?_) rfl) (callF_ok (rs := [.v (.val p.pv), .v (ovI (a : Nat)), .v (ovI w)]) (args_cons rfl (args_cons (op2_ok rfl rfl rfl rfl rfl) (args_cons (op2_ok rfl rfl rfl rfl rfl) args_nil))) rfl rfl (tipped_ok h hs h3 hn) rfl))) rfl
    show bop eqB (.str "tip") (.str "tip") = _
    kernel_rfl
  | turn a b u v w =>
    refine mk_rt (e := [some (.val p.pv), some (.val (Sp.turn a b u v w).pv)]) rfl (by decide) (retS_ok (ifE_f (tstB_ok (op2_ok (op2_ok rfl rfl rfl rfl rfl) rfl rfl rfl (o := ovB false) ?_) rfl) (callF_ok (rs := [.v (.val p.pv), .v (.val (.tup [.int (a : Nat), .int (b : Nat), .int u, .int v, .int w]))]) (args_cons rfl (args_cons (slE_ok rfl (prt_ok rfl rfl) rfl rfl rfl) args_nil)) rfl rfl (turned_ok h hs h3 hn) rfl))) rfl
    show bop eqB (.str "turn") (.str "tip") = _
    kernel_rfl
end Bs
end
/-! file Bs5 -/
section
set_option linter.all false
set_option autoImplicit false
set_option maxRecDepth 100000
/-! Bs5: rows of steps; places behind them. -/
namespace Bs
open PySem hiding Env ret
open Mv Cm Bx
variable {α : Type}
theorem le_cast {a b : Int} (h : a ≤ b) : leB (.int a) (.int b) = some true := by simp [leB, h]
theorem lt_cast {a b : Int} (h : a < b) : ltB (.int a) (.int b) = some true := by simp [ltB, h]
theorem andE_r {f g : SE RV} {e e1 e2 : Env} {r q : RV} {x : PV} (h1 : f e = .ok r e1) (h2 : view r e1 = some x) (h3 : truth x = some true) (h4 : g e1 = .ok q e2) : andE f g e = .ok q e2 := andE_t h1 h2 h3 h4
theorem is_step_ok {n : Nat} {s : Sp} (hs : s.Ok n) : F_is_step_in [.val (.int (n : Nat)), .val s.pv] = .ret (ovB true) [.val (.int (n : Nat)), .val s.pv] := by
  refine mk_rt (e := [some (ovI (n : Nat)), some (.val s.pv)]) rfl (by decide) ?_ rfl
  cases s with
  | tip a w =>
    obtain ⟨ha, hw⟩ := hs
    have hnum : callF F_are_numbers [slE (nm 1) (prtP (cst (.int 1))) noP] [some (ovI (n : Nat)), some (.val (Sp.tip a w).pv)] = .ok (.v (ovB true)) [some (ovI (n : Nat)), some (.val (Sp.tip a w).pv)] :=
      callF_ok (rs := [.v (.val (.tup [.int (a : Nat), .int w]))]) (args_cons (slE_ok rfl (prt_ok rfl rfl) rfl rfl rfl) args_nil) rfl rfl (are_numbers_ok (fun (i : Int) => i) [(a : Int), w] (by simp [lnX_eq])) rfl
    refine seq_nx (ifS_f (tOr_f (tNot_t (tst_ok rfl rfl rfl)) (tOr_f (tstB_ok (op2_ok rfl rfl rfl rfl (o := ovB false) ?_) rfl) (tNot_t (tst_ok (op1_ok (op2_ok rfl rfl rfl rfl rfl) rfl rfl) rfl rfl)))) rfl) ?_
    · show bop eqB (Sp.tip a w).pv (.tup []) = _
      kernel_rfl
    refine seq_nx (ifS_f (tNot_t (tst_ok hnum rfl rfl)) rfl) ?_
    refine seq_rt (ifS_t (tstB_ok (op2_ok (op2_ok rfl rfl rfl rfl rfl) rfl rfl rfl (o := ovB true) ?_) rfl) (retS_ok (andE_t (op2_ok (opN_ok (args_cons rfl args_nil) (vws_cons rfl vws_nil) rfl) rfl rfl rfl rfl) rfl rfl
      (andE_t (chE_t rfl (op2_ok rfl rfl rfl rfl rfl) rfl rfl (le_cast (by omega)) (op2_ok rfl rfl rfl rfl rfl) rfl rfl (lt_cast (by omega))) rfl rfl (callF_ok (rs := [.v (ovI w)]) (args_cons (op2_ok rfl rfl rfl rfl rfl) args_nil) rfl rfl (is_sign_ok w hw) rfl)))))
    show bop eqB (.str "tip") (.str "tip") = _
    kernel_rfl
  | turn a b u v w =>
    obtain ⟨hab, hb, hu, hv, hw⟩ := hs
    have hnum : callF F_are_numbers [slE (nm 1) (prtP (cst (.int 1))) noP] [some (ovI (n : Nat)), some (.val (Sp.turn a b u v w).pv)] = .ok (.v (ovB true)) [some (ovI (n : Nat)), some (.val (Sp.turn a b u v w).pv)] :=
      callF_ok (rs := [.v (.val (.tup [.int (a : Nat), .int (b : Nat), .int u, .int v, .int w]))]) (args_cons (slE_ok rfl (prt_ok rfl rfl) rfl rfl rfl) args_nil) rfl rfl (are_numbers_ok (fun (i : Int) => i) [(a : Int), (b : Int), u, v, w] (by simp [lnX_eq])) rfl
    have hsg : callF F_are_signs [slE (nm 1) (prtP (cst (.int 3))) noP] [some (ovI (n : Nat)), some (.val (Sp.turn a b u v w).pv)] = .ok (.v (ovB true)) [some (ovI (n : Nat)), some (.val (Sp.turn a b u v w).pv)] :=
      callF_ok (rs := [.v (.val (.tup [.int u, .int v, .int w]))]) (args_cons (slE_ok rfl (prt_ok rfl rfl) rfl rfl rfl) args_nil) rfl rfl (are_signs_ok [u, v, w] (by simp [lnX_eq]) (by
        intro y hy
        simp only [List.mem_cons, List.not_mem_nil, or_false] at hy
        rcases hy with rfl | rfl | rfl <;> assumption)) rfl
    refine seq_nx (ifS_f (tOr_f (tNot_t (tst_ok rfl rfl rfl)) (tOr_f (tstB_ok (op2_ok rfl rfl rfl rfl (o := ovB false) ?_) rfl) (tNot_t (tst_ok (op1_ok (op2_ok rfl rfl rfl rfl rfl) rfl rfl) rfl rfl)))) rfl) ?_
    · show bop eqB (Sp.turn a b u v w).pv (.tup []) = _
      kernel_rfl
    refine seq_nx (ifS_f (tNot_t (tst_ok hnum rfl rfl)) rfl) ?_
    refine seq_nx (ifS_f (tstB_ok (op2_ok (op2_ok rfl rfl rfl rfl rfl) rfl rfl rfl (o := ovB false) ?_) rfl) rfl) ?_
    · show bop eqB (.str "turn") (.str "tip") = _
      kernel_rfl
    refine seq_nx (ifS_f (tOr_f (tstB_ok (op2_ok (op2_ok rfl rfl rfl rfl rfl) rfl rfl rfl (o := ovB false) ?_) rfl) (tstB_ok (op2_ok (opN_ok (args_cons rfl args_nil) (vws_cons rfl vws_nil) rfl) rfl rfl rfl rfl) rfl)) rfl) ?_
    · show bop neB (.str "turn") (.str "turn") = _
      kernel_rfl
    exact retS_ok (andE_t (chE3_t rfl (op2_ok rfl rfl rfl rfl rfl) rfl rfl (le_cast (by omega)) (op2_ok rfl rfl rfl rfl rfl) rfl rfl (lt_cast (by omega)) (op2_ok rfl rfl rfl rfl rfl) rfl rfl (lt_cast (by omega))) rfl rfl hsg)
theorem tp_sp (k : Nat) (s : Sp) : Tpd (k + 2) s.pv s.pv := by
  have h5 : ∀ xs : List PV, xs.length ≤ 6 → (∀ p ∈ xs, Tpd (k + 1) p p) → Tpd (k + 2) (.tup xs) (.tup xs) := fun xs hl h => tp_tup (k + 1) xs (by rw [lnX_eq]; omega) h
  cases s with
  | tip a w =>
    refine h5 _ (by simp) ?_
    intro p hp
    simp only [List.mem_cons, List.not_mem_nil, or_false] at hp
    rcases hp with rfl | rfl | rfl
    · exact tpd_str k _
    · exact tpd_int k _
    · exact tpd_int k _
  | turn a b u v w =>
    refine h5 _ (by simp) ?_
    intro p hp
    simp only [List.mem_cons, List.not_mem_nil, or_false] at hp
    rcases hp with rfl | rfl | rfl | rfl | rfl | rfl
    · exact tpd_str k _
    all_goals exact tpd_int k _
theorem sure_step_ok {n : Nat} {s : Sp} (hs : s.Ok n) : F_sure_step [.val (.int (n : Nat)), .val s.pv] = .ret (.val s.pv) [.val (.int (n : Nat)), .val s.pv] := by
  refine mk_rt (e := [some (ovI (n : Nat)), some (.val s.pv), some (.val s.pv)]) rfl (by decide) ?_ rfl
  refine seq_nx (asgS_ok (callF_ok (args_cons rfl args_nil) rfl rfl (tp_sp 10 s) rfl) rfl rfl) ?_
  exact seq_nx (ifS_f (tNot_t (tst_ok (callF_ok (rs := [.v (ovI (n : Nat)), .v (.val s.pv)]) (args_cons rfl (args_cons rfl args_nil)) rfl rfl (is_step_ok hs) rfl) rfl rfl)) rfl) rfl
def stepsP (ss : List Sp) : PV := .tup (ss.map fun s => s.pv)
theorem are_steps_ok {n : Nat} {ss : List Sp} (hs : ∀ s ∈ ss, s.Ok n) (hl : ss.length ≤ lnX) : F_are_steps_in [.val (.int (n : Nat)), .val (stepsP ss)] = .ret (ovB true) [.val (.int (n : Nat)), .val (stepsP ss)] := by
  refine mk_rt (e := [some (ovI (n : Nat)), some (.val (stepsP ss)), none]) rfl (by decide) (retS_ok (andE_t rfl rfl rfl (opN_ok (args_cons (comp1m (e := [some (ovI (n : Nat)), some (.val (stepsP ss)), none]) (fun s => s.pv) (fun _ => ovB true) ss rfl trivial (fun s hm => ?_) hl) args_nil) (vws_cons rfl vws_nil) ?_))) rfl
  · exact callF_ok (rs := [.v (ovI (n : Nat)), .v (.val s.pv)]) (args_cons rfl (args_cons rfl args_nil)) rfl rfl (is_step_ok (hs s hm)) rfl
  · rw [show (allP [.lst (ss.map fun y => (ovB true).frz)]) = some (ovB (ss.all fun _ => true)) from all_map (fun _ => true) ss]
    simp
theorem tp_steps (k : Nat) (ss : List Sp) (hl : ss.length ≤ lnX) : Tpd (k + 3) (stepsP ss) (stepsP ss) := by
  refine tp_tup (k + 2) _ (by simpa using hl) fun p hp => ?_
  simp only [List.mem_map] at hp
  obtain ⟨s, _, rfl⟩ := hp
  exact tp_sp k s
theorem sure_steps_ok {n : Nat} {ss : List Sp} (hs : ∀ s ∈ ss, s.Ok n) (hl : ss.length ≤ lnX) {q : PV} (hq : Tpd 12 q (stepsP ss)) : F_sure_steps [.val (.int (n : Nat)), .val q] = .ret (.val (stepsP ss)) [.val (.int (n : Nat)), .val q] := by
  refine mk_rt (e := [some (ovI (n : Nat)), some (.val q), some (.val (stepsP ss))]) rfl (by decide) ?_ rfl
  refine seq_nx (asgS_ok (callF_ok (args_cons rfl args_nil) rfl rfl hq rfl) rfl rfl) ?_
  exact seq_nx (ifS_f (tNot_t (tst_ok (callF_ok (rs := [.v (ovI (n : Nat)), .v (.val (stepsP ss))]) (args_cons rfl (args_cons rfl args_nil)) rfl rfl (are_steps_ok hs hl) rfl) rfl rfl)) rfl) rfl
theorem get_o (p : Pl) : getP p.pv (.int 0) = some (.val (natsP p.o)) := rfl
theorem stepped_ok {n : Nat} {p : Pl} {s : Sp} (h : p.Ok n) (hs : s.Ok n) (h3 : 3 ≤ n) (hn : n ≤ 1000) : F_stepped [.val p.pv, .val s.pv] = .ret (.val (p.step s).pv) [.val p.pv, .val s.pv] := by
  have hol := h.ol
  refine mk_rt (e := [some (.val p.pv), some (.val s.pv), some (.val p.pv)]) rfl (by decide) ?_ rfl
  refine seq_nx (asgS_ok (callF_ok (args_cons rfl args_nil) rfl rfl (sure_place_pl h h3 hn) rfl) rfl rfl) ?_
  have hlen : lenP [natsP p.o] = some (ovI (n : Nat)) := by rw [len_nat, hol]
  exact retS_ok (callF_ok (rs := [.v (.val p.pv), .v (.val s.pv)]) (args_cons rfl (args_cons (callF_ok (rs := [.v (ovI (n : Nat)), .v (.val s.pv)]) (args_cons (opN_ok (args_cons (op2_ok rfl rfl rfl rfl (get_o p)) args_nil) (vws_cons rfl vws_nil) hlen) (args_cons rfl args_nil)) rfl rfl (sure_step_ok hs) rfl) args_nil)) rfl rfl (stepped_in_ok h hs h3 hn) rfl)
def Pl.steps (p : Pl) (ss : List Sp) : Pl := ss.foldl Pl.step p
theorem steps_ok {n : Nat} : ∀ {ss : List Sp} {p : Pl}, p.Ok n → (∀ s ∈ ss, s.Ok n) → 3 ≤ n → (p.steps ss).Ok n
  | [], p, h, _, _ => h
  | s :: ss, p, h, hs, h3 => steps_ok (ss := ss) (p := p.step s) (step_ok h (hs s (by simp)) h3) (fun t ht => hs t (by simp [ht])) h3
theorem behind_in_ok {n : Nat} {p : Pl} {ss : List Sp} (h : p.Ok n) (hs : ∀ s ∈ ss, s.Ok n) (h3 : 3 ≤ n) (hn : n ≤ 1000) : F_behind_in [.val p.pv, .val (stepsP ss)] = .ret (.val (p.steps ss).pv) [.val p.pv, .val (stepsP ss)] := by
  obtain ⟨e', h1, h2, x2, rfl⟩ := forL_fold (gt := gN 2) (body := asgS 0 (callF F_stepped_in [nm 0, nm 2])) (fun (s : Sp) => s.pv)
    (fun (q : Pl) e => q.Ok n ∧ ∃ x2, e = [some (.val q.pv), some (.val (stepsP ss)), x2]) Pl.step ss p [some (.val p.pv), some (.val (stepsP ss)), none] (by
      rintro s hm q e ⟨hq, x2, rfl⟩
      refine ⟨[some (.val q.pv), some (.val (stepsP ss)), some (.val s.pv)], _, rfl, asgS_ok (callF_ok (rs := [.v (.val q.pv), .v (.val s.pv)]) (args_cons rfl (args_cons rfl args_nil)) rfl rfl (stepped_in_ok hq (hs s hm) h3 hn) rfl) rfl rfl, step_ok hq (hs s hm) h3, _, rfl⟩) ⟨h, none, rfl⟩
  refine mk_rt (e := [some (.val (p.steps ss).pv), some (.val (stepsP ss)), x2]) rfl (by decide) ?_ rfl
  exact seq_nx (forS_ok (srcE_tup rfl rfl) h1) rfl
theorem box_behind_ok {n : Nat} {p : Pl} {ss : List Sp} (h : p.Ok n) (hs : ∀ s ∈ ss, s.Ok n) (h3 : 3 ≤ n) (hn : n ≤ 1000) (hl : ss.length ≤ lnX) {q : PV} (hq : Tpd 12 q (stepsP ss)) : F_box_behind [.val p.pv, .val q] = .ret (.val (p.steps ss).pv) [.val p.pv, .val q] := by
  have hol := h.ol
  refine mk_rt (e := [some (.val p.pv), some (.val q), some (.val p.pv)]) rfl (by decide) ?_ rfl
  refine seq_nx (asgS_ok (callF_ok (args_cons rfl args_nil) rfl rfl (sure_place_pl h h3 hn) rfl) rfl rfl) ?_
  have hlen : lenP [natsP p.o] = some (ovI (n : Nat)) := by rw [len_nat, hol]
  exact retS_ok (callF_ok (rs := [.v (.val p.pv), .v (.val (stepsP ss))]) (args_cons rfl (args_cons (callF_ok (rs := [.v (ovI (n : Nat)), .v (.val q)]) (args_cons (opN_ok (args_cons (op2_ok rfl rfl rfl rfl (get_o p)) args_nil) (vws_cons rfl vws_nil) hlen) (args_cons rfl args_nil)) rfl rfl (sure_steps_ok hs hl hq) rfl) args_nil)) rfl rfl (behind_in_ok h hs h3 hn) rfl)
/-! ### START -/
def first (n : Nat) : Pl := ⟨List.range n, List.replicate (n - 1) (List.replicate n 0), List.replicate n 1⟩
theorem first_ok {n : Nat} : (first n).Ok n := by
  refine ⟨.refl _, by simp [first], ?_, by simp [first], ?_⟩
  · intro r hr
    have := (List.mem_replicate.1 hr).2
    rw [this]; simp
  · intro x hx
    exact .inl (List.mem_replicate.1 hx).2
theorem flat_one {β : Type} (x : β) : ∀ k : Nat, (List.replicate k [x]).flatten = List.replicate k x
  | 0 => rfl
  | k + 1 => by rw [List.replicate_succ, List.replicate_succ, List.flatten_cons, flat_one x k]; rfl
theorem mul_one (x : PV) (k : Nat) (h2 : 2 ≤ k) (h : k ≤ 1000) : mulP (.tup [x]) (.int (k : Nat)) = some (.val (.tup (List.replicate k x))) := by
  have : ([x] : List PV) ≠ [] ∧ (2 : Int) ≤ (k : Int) ∧ (k : Int) ≤ 1000 ∧ [x].length ≤ 1000 := ⟨by simp, by omega, by omega, by simp⟩
  simp only [mulP, if_pos this, Int.toNat_natCast, flat_one]
theorem rg_tup (n : Nat) (hn : n ≤ 1000) : rgP true [.int (n : Nat)] = some (.val (natsP (List.range n))) := by
  have h1 : ((-(2 ^ 62) ≤ (0 : Int) ∧ (0 : Int) < 2 ^ 62) ∧ -(2 ^ 62) ≤ (n : Int) ∧ (n : Int) < 2 ^ 62) ∧ ((n : Int) - 0).toNat ≤ 2 ^ 24 := by omega
  simp only [rgP, rgO, if_pos h1]
  simp [rng_natL, natsP]
theorem rg_lst (n : Nat) (hn : n ≤ 1000) : rgP false [.int (n : Nat)] = some (.ls (natL (List.range n))) := by
  have h1 : ((-(2 ^ 62) ≤ (0 : Int) ∧ (0 : Int) < 2 ^ 62) ∧ -(2 ^ 62) ≤ (n : Int) ∧ (n : Int) < 2 ^ 62) ∧ ((n : Int) - 0).toNat ≤ 2 ^ 24 := by omega
  simp only [rgP, rgO, if_pos h1]
  simp [rng_natL]
theorem law_first_ok {n : Nat} (h3 : 3 ≤ n) (hn : n ≤ 1000) : F__law_first [.val (.int (n : Nat))] = .ret (.val (first n).pv) [.val (.int (n : Nat))] := by
  have h1 : tabP (first n).t = .tup (List.replicate (n - 1) (.tup (List.replicate n (.int 0)))) := by simp [first, tabP, rowP, intL]
  have h2 : rowP (first n).s = .tup (List.replicate n (.int 1)) := by simp [first, rowP, intL]
  show _ = FR.ret (.val (.tup [natsP (List.range n), tabP (first n).t, rowP (first n).s])) _
  rw [h1, h2]
  refine mk_rt (e := [some (ovI (n : Nat))]) rfl (by decide) (retS_ok (tupD_ok (args_cons (opN_ok (args_cons rfl args_nil) (vws_cons rfl vws_nil) (rg_tup n hn)) (args_cons (op2_ok (tupD_ok (args_cons (op2_ok (tupD_ok (args_cons rfl args_nil) (escs_cons rfl escs_nil)) rfl rfl rfl (mul_one _ n (by omega) hn)) args_nil) (escs_cons rfl escs_nil))
    (op2_ok rfl rfl rfl rfl (o := ovI ((n - 1 : Nat) : Int)) ?_) rfl rfl (mul_one _ (n - 1) (by omega) (by omega))) (args_cons (op2_ok (tupD_ok (args_cons rfl args_nil) (escs_cons rfl escs_nil)) rfl rfl rfl (mul_one _ n (by omega) hn)) args_nil))) (escs_cons rfl (escs_cons rfl (escs_cons rfl escs_nil))))) rfl
  simp only [subP, OV.see]; congr 3; omega
end Bs
end
/-! file Bs6 -/
section
set_option linter.all false
set_option autoImplicit false
set_option maxRecDepth 100000
/-! Bs6: the law's own looks: the same. -/
namespace Bs
open PySem hiding Env ret
open Mv Cm Bx
variable {α : Type}
/-- data of a nesting below k -/
def smOk : Nat → PV → Bool
  | 0, _ => false
  | k + 1, p => match p with
    | .int _ => true
    | .bl _ => true
    | .non => true
    | .str s => strOkP s
    | .tup xs => xs.all (smOk k) && decide (xs.length ≤ lnX)
    | .lst xs => xs.all (smOk k) && decide (xs.length ≤ lnX)
    | _ => false
theorem zip_self : ∀ xs : List PV, zipL xs xs = xs.map fun y => .tup [id y, id y]
  | [] => rfl
  | x :: xs => by simp [zipL, zip_self xs]
theorem eqB_len (n : Nat) : bop eqB (.int (n : Nat)) (.int (n : Nat)) = some (ovB true) := by simp [bop, eqB_int]
theorem same_refl : ∀ (k : Nat) (p : PV), smOk k p = true → F__law_same k [.val p, .val p] = .ret (ovB true) [.val p, .val p]
  | 0, p, h => by simp [smOk] at h
  | k + 1, .int i, _ => by
    refine mk_rt (e := [some (.val (.int i)), some (.val (.int i)), none, none]) rfl (by decide) ?_ rfl
    refine seq_nx (ifS_f (tst_ok rfl rfl rfl) rfl) (seq_nx (ifS_f (tstB_ok (op2_ok rfl rfl rfl rfl rfl) rfl) rfl) (seq_nx (ifS_f (tst_ok rfl rfl rfl) rfl) ?_))
    refine retS_ok (andE_t rfl rfl rfl (andE_t (notE_ok rfl rfl rfl) rfl rfl (op2_ok rfl rfl rfl rfl (o := ovB true) ?_)))
    simp [bop, eqB_int]
  | k + 1, .bl b, _ => by cases b <;> rfl
  | k + 1, .non, _ => rfl
  | k + 1, .str s, h => by
    refine mk_rt (e := [some (.val (.str s)), some (.val (.str s)), none, none]) rfl (by decide) ?_ rfl
    refine seq_nx (ifS_f (tst_ok rfl rfl rfl) rfl) (seq_nx (ifS_f (tstB_ok (op2_ok rfl rfl rfl rfl rfl) rfl) rfl) (seq_rt (ifS_t (tst_ok rfl rfl rfl) ?_)))
    refine retS_ok (andE_t (op2_ok rfl rfl rfl rfl rfl) rfl rfl (andE_t (op2_ok rfl rfl rfl rfl rfl) rfl rfl (op2_ok rfl rfl rfl rfl (o := ovB true) ?_)))
    have h' : strOkP s = true := h
    simp [bop, OV.see, eqB, okD, h', peq]
  | k + 1, .tup xs, h => by
    simp only [smOk, Bool.and_eq_true, List.all_eq_true, decide_eq_true_eq] at h
    refine mk_rt (e := [some (.val (.tup xs)), some (.val (.tup xs)), none, none]) rfl (by decide) ?_ rfl
    refine seq_rt (ifS_t (tst_ok rfl rfl rfl) (seq_nx (ifS_f (tOr_f (tstB_ok (op2_ok rfl rfl rfl rfl rfl) rfl) (tstB_ok (op2_ok rfl rfl rfl rfl rfl) rfl)) rfl) ?_))
    refine retS_ok (andE_t (op2_ok (opN_ok (args_cons rfl args_nil) (vws_cons rfl vws_nil) rfl) (opN_ok (args_cons rfl args_nil) (vws_cons rfl vws_nil) rfl) rfl rfl (eqB_len xs.length)) rfl rfl (opN_ok (args_cons
      (comp2m (e := [some (.val (.tup xs)), some (.val (.tup xs)), none, none]) id id (fun _ => ovB true) xs (by decide) ?_ trivial trivial (fun p hp => ?_) h.2) args_nil) (vws_cons rfl vws_nil) ?_))
    · rw [← zip_self]; rfl
    · exact callF_ok (rs := [.v (.val p), .v (.val p)]) (args_cons rfl (args_cons rfl args_nil)) rfl rfl (same_refl k p (h.1 p hp)) rfl
    · rw [show (allP [.lst (xs.map fun y => (ovB true).frz)]) = some (ovB (xs.all fun _ => true)) from all_map (fun _ => true) xs]
      simp
  | k + 1, .lst xs, h => by
    simp only [smOk, Bool.and_eq_true, List.all_eq_true, decide_eq_true_eq] at h
    refine mk_rt (e := [some (.val (.lst xs)), some (.val (.lst xs)), none, none]) rfl (by decide) ?_ rfl
    refine seq_rt (ifS_t (tst_ok rfl rfl rfl) (seq_nx (ifS_f (tOr_f (tstB_ok (op2_ok rfl rfl rfl rfl rfl) rfl) (tstB_ok (op2_ok rfl rfl rfl rfl rfl) rfl)) rfl) ?_))
    refine retS_ok (andE_t (op2_ok (opN_ok (args_cons rfl args_nil) (vws_cons rfl vws_nil) rfl) (opN_ok (args_cons rfl args_nil) (vws_cons rfl vws_nil) rfl) rfl rfl (eqB_len xs.length)) rfl rfl (opN_ok (args_cons
      (comp2m (e := [some (.val (.lst xs)), some (.val (.lst xs)), none, none]) id id (fun _ => ovB true) xs (by decide) ?_ trivial trivial (fun p hp => ?_) h.2) args_nil) (vws_cons rfl vws_nil) ?_))
    · rw [← zip_self]; rfl
    · exact callF_ok (rs := [.v (.val p), .v (.val p)]) (args_cons rfl (args_cons rfl args_nil)) rfl rfl (same_refl k p (h.1 p hp)) rfl
    · rw [show (allP [.lst (xs.map fun y => (ovB true).frz)]) = some (ovB (xs.all fun _ => true)) from all_map (fun _ => true) xs]
      simp
  | k + 1, .dic _, h => by simp [smOk] at h
  | k + 1, .fn _, h => by simp [smOk] at h
  | k + 1, .ty _, h => by simp [smOk] at h
  | k + 1, .scr _, h => by simp [smOk] at h
theorem same_ls (k : Nat) (xs : List PV) (h : ∀ p ∈ xs, smOk k p = true) (hl : xs.length ≤ lnX) : F__law_same (k + 1) [.ls xs, .ls xs] = .ret (ovB true) [.val (.lst xs), .val (.lst xs)] := by
  refine mk_rt (e := [some (.val (.lst xs)), some (.val (.lst xs)), none, none]) rfl (by decide) ?_ rfl
  refine seq_rt (ifS_t (tst_ok rfl rfl rfl) (seq_nx (ifS_f (tOr_f (tstB_ok (op2_ok rfl rfl rfl rfl rfl) rfl) (tstB_ok (op2_ok rfl rfl rfl rfl rfl) rfl)) rfl) ?_))
  refine retS_ok (andE_t (op2_ok (opN_ok (args_cons rfl args_nil) (vws_cons rfl vws_nil) rfl) (opN_ok (args_cons rfl args_nil) (vws_cons rfl vws_nil) rfl) rfl rfl (eqB_len xs.length)) rfl rfl (opN_ok (args_cons
    (comp2m (e := [some (.val (.lst xs)), some (.val (.lst xs)), none, none]) id id (fun _ => ovB true) xs (by decide) ?_ trivial trivial (fun p hp => ?_) hl) args_nil) (vws_cons rfl vws_nil) ?_))
  · rw [← zip_self]; rfl
  · exact callF_ok (rs := [.v (.val p), .v (.val p)]) (args_cons rfl (args_cons rfl args_nil)) rfl rfl (same_refl k p (h p hp)) rfl
  · rw [show (allP [.lst (xs.map fun y => (ovB true).frz)]) = some (ovB (xs.all fun _ => true)) from all_map (fun _ => true) xs]
    simp
theorem smOk_ints (k : Nat) (f : α → Int) (ys : List α) (h : ys.length ≤ lnX) : smOk (k + 2) (.tup (ys.map fun y => .int (f y))) = true := by
  simp only [smOk, Bool.and_eq_true, List.all_eq_true, decide_eq_true_eq, List.length_map, List.mem_map]
  refine ⟨?_, h⟩
  rintro _ ⟨y, _, rfl⟩; rfl
theorem smOk_pl {n : Nat} {p : Pl} (h : p.Ok n) (hn : n ≤ 1000) (k : Nat) : smOk (k + 4) p.pv = true := by
  have hx := lnX_eq
  have hol := h.ol
  have h1 : smOk (k + 3) (natsP p.o) = true := smOk_ints (k + 1) _ p.o (by omega)
  have h2 : smOk (k + 3) (rowP p.s) = true := smOk_ints (k + 1) (fun i => i) p.s (by rw [h.sl]; omega)
  have h3 : smOk (k + 3) (tabP p.t) = true := by
    simp only [tabP]
    show (List.all _ (smOk (k + 2)) && decide _) = true
    simp only [Bool.and_eq_true, List.all_eq_true, decide_eq_true_eq, List.length_map, List.mem_map]
    refine ⟨?_, by rw [h.tl]; omega⟩
    rintro _ ⟨r, hr, rfl⟩
    exact smOk_ints k (fun i => i) r (by rw [h.tr r hr]; omega)
  show (List.all [natsP p.o, tabP p.t, rowP p.s] (smOk (k + 3)) && decide ([natsP p.o, tabP p.t, rowP p.s].length ≤ lnX)) = true
  simp [h1, h2, h3, hx]
end Bs
end
/-! file Bs7 -/
section
set_option linter.all false
set_option autoImplicit false
set_option maxRecDepth 100000
/-! Bs7: the law's own step of a box. -/
namespace Cm
open PySem hiding Env ret
open Mv
variable {α : Type}
theorem comp1L {src : Src} {j : Nat} {elt : SE RV} {e0 e : Env} (g : α → PV) (f : α → List PV) (ys : List α)
    (hs : src e0 = .ok (ys.map g) e) (hj : notOwn e[j]?)
    (he : ∀ y ∈ ys, elt (e.set j (some (.val (g y)))) = .ok (.v (.ls (f y))) (e.set j (some (.val (g y))))) (hl : ys.length ≤ lnX) :
    compSL src (gN j) (Mv.ret true) elt [j] e0 = .ok (.v (.ll (ys.map f))) e := by
  suffices h : ∀ (zs : List α) (acc : List (List PV)) (x : Option OV), (∀ y ∈ zs, y ∈ ys) → acc.length + zs.length ≤ lnX → ∃ x', compLL (gN j) (Mv.ret true) elt [j] (zs.map g) acc (e.set j x) = .ok (acc ++ zs.map f) (e.set j x') by
    obtain ⟨x', h1⟩ := h ys [] (e[j]?.getD none) (fun _ h => h) (by simpa using hl)
    rw [set_back] at h1
    simp only [compSL, bnd, hs, noOwn1 hj, if_true, h1, wipeE, backE, List.set_set, set_back, List.nil_append]
  intro zs
  induction zs with
  | nil => intro acc x _ _; exact ⟨x, by simp [compLL, Mv.ret]⟩
  | cons y zs ih =>
    intro acc x hz hl
    simp only [List.length_cons] at hl
    have hy := hz y (by simp)
    have hw : gN j (g y) (wipeE (e.set j x) [j]) = .nx (e.set j (some (.val (g y)))) := by simp only [wipeE, gN, List.set_set]
    obtain ⟨x', h1⟩ := ih (acc ++ [f y]) (some (.val (g y))) (fun z hz' => hz z (by simp [hz'])) (by simp; omega)
    have hx : acc.length < lnX := by omega
    exact ⟨x', by simp only [List.map_cons, compLL, hw, Mv.ret, he y hy, if_pos hx, h1, List.append_assoc, List.cons_append, List.nil_append]⟩
theorem gT_3 {g1 g2 g3 : TGt} {p1 p2 p3 : PV} {e e1 e2 e3 : Env} (h1 : g1 p1 e = .nx e1) (h2 : g2 p2 e1 = .nx e2) (h3 : g3 p3 e2 = .nx e3) : gT [g1, g2, g3] (.tup [p1, p2, p3]) e = .nx e3 := by
  simp only [gT, List.length_cons, List.length_nil, if_true, gTs, seqS, h1, h2, h3, skipS]
end Cm
namespace Bs
open PySem hiding Env ret
open Mv Cm Bx
def moreAt (t : List (List Int)) (m : Nat × Nat × Int) : List (List Int) := t.set m.1 (addAt (t.getD m.1 []) (m.2.1, m.2.2))
def moreP (m : Nat × Nat × Int) : PV := .tup [.int (m.1 : Nat), .int (m.2.1 : Nat), .int m.2.2]
theorem atLL_ok {t : List (List Int)} {a b : Nat} (ha : a < t.length) (hb : b < (t.getD a []).length) : atLL (t.map intL) (a : Int) (b : Int) = some (.int ((t.getD a []).getD b 0)) := by
  have h1 : t.getD a [] = t[a] := by simp [ha]
  rw [h1] at hb
  simp [atLL, ixP_nat, ha, h1, intL, hb]
theorem setLL_ok {t : List (List Int)} {a b : Nat} {d : Int} (ha : a < t.length) (hb : b < (t.getD a []).length) : setLL (t.map intL) (a : Int) (b : Int) (.int d) = some ((t.set a ((t.getD a []).set b d)).map intL) := by
  have h1 : t.getD a [] = t[a] := by simp [ha]
  rw [h1] at hb ⊢
  simp [setLL, ixP_nat, ha, intL, hb, List.map_set]
theorem moreAt_len (t : List (List Int)) (m : Nat × Nat × Int) : (moreAt t m).length = t.length := by simp [moreAt]
/-- the table goes in as a value, the list of changes as one's own or as a value -/
theorem law_more_ok {n : Nat} (t : List (List Int)) (ms : List (Nat × Nat × Int)) (hr : ∀ r ∈ t, r.length = n) (hl : t.length ≤ lnX) (hm : ∀ m ∈ ms, m.1 < t.length ∧ m.2.1 < n) {mo : OV} (hmo : mo = .ls (ms.map moreP) ∨ mo = .val (.lst (ms.map moreP))) :
    F__law_more [.val (tabP t), mo] = .ret (.val (tabP (ms.foldl moreAt t))) [.val (tabP t), .val (.lst (ms.map moreP))] := by
  obtain ⟨e', h1, hs, hsr, x4, x5, x6, rfl⟩ := forL_fold (gt := gT [gN 4, gN 5, gN 6]) (body := asgG (gLL 2 (.inl 4) (.inl 5)) (op2 addP (ixLL 2 (.inl 4) (.inl 5)) (nm 6))) moreP
    (fun (s : List (List Int)) e => s.length = t.length ∧ (∀ r ∈ s, r.length = n) ∧ ∃ x4 x5 x6, e = [some (.val (tabP t)), some (.val (.lst (ms.map moreP))), some (.ll (s.map intL)), none, x4, x5, x6]) moreAt ms t
    [some (.val (tabP t)), some (.val (.lst (ms.map moreP))), some (.ll (t.map intL)), none, none, none, none] (by
      rintro ⟨a, b, d⟩ hy s e ⟨hs, hsr, x4, x5, x6, rfl⟩
      obtain ⟨ha, hb⟩ := hm _ hy
      have ha' : a < s.length := by rw [hs]; exact ha
      have hb' : b < (s.getD a []).length := by rw [tab_len hsr ha']; exact hb
      refine ⟨[some (.val (tabP t)), some (.val (.lst (ms.map moreP))), some (.ll (s.map intL)), none, some (ovI (a : Nat)), some (ovI (b : Nat)), some (ovI d)],
        [some (.val (tabP t)), some (.val (.lst (ms.map moreP))), some (.ll ((moreAt s (a, b, d)).map intL)), none, some (ovI (a : Nat)), some (ovI (b : Nat)), some (ovI d)], gT_3 rfl rfl rfl, ?_, ?_⟩
      · have hix : ixLL 2 (.inl 4) (.inl 5) [some (.val (tabP t)), some (.val (.lst (ms.map moreP))), some (.ll (s.map intL)), none, some (ovI (a : Nat)), some (ovI (b : Nat)), some (ovI d)] = .ok (.v (ovI ((s.getD a []).getD b 0))) [some (.val (tabP t)), some (.val (.lst (ms.map moreP))), some (.ll (s.map intL)), none, some (ovI (a : Nat)), some (ovI (b : Nat)), some (ovI d)] := by
          show (match atLL (s.map intL) (a : Int) (b : Int) with
            | some p => XR.ok (RV.v (.val p)) _
            | none => .bad) = _
          rw [show atLL (s.map intL) (a : Int) (b : Int) = some (.int ((s.getD a []).getD b 0)) from atLL_ok ha' hb']
        refine asgG_ok (op2_ok hix rfl rfl rfl rfl) rfl ?_
        show (match setLL (s.map intL) (a : Int) (b : Int) (.int ((s.getD a []).getD b 0 + d)) with
            | some yss => SR.nx _
            | none => .bad) = _
        rw [setLL_ok ha' hb']; rfl
      · refine ⟨by rw [moreAt_len]; exact hs, set_rows hsr a (by rw [addAt_len]; exact tab_len hsr ha'), _, _, _, rfl⟩) ⟨rfl, hr, none, none, none, rfl⟩
  let T := ms.foldl moreAt t
  have hT : (T.map intL).map PV.lst = T.map fun r => PV.lst (intL r) := by simp
  refine mk_rt (e := [some (.val (tabP t)), some (.val (.lst (ms.map moreP))), some (.val (.lst (T.map fun r => PV.lst (intL r)))), none, x4, x5, x6]) (by rcases hmo with rfl | rfl <;> rfl) (by decide) (os0 := [.val (tabP t), mo]) ?_ (by rcases hmo with rfl | rfl <;> rfl)
  have h2 : asgS 2 (compSL (srcE (nm 0)) (gN 3) (Mv.ret true) (opN listP [nm 3]) [3]) [some (.val (tabP t)), some mo, none, none, none, none, none] = .nx [some (.val (tabP t)), some mo, some (.ll (t.map intL)), none, none, none, none] :=
    asgS_ok (comp1L (e := [some (.val (tabP t)), some mo, none, none, none, none, none]) (fun r => rowP r) intL t rfl trivial (fun r _ => rfl) hl) rfl rfl
  have h3 : srcE (nm 1) [some (.val (tabP t)), some mo, some (.ll (t.map intL)), none, none, none, none] = .ok (ms.map moreP) [some (.val (tabP t)), some (.val (.lst (ms.map moreP))), some (.ll (t.map intL)), none, none, none, none] := by
    rcases hmo with rfl | rfl <;> rfl
  have h4 : srcE (nm 2) [some (.val (tabP t)), some (.val (.lst (ms.map moreP))), some (.ll (T.map intL)), none, x4, x5, x6] = .ok (T.map fun r => PV.lst (intL r)) [some (.val (tabP t)), some (.val (.lst (ms.map moreP))), some (.val (.lst (T.map fun r => PV.lst (intL r)))), none, x4, x5, x6] := by
    rw [← hT]; rfl
  have h0 : (frzUn [true, true] [.val (tabP t), mo]).map some ++ List.replicate (7 - [true, true].length) none = [some (.val (tabP t)), some mo, none, none, none, none, none] := by rcases hmo with rfl | rfl <;> rfl
  rw [h0]
  refine seq_nx h2 (seq_nx (forS_ok h3 h1) ?_)
  refine retS_ok (opN_ok (args_cons (comp1m (e := [some (.val (tabP t)), some (.val (.lst (ms.map moreP))), some (.val (.lst (T.map fun r => PV.lst (intL r)))), none, x4, x5, x6]) (fun r => PV.lst (intL r)) (fun r => .val (rowP r)) T h4 trivial (fun r _ => rfl) (by rw [hs]; exact hl)) args_nil) (vws_cons rfl vws_nil) rfl)
theorem law_traded_ok (o : List Nat) (a b : Nat) (ha : a < o.length) (hb : b < o.length) :
    F__law_traded [.val (natsP o), .val (.int (a : Nat)), .val (.int (b : Nat))] = .ret (.val (natsP (exch o a b))) [.val (natsP o), .val (.int (a : Nat)), .val (.int (b : Nat))] := by
  rw [natsP.eq_1 (exch o a b), ← exch_natL]
  have gl : ∀ {c : Nat}, c < o.length → getP (.lst (natL o)) (.int (c : Nat)) = some (ovI (o.getD c 0 : Nat)) := by
    intro c hc
    rw [getL (by simpa [natL] using hc)]; simp [natL, hc]
  refine mk_rt (e := [some (.val (natsP o)), some (.val (.int (a : Nat))), some (.val (.int (b : Nat))), some (.ls (((natL o).set a (.int (o.getD b 0 : Nat))).set b (.int (o.getD a 0 : Nat))))]) rfl (by decide) ?_ rfl
  refine seq_nx (asgS_ok (opN_ok (args_cons rfl args_nil) (vws_cons rfl vws_nil) rfl) rfl rfl) ?_
  refine seq_nx (asgG_ok (tupD_ok (args_cons (op2_ok rfl rfl rfl rfl (gl hb)) (args_cons (op2_ok rfl rfl rfl rfl (gl ha)) args_nil)) (escs_cons rfl (escs_cons rfl escs_nil))) rfl
    (gT_2 (gL_ls rfl rfl rfl rfl (by simpa [natL] using ha) rfl) (gL_ls rfl rfl rfl rfl (by simpa [natL] using hb) rfl))) ?_
  exact retS_ok (opN_ok (args_cons rfl args_nil) (vws_cons rfl vws_nil) rfl)
theorem slP_row (r : List Int) (lo hi : Option Int) : slP (rowP r) lo hi = some (.val (.tup (cutP (intL r) lo hi))) := rfl
theorem law_flip_ok (s : List Int) (i : Nat) (h : i < s.length) (hl : s.length ≤ 1000) : F__law_flip [.val (rowP s), .val (.int (i : Nat))] = .ret (.val (rowP (negAt s i))) [.val (rowP s), .val (.int (i : Nat))] := by
  have hx := lnX_eq
  have h1 : slP (rowP s) none (some (i : Int)) = some (.val (.tup ((intL s).take i))) := by rw [slP_row, cutP_to (β := Unit) _ _ (by simp [intL]; omega)]
  have h2 : slP (rowP s) (some ((i : Int) + 1)) none = some (.val (.tup ((intL s).drop (i + 1)))) := by
    rw [slP_row, show (i : Int) + 1 = ((i + 1 : Nat) : Int) by omega, cutP_from (β := Unit) _ _ (by simp [intL]; omega)]
  have hl1 : (intL s).length = s.length := by simp [intL]
  refine mk_rt (e := [some (.val (rowP s)), some (.val (.int (i : Nat)))]) rfl (by decide) ?_ rfl
  refine retS_ok (op2_ok (op2_ok (slE_ok rfl rfl (prt_ok rfl rfl) rfl h1) (tupD_ok (args_cons (op1_ok (op2_ok rfl rfl rfl rfl (get_row h)) rfl rfl) args_nil) (escs_cons rfl escs_nil)) rfl rfl (o := .val (.tup ((intL s).take i ++ [.int (-(s.getD i 0))]))) ?_)
    (slE_ok rfl (prt_ok (op2_ok rfl rfl rfl rfl rfl) rfl) rfl rfl h2) rfl rfl ?_)
  · have : ((intL s).take i).length + [PV.int (-(s.getD i 0))].length ≤ lnX := by simp; omega
    simp only [addP, OV.frz, OV.see]; rw [if_pos this]
  · have : ((intL s).take i ++ [PV.int (-(s.getD i 0))]).length + ((intL s).drop (i + 1)).length ≤ lnX := by simp; omega
    simp only [addP]; rw [if_pos this, rowP, negAt, intL, intL, List.map_set, List.set_eq_take_append_cons_drop]
    simp [h]
theorem more_tip (t : List (List Int)) {a i k : Nat} {w : Int} (ha : a < t.length) : [(a, i, w), (a, k, w)].foldl moreAt t = t.set a (addAt (addAt (t.getD a []) (i, w)) (k, w)) := by
  simp [moreAt, ha]
theorem more_turn (t : List (List Int)) {a b i j : Nat} {u v x y : Int} (ha : a < t.length) (hb : b < t.length) (hab : a ≠ b) : [(a, i, u), (a, j, v), (b, i, x), (b, j, y)].foldl moreAt t = (t.set a (addAt (addAt (t.getD a []) (i, u)) (j, v))).set b (addAt (addAt (t.getD b []) (i, x)) (j, y)) := by
  simp [moreAt, ha, hb, hab]
theorem get_last {o : List Nat} (h : 0 < o.length) : getP (natsP o) (.int (-1)) = some (ovI ((o.getD (o.length - 1) 0 : Nat) : Int)) := by
  have h1 : ixP (natL o).length (-1) = some (o.length - 1) := by
    have h2 : -((natL o).length : Int) ≤ -1 := by simp [natL]; omega
    simp only [ixP]; rw [if_neg (by omega), if_pos h2]
    simp [natL]; omega
  have h3 : o.length - 1 < o.length := by omega
  simp only [getP, natsP, h1, Option.bind]
  simp [natL, h3]
theorem law_put_ok {n : Nat} {p : Pl} {s : Sp} (h : p.Ok n) (hs : s.Ok n) (h3 : 3 ≤ n) (hn : n ≤ 1000) : F__law_put [.val p.pv, .val s.pv] = .ret (.val (p.step s).pv) [.val p.pv, .val s.pv] := by
  have hlx := lnX_eq
  have hol := h.ol
  have htl := h.tl
  cases s with
  | tip a w =>
    obtain ⟨ha, hw⟩ := hs
    have hi := mem_lt h.o (a := a) (by omega)
    have hk := mem_lt h.o (a := n - 1) (by omega)
    rw [Pl.step, hol, ← more_tip p.t (by omega)]
    have hmore := law_more_ok (n := n) p.t [(a, p.o.getD a 0, w), (a, p.o.getD (n - 1) 0, w)] h.tr (by omega) (by
      intro m hm
      simp only [List.mem_cons, List.not_mem_nil, or_false] at hm
      rcases hm with rfl | rfl
      · exact ⟨by show a < _; omega, hi⟩
      · exact ⟨by show a < _; omega, hk⟩) (mo := .ls ([(a, p.o.getD a 0, w), (a, p.o.getD (n - 1) 0, w)].map moreP)) (.inl rfl)
    refine mk_rt (e := [some (.val p.pv), some (.val (Sp.tip a w).pv), some (.val (natsP p.o)), some (.val (tabP p.t)), some (.val (rowP p.s)), some (ovI (a : Nat)), some (ovI w), some (ovI (p.o.getD a 0 : Nat)), some (ovI (p.o.getD (n - 1) 0 : Nat)), some (.val (.lst ([(a, p.o.getD a 0, w), (a, p.o.getD (n - 1) 0, w)].map moreP))), none, none, none, none, none, none]) rfl (by decide) ?_ rfl
    refine seq_nx (asgG_ok rfl rfl (u := .nx [some (.val p.pv), some (.val (Sp.tip a w).pv), some (.val (natsP p.o)), some (.val (tabP p.t)), some (.val (rowP p.s)), none, none, none, none, none, none, none, none, none, none, none]) rfl) ?_
    refine seq_rt (ifS_t (tstB_ok (op2_ok (op2_ok rfl rfl rfl rfl rfl) rfl rfl rfl (o := ovB true) ?_) rfl) ?_)
    · show bop eqB (.str "tip") (.str "tip") = _
      kernel_rfl
    refine seq_nx (parS_ok (args_cons (op2_ok rfl rfl rfl rfl rfl) (args_cons (op2_ok rfl rfl rfl rfl rfl) args_nil)) rfl rfl) ?_
    refine seq_nx (parS_ok (args_cons (op2_ok rfl rfl rfl rfl (get_nat (by omega : a < p.o.length))) (args_cons (op2_ok rfl rfl rfl rfl (o := ovI (p.o.getD (n - 1) 0 : Nat)) (by rw [show n - 1 = p.o.length - 1 by omega]; exact get_last (by omega))) args_nil)) rfl rfl) ?_
    refine seq_nx (asgS_ok (lstD_ok (args_cons (tupD_ok (args_cons rfl (args_cons rfl (args_cons rfl args_nil))) (escs_cons rfl (escs_cons rfl (escs_cons rfl escs_nil)))) (args_cons (tupD_ok (args_cons rfl (args_cons rfl (args_cons rfl args_nil))) (escs_cons rfl (escs_cons rfl (escs_cons rfl escs_nil)))) args_nil)) (escs_cons rfl (escs_cons rfl escs_nil))) rfl rfl) ?_
    refine retS_ok (tupD_ok (args_cons (callF_ok (rs := [.v (.val (natsP p.o)), .v (ovI (a : Nat)), .v (ovI ((n - 1 : Nat) : Int))]) (args_cons rfl (args_cons rfl (args_cons (op2_ok (opN_ok (args_cons rfl args_nil) (vws_cons rfl vws_nil) (len_nat p.o)) rfl rfl rfl (o := ovI ((n - 1 : Nat) : Int)) ?_) args_nil))) rfl rfl (law_traded_ok p.o a (n - 1) (by omega) (by omega)) rfl)
      (args_cons (callF_ok (rs := [.v (.val (tabP p.t)), .b 9]) (args_cons rfl (args_cons rfl args_nil)) rfl rfl hmore rfl) (args_cons (callF_ok (rs := [.v (.val (rowP p.s)), .v (ovI ((if w = 1 then p.o.getD a 0 else p.o.getD (n - 1) 0 : Nat) : Int))]) (args_cons rfl (args_cons (if_sign rfl rfl rfl) args_nil)) rfl rfl (law_flip_ok p.s _ ?_ (by rw [h.sl]; omega)) rfl) args_nil))) (escs_cons rfl (escs_cons rfl (escs_cons rfl escs_nil))))
    · simp only [subP, OV.see]; congr 3; omega
    · rw [h.sl]; split <;> assumption
  | turn a b u v w =>
    obtain ⟨hab, hb, hu, hv, hw⟩ := hs
    have hi := mem_lt h.o (a := a) (by omega)
    have hk := mem_lt h.o (a := b) (by omega)
    rw [Pl.step, ← more_turn p.t (by omega) (by omega) (by omega)]
    have hmore := law_more_ok (n := n) p.t [(a, p.o.getD a 0, u), (a, p.o.getD b 0, w * v), (b, p.o.getD a 0, 0 - w * u), (b, p.o.getD b 0, v)] h.tr (by omega) (by
      intro m hm
      simp only [List.mem_cons, List.not_mem_nil, or_false] at hm
      rcases hm with rfl | rfl | rfl | rfl
      · exact ⟨by show a < _; omega, hi⟩
      · exact ⟨by show a < _; omega, hk⟩
      · exact ⟨by show b < _; omega, hi⟩
      · exact ⟨by show b < _; omega, hk⟩) (mo := .ls ([(a, p.o.getD a 0, u), (a, p.o.getD b 0, w * v), (b, p.o.getD a 0, 0 - w * u), (b, p.o.getD b 0, v)].map moreP)) (.inl rfl)
    refine mk_rt (e := [some (.val p.pv), some (.val (Sp.turn a b u v w).pv), some (.val (natsP p.o)), some (.val (tabP p.t)), some (.val (rowP p.s)), none, none, some (ovI (p.o.getD a 0 : Nat)), none, some (.val (.lst ([(a, p.o.getD a 0, u), (a, p.o.getD b 0, w * v), (b, p.o.getD a 0, 0 - w * u), (b, p.o.getD b 0, v)].map moreP))), some (ovI (a : Nat)), some (ovI (b : Nat)), some (ovI u), some (ovI v), some (ovI w), some (ovI (p.o.getD b 0 : Nat))]) rfl (by decide) ?_ rfl
    refine seq_nx (asgG_ok rfl rfl (u := .nx [some (.val p.pv), some (.val (Sp.turn a b u v w).pv), some (.val (natsP p.o)), some (.val (tabP p.t)), some (.val (rowP p.s)), none, none, none, none, none, none, none, none, none, none, none]) rfl) ?_
    refine seq_nx (ifS_f (tstB_ok (op2_ok (op2_ok rfl rfl rfl rfl rfl) rfl rfl rfl (o := ovB false) ?_) rfl) rfl) ?_
    · show bop eqB (.str "turn") (.str "tip") = _
      kernel_rfl
    refine seq_nx (asgG_ok (slE_ok rfl (prt_ok rfl rfl) rfl rfl rfl) rfl (u := .nx [some (.val p.pv), some (.val (Sp.turn a b u v w).pv), some (.val (natsP p.o)), some (.val (tabP p.t)), some (.val (rowP p.s)), none, none, none, none, none, some (ovI (a : Nat)), some (ovI (b : Nat)), some (ovI u), some (ovI v), some (ovI w), none]) rfl) ?_
    refine seq_nx (parS_ok (args_cons (op2_ok rfl rfl rfl rfl (get_nat (by omega : a < p.o.length))) (args_cons (op2_ok rfl rfl rfl rfl (get_nat (by omega : b < p.o.length))) args_nil)) rfl rfl) ?_
    refine seq_nx (asgS_ok (lstD_ok (args_cons (tupD_ok (args_cons rfl (args_cons rfl (args_cons rfl args_nil))) (escs_cons rfl (escs_cons rfl (escs_cons rfl escs_nil)))) (args_cons (tupD_ok (args_cons rfl (args_cons rfl (args_cons (op2_ok rfl rfl rfl rfl (mul_sg hw)) args_nil))) (escs_cons rfl (escs_cons rfl (escs_cons rfl escs_nil))))
      (args_cons (tupD_ok (args_cons rfl (args_cons rfl (args_cons (op2_ok rfl (op2_ok rfl rfl rfl rfl (mul_sg hw)) rfl rfl rfl) args_nil))) (escs_cons rfl (escs_cons rfl (escs_cons rfl escs_nil)))) (args_cons (tupD_ok (args_cons rfl (args_cons rfl (args_cons rfl args_nil))) (escs_cons rfl (escs_cons rfl (escs_cons rfl escs_nil)))) args_nil)))) (escs_cons rfl (escs_cons rfl (escs_cons rfl (escs_cons rfl escs_nil))))) rfl rfl) ?_
    refine retS_ok (tupD_ok (args_cons (callF_ok (rs := [.v (.val (natsP p.o)), .v (ovI (a : Nat)), .v (ovI (b : Nat))]) (args_cons rfl (args_cons rfl (args_cons rfl args_nil))) rfl rfl (law_traded_ok p.o a b (by omega) (by omega)) rfl)
      (args_cons (callF_ok (rs := [.v (.val (tabP p.t)), .b 9]) (args_cons rfl (args_cons rfl args_nil)) rfl rfl hmore rfl) (args_cons (callF_ok (rs := [.v (.val (rowP p.s)), .v (ovI ((if w = 1 then p.o.getD b 0 else p.o.getD a 0 : Nat) : Int))]) (args_cons rfl (args_cons (if_sign rfl rfl rfl) args_nil)) rfl rfl (law_flip_ok p.s _ ?_ (by rw [h.sl]; omega)) rfl) args_nil))) (escs_cons rfl (escs_cons rfl (escs_cons rfl escs_nil))))
    rw [h.sl]; split <;> assumption
theorem law_put_all_ok {n : Nat} {p : Pl} {ss : List Sp} (h : p.Ok n) (hs : ∀ s ∈ ss, s.Ok n) (h3 : 3 ≤ n) (hn : n ≤ 1000) : F__law_put_all [.val p.pv, .val (stepsP ss)] = .ret (.val (p.steps ss).pv) [.val p.pv, .val (stepsP ss)] := by
  obtain ⟨e', h1, h2, x2, rfl⟩ := forL_fold (gt := gN 2) (body := asgS 0 (callF F__law_put [nm 0, nm 2])) (fun (s : Sp) => s.pv)
    (fun (q : Pl) e => q.Ok n ∧ ∃ x2, e = [some (.val q.pv), some (.val (stepsP ss)), x2]) Pl.step ss p [some (.val p.pv), some (.val (stepsP ss)), none] (by
      rintro s hm q e ⟨hq, x2, rfl⟩
      refine ⟨[some (.val q.pv), some (.val (stepsP ss)), some (.val s.pv)], _, rfl, asgS_ok (callF_ok (rs := [.v (.val q.pv), .v (.val s.pv)]) (args_cons rfl (args_cons rfl args_nil)) rfl rfl (law_put_ok hq (hs s hm) h3 hn) rfl) rfl rfl, step_ok hq (hs s hm) h3, _, rfl⟩) ⟨h, none, rfl⟩
  refine mk_rt (e := [some (.val (p.steps ss).pv), some (.val (stepsP ss)), x2]) rfl (by decide) ?_ rfl
  exact seq_nx (forS_ok (srcE_tup rfl rfl) h1) rfl
end Bs
end
/-! file K3 -/
section
set_option maxRecDepth 1000000
namespace K80
@[inline] def fc {α : Type} (n : Nat) (f : Nat → α) : α := Nat.rec (f 0) (fun k _ => f (k + 1)) n
def dg (c i : Nat) : Nat := c / 8 ^ i % 8
def exC (c a b : Nat) : Nat := c + dg c b * 8 ^ a + dg c a * 8 ^ b - dg c a * 8 ^ a - dg c b * 8 ^ b
def innC {α : Type} (n here : Nat) (k : Nat → List (Nat × Nat × Nat) → List Nat → α) : List Nat → Nat → List (Nat × Nat × Nat) → List Nat → α
  | [], bm, found, row => k bm found row
  | a :: r, bm, found, row => fc (exC here a (n - 1)) fun c => match Nat.testBit bm c with
    | true => innC n here k r bm found row
    | false => fc (bm ||| (1 <<< c)) fun bm' => innC n here k r bm' ((c, here, a) :: found) (c :: row)
/-- a whole level: row oldest first; nxt newest first -/
def levC {α : Type} (n : Nat) (mv : List Nat) (k : Nat → List (Nat × Nat × Nat) → List Nat → α) : List Nat → Nat → List (Nat × Nat × Nat) → List Nat → α
  | [], bm, found, nxt => k bm found nxt
  | h :: r, bm, found, nxt => innC n h (levC n mv k r) mv bm found nxt
def bfsC (n : Nat) (mv : List Nat) : Nat → Nat → List (Nat × Nat × Nat) → List Nat → List (Nat × Nat × Nat)
  | 0, _, found, row => match row with
    | [] => found
    | _ => []
  | m + 1, bm, found, row => levC n mv (bfsC n mv m) row.reverse bm found []
def homeC (n : Nat) : Nat := ((List.range n).map fun i => i * 8 ^ i).sum
def treeC (n : Nat) : List (Nat × Nat × Nat) := bfsC n (List.range (n - 1)) 10 (1 <<< homeC n) [] [homeC n]
theorem t5 : (treeC 5).length = 119 := by decide +kernel
theorem t6 : (treeC 6).length = 719 := by decide +kernel
end K80
end
/-! file K4 -/
section
set_option linter.all false
set_option autoImplicit false
set_option maxRecDepth 100000
namespace K80
open PySem hiding Env ret
open Mv Cm
def digs (n c : Nat) : List PV := (List.range n).map fun i => .int ((dg c i : Nat) : Int)
def tupC (n c : Nat) : PV := .tup (digs n c)
theorem peqs_digs : ∀ (l : List Nat) (c d : Nat), peqs (l.map fun i => .int ((dg c i : Nat) : Int)) (l.map fun i => .int ((dg d i : Nat) : Int)) = l.all fun i => dg c i == dg d i
  | [], c, d => by simp [peqs]
  | i :: l, c, d => by
    simp only [List.map_cons, peqs, peq, peqs_digs l c d, List.all_cons]
    congr 1
    rw [Bool.eq_iff_iff]; simp only [beq_iff_eq]; omega
theorem code_inj : ∀ (n c d : Nat), c < 8 ^ n → d < 8 ^ n → (∀ i, i < n → dg c i = dg d i) → c = d
  | 0, c, d, hc, hd, _ => by simp at hc hd; omega
  | n + 1, c, d, hc, hd, h => by
    have h0 := h 0 (by omega)
    simp only [dg, Nat.pow_zero, Nat.div_one] at h0
    have hr : c / 8 = d / 8 := by
      refine code_inj n (c / 8) (d / 8) ?_ ?_ ?_
      · rw [Nat.pow_succ] at hc; omega
      · rw [Nat.pow_succ] at hd; omega
      · intro i hi
        have := h (i + 1) (by omega)
        simp only [dg, Nat.pow_succ, Nat.mul_comm _ 8, ← Nat.div_div_eq_div_mul] at this
        simpa only [dg] using this
    omega
theorem peq_tupC (n c d : Nat) (hc : c < 8 ^ n) (hd : d < 8 ^ n) : peq (tupC n c) (tupC n d) = (c == d) := by
  simp only [tupC, peq, digs, peqs_digs]
  rw [Bool.eq_iff_iff]
  simp only [List.all_eq_true, List.mem_range, beq_iff_eq]
  exact ⟨fun h => code_inj n c d hc hd h, fun h => by subst h; simp⟩
end K80
end
/-! file K5 -/
section
set_option linter.all false
set_option autoImplicit false
set_option maxRecDepth 100000
namespace K80
open PySem hiding Env ret
open Mv Cm
/-- a dict by orders -/
def kv (n : Nat) (ents : List (Nat × PV)) : List (PV × PV) := ents.map fun x => (tupC n x.1, x.2)
def Small (n : Nat) (ents : List (Nat × PV)) : Prop := ∀ x ∈ ents, x.1 < 8 ^ n
theorem key_tupC (n c : Nat) : keyK (tupC n c) = true := by
  simp only [keyK, tupC, digs, List.all_map, List.all_eq_true]
  intro i _; rfl
theorem keyOk_kv (n c : Nat) (ents : List (Nat × PV)) : keyOk (tupC n c) (kv n ents) = true := by
  simp only [keyOk, key_tupC, Bool.true_and]
  cases ents <;> rfl
theorem find_kv (n c : Nat) (hc : c < 8 ^ n) : ∀ (ents : List (Nat × PV)), Small n ents → lookP (kv n ents) (tupC n c) = (ents.find? fun x => x.1 == c).map (·.2)
  | [], _ => rfl
  | x :: r, hs => by
    have hx := hs x (by simp)
    have ih := find_kv n c hc r (fun y hy => hs y (by simp [hy]))
    simp only [lookP, kv, List.map_cons, List.find?_cons, peq_tupC n x.1 c hx hc] at ih ⊢
    cases h : (x.1 == c)
    · simpa only [kv] using ih
    · rfl
theorem in_kv (n c : Nat) (hc : c < 8 ^ n) (ents : List (Nat × PV)) (hs : Small n ents) : inB (tupC n c) (.dic (kv n ents)) = some ((ents.find? fun x => x.1 == c).isSome) := by
  simp only [inB, keyOk_kv, if_true, find_kv n c hc ents hs, Option.isSome_map]
theorem put_kv (n c : Nat) (hc : c < 8 ^ n) (ents : List (Nat × PV)) (hs : Small n ents) (hl : ents.length < lnX) (hn : (ents.find? fun x => x.1 == c).isSome = false) (v : PV) : putO (kv n ents) (tupC n c) v = some (kv n (ents ++ [(c, v)])) := by
  have h1 : decide ((kv n ents).length < lnX) = true := by simp [kv, hl]
  simp only [putO, keyOk_kv, h1, Bool.and_self, if_true, putP, find_kv n c hc ents hs, Option.isSome_map, hn, Bool.false_eq_true, if_false]
  simp [kv]
end K80
end
/-! file K6 -/
section
set_option linter.all false
set_option autoImplicit false
set_option maxRecDepth 100000
namespace K80
open PySem hiding Env ret
open Mv Cm
theorem exch_ok (l : List PV) (a b : Nat) (ha : a < l.length) (hb : b < l.length) :
    Bx.F_exchanged_at [.val (.tup l), .val (.int a), .val (.int b)] = .ret (.val (.tup ((l.set a l[b]).set b l[a]))) [.val (.tup l), .val (.int a), .val (.int b)] := by
  refine mk_rt (e := [some (.val (.tup l)), some (.val (.int a)), some (.val (.int b)), some (.ls ((l.set a l[b]).set b l[a]))]) rfl (by decide) ?_ rfl
  refine seq_nx (asgS_ok (opN_ok (args_cons rfl args_nil) (vws_cons rfl vws_nil) rfl) rfl rfl) ?_
  refine seq_nx (asgG_ok (tupD_ok (args_cons (op2_ok rfl rfl rfl rfl (getT hb)) (args_cons (op2_ok rfl rfl rfl rfl (getT ha)) args_nil)) (escs_cons rfl (escs_cons rfl escs_nil))) rfl
    (gT_2 (gL_ls rfl rfl rfl rfl ha rfl) (gL_ls rfl rfl rfl rfl (by simpa using hb) rfl))) ?_
  exact retS_ok (opN_ok (args_cons rfl args_nil) (vws_cons rfl vws_nil) rfl)
end K80
end
/-! file K7 -/
section
set_option linter.all false
set_option autoImplicit false
set_option maxRecDepth 100000
namespace K80
open PySem hiding Env ret
open Mv Cm
/-- all that is asked of the orders that are met: exchanging is right on codes -/
def GoodC (n c : Nat) : Prop := c < 8 ^ n ∧ ∀ a, a < n - 1 → ∃ (h1 : a < (digs n c).length) (h2 : n - 1 < (digs n c).length), digs n (exC c a (n - 1)) = ((digs n c).set a (digs n c)[n - 1]).set (n - 1) (digs n c)[a] ∧ exC c a (n - 1) < 8 ^ n
def goodB (n c : Nat) : Bool := decide (c < 8 ^ n) && (List.range (n - 1)).all fun a => decide (exC c a (n - 1) < 8 ^ n) && (List.range n).all fun i => dg (exC c a (n - 1)) i == if i = n - 1 then dg c a else if i = a then dg c (n - 1) else dg c i
theorem good_of {n c : Nat} (h : goodB n c = true) (hn : 0 < n) : GoodC n c := by
  simp only [goodB, Bool.and_eq_true, decide_eq_true_eq, List.all_eq_true, List.mem_range, beq_iff_eq] at h
  refine ⟨h.1, fun a ha => ⟨by simp [digs]; omega, by simp [digs]; omega, ?_, (h.2 a ha).1⟩⟩
  apply List.ext_getElem
  · simp [digs]
  · intro i h1 h2
    have hi : i < n := by simpa [digs] using h1
    have := (h.2 a ha).2 i hi
    simp only [digs, List.getElem_map, List.getElem_range, List.getElem_set, this]
    by_cases h3 : n - 1 = i
    · simp [h3]
    · have h3' : ¬ i = n - 1 := fun h => h3 h.symm
      simp only [if_neg h3, if_neg h3']
      by_cases h4 : a = i
      · simp [h4]
      · have h4' : ¬ i = a := fun h => h4 h.symm
        simp only [if_neg h4, if_neg h4']
end K80
end
/-! file K8 -/
section
set_option linter.all false
set_option autoImplicit false
set_option maxRecDepth 100000
namespace K80
open PySem hiding Env ret
open Mv Cm
def mvP (n a : Nat) : PV := .tup [.int (a : Int), .int ((n - 1 : Nat) : Int)]
def entP (n : Nat) (x : Nat × Nat × Nat) : Nat × PV := (x.1, .tup [tupC n x.2.1, mvP n x.2.2])
/-- the dict: home first, then what was found, the oldest first -/
def ents (n : Nat) (found : List (Nat × Nat × Nat)) : List (Nat × PV) := (homeC n, .non) :: found.reverse.map (entP n)
/-- the bitmap tells what is in -/
def BmOk (n : Nat) (bm : Nat) (found : List (Nat × Nat × Nat)) : Prop := ∀ c, Nat.testBit bm c = ((ents n found).find? fun x => x.1 == c).isSome
theorem find_app {n c : Nat} {found : List (Nat × Nat × Nat)} {x : Nat × Nat × Nat} : ((ents n (x :: found)).find? fun y => y.1 == c).isSome = (((ents n found).find? fun y => y.1 == c).isSome || x.1 == c) := by
  simp only [ents, List.reverse_cons, List.map_append, List.map_cons, List.map_nil, ← List.cons_append]
  rw [List.find?_append]
  cases h : List.find? (fun y => y.1 == c) ((homeC n, PV.non) :: List.map (entP n) found.reverse) with
  | some v => simp
  | none => cases h2 : (x.1 == c) <;> simp [entP, h2]
theorem bm_put {n bm c h a : Nat} {found : List (Nat × Nat × Nat)} (hb : BmOk n bm found) : BmOk n (bm ||| (1 <<< c)) ((c, h, a) :: found) := by
  intro d
  rw [find_app, ← hb d, Nat.testBit_or, Nat.one_shiftLeft, Nat.testBit_two_pow]
  congr 1
end K80
end
/-! file K9 -/
section
set_option linter.all false
set_option autoImplicit false
set_option maxRecDepth 100000
namespace K80
open PySem hiding Env ret
open Mv Cm
/-- slots of order_tree -/
abbrev envT (n : Nat) (mvs : PV) (st : PV) (dc : List (PV × PV)) (q : List PV) (x5 x6 x7 : Option OV) : Env := [some (.val (.int n)), some (.val mvs), some (.val st), some (.dc dc), some (.ls q), x5, x6, x7]
def Sm (n : Nat) (found : List (Nat × Nat × Nat)) : Prop := ∀ x ∈ found, x.1 < 8 ^ n
theorem small_ents {n : Nat} {found : List (Nat × Nat × Nat)} (hh : homeC n < 8 ^ n) (h : Sm n found) : Small n (ents n found) := by
  intro x hx
  simp only [ents, List.mem_cons, List.mem_map, List.mem_reverse] at hx
  rcases hx with rfl | ⟨y, hy, rfl⟩
  · exact hh
  · exact h y hy
theorem ents_len {n : Nat} {found : List (Nat × Nat × Nat)} : (ents n found).length = found.length + 1 := by simp [ents]
abbrev bodyT : SS := (seqS (asgS 7 (callF Bx.F_exchanged_at [nm 5, op2 getP (nm 6) (cst (.int 0)), op2 getP (nm 6) (cst (.int 1))])) (ifS (tstB (op2 (bop ninB) (nm 7) (nm 3))) (seqS (asgG (gL putO 3 (nm 7)) (tupD [nm 5, nm 6])) (exprS (mLs appO 4 [nm 7]))) (skipS)))
theorem inn_ok {n h : Nat} (hg : GoodC n h) (hh : homeC n < 8 ^ n) (mvs st : PV) : ∀ (mv : List Nat) (bm : Nat) (found : List (Nat × Nat × Nat)) (nxt : List Nat) (q : List PV) (x6 x7 : Option OV),
    (∀ a ∈ mv, a < n - 1) → BmOk n bm found → Sm n found → found.length + mv.length + 2 < lnX → q.length + nxt.length + mv.length + 2 < lnX →
    ∃ (bm' : Nat) (new : List (Nat × Nat × Nat)) (y6 y7 : Option OV), (∀ (α : Type) (k : Nat → List (Nat × Nat × Nat) → List Nat → α), innC n h k mv bm found nxt = k bm' (new ++ found) (new.map (·.1) ++ nxt)) ∧
      forL (gN 6) bodyT (mv.map (mvP n)) (envT n mvs st (kv n (ents n found)) (q ++ nxt.reverse.map (tupC n)) (some (.val (tupC n h))) x6 x7) =
        .nx (envT n mvs st (kv n (ents n (new ++ found))) (q ++ (new.map (·.1) ++ nxt).reverse.map (tupC n)) (some (.val (tupC n h))) y6 y7) ∧
      BmOk n bm' (new ++ found) ∧ Sm n (new ++ found) ∧ new.length ≤ mv.length
  | [], bm, found, nxt, q, x6, x7, _, hb, hs, _, _ => ⟨bm, [], x6, x7, fun α k => rfl, rfl, hb, hs, Nat.le_refl _⟩
  | a :: mv, bm, found, nxt, q, x6, x7, hmv, hb, hs, hl, hq => by
    have ha : a < n - 1 := hmv a (by simp)
    obtain ⟨h1, h2, he, hc8⟩ := hg.2 a ha
    have hex := exch_ok (digs n h) a (n - 1) h1 h2
    rw [← he] at hex
    have hc : exC h a (n - 1) < 8 ^ n := hc8
    generalize hcc : exC h a (n - 1) = c at *
    have hin := in_kv n c hc (ents n found) (small_ents hh hs)
    have hfc : ∀ (α : Type) (f : Nat → α) (m : Nat), fc m f = f m := by intro α f m; cases m <;> rfl
    simp only [List.length_cons] at hl hq
    have hseq1 : (asgS 7 (callF Bx.F_exchanged_at [nm 5, op2 getP (nm 6) (cst (.int 0)), op2 getP (nm 6) (cst (.int 1))])) (envT n mvs st (kv n (ents n found)) (q ++ nxt.reverse.map (tupC n)) (some (.val (tupC n h))) (some (.val (mvP n a))) x7) =
        .nx (envT n mvs st (kv n (ents n found)) (q ++ nxt.reverse.map (tupC n)) (some (.val (tupC n h))) (some (.val (mvP n a))) (some (.val (tupC n c)))) :=
      asgS_ok (callF_ok (rs := [.v (.val (tupC n h)), .v (.val (.int a)), .v (.val (.int (n - 1 : Nat)))]) (args_cons rfl (args_cons (op2_ok rfl rfl rfl rfl rfl) (args_cons (op2_ok rfl rfl rfl rfl rfl) args_nil))) rfl rfl hex rfl) rfl rfl
    cases ht : Nat.testBit bm c with
    | true =>
      have hin' : ((ents n found).find? fun x => x.1 == c).isSome = true := by rw [← hb c]; exact ht
      obtain ⟨bm', new, y6, y7, i1, i2, i3, i4, i5⟩ := inn_ok hg hh mvs st mv bm found nxt q (some (.val (mvP n a))) (some (.val (tupC n c))) (fun b hb => hmv b (by simp [hb])) hb hs (by omega) (by omega)
      refine ⟨bm', new, y6, y7, ?_, ?_, i3, i4, by simp; omega⟩
      · intro α k
        rw [innC, hfc, hcc]; simp only [ht]
        exact i1 α k
      · refine forL_nx rfl ?_ i2
        refine seq_nx hseq1 (ifS_f (tstB_ok (op2_ok rfl rfl rfl rfl (o := .val (.bl false)) ?_) rfl) rfl)
        simp only [bop, ninB, hin, hin', Option.map, Bool.not_true]
    | false =>
      have hin' : ((ents n found).find? fun x => x.1 == c).isSome = false := by rw [← hb c]; exact ht
      have hs' : Sm n ((c, h, a) :: found) := by
        intro x hx
        simp only [List.mem_cons] at hx
        rcases hx with rfl | hx
        · exact hc
        · exact hs x hx
      have hput := put_kv n c hc (ents n found) (small_ents hh hs) (by rw [ents_len]; omega) hin' (.tup [tupC n h, mvP n a])
      have hents : ents n found ++ [(c, .tup [tupC n h, mvP n a])] = ents n ((c, h, a) :: found) := by simp [ents, entP]
      rw [hents] at hput
      obtain ⟨bm', new, y6, y7, i1, i2, i3, i4, i5⟩ := inn_ok hg hh mvs st mv (bm ||| (1 <<< c)) ((c, h, a) :: found) (c :: nxt) q (some (.val (mvP n a))) (some (.val (tupC n c))) (fun b hb => hmv b (by simp [hb])) (bm_put hb) hs' (by simp; omega) (by simp; omega)
      refine ⟨bm', new ++ [(c, h, a)], y6, y7, ?_, ?_, by simpa using i3, by simpa using i4, by simp; omega⟩
      · intro α k
        rw [innC, hfc, hcc]; simp only [ht, hfc]
        rw [i1 α k]; simp
      · have i2' := i2
        rw [show q ++ (c :: nxt).reverse.map (tupC n) = (q ++ nxt.reverse.map (tupC n)) ++ [tupC n c] by simp] at i2'
        rw [show (new ++ [(c, h, a)]) ++ found = new ++ (c, h, a) :: found by simp, show (new ++ [(c, h, a)]).map (·.1) ++ nxt = new.map (·.1) ++ c :: nxt by simp]
        refine forL_nx rfl ?_ i2'
        refine seq_nx hseq1 (ifS_t (tstB_ok (op2_ok rfl rfl rfl rfl (o := .val (.bl true)) ?_) rfl) ?_)
        · simp only [bop, ninB, hin, hin', Option.map, Bool.not_false]
        · refine seq_nx (asgG_ok (tupD_ok (args_cons rfl (args_cons rfl args_nil)) (escs_cons rfl (escs_cons rfl escs_nil))) rfl (gL_dc rfl rfl rfl rfl hput rfl)) ?_
          refine exprS_ok (mLs_ok rfl (args_cons rfl args_nil) (escs_cons rfl escs_nil) rfl (p := .non) (ys := (q ++ nxt.reverse.map (tupC n)) ++ [tupC n c]) ?_ rfl)
          have : (q ++ nxt.reverse.map (tupC n)).length < lnX := by simp; omega
          simp only [appO, if_pos this]; rfl
end K80
end
/-! file K10 -/
section
set_option linter.all false
set_option autoImplicit false
set_option maxRecDepth 100000
namespace K80
open PySem hiding Env ret
open Mv Cm
abbrev condT : SE Bool := tstB (op2 (bop gtB) (opN lenP [nm 4]) (cst (.int 0)))
abbrev stepT : SS := (seqS (asgS 5 (mLs popO 4 [cst (.int 0)])) (forS (srcE (nm 1)) (gN 6) bodyT))
def mvs (n : Nat) : List Nat := List.range (n - 1)
theorem mvs_lt {n : Nat} : ∀ a ∈ mvs n, a < n - 1 := by intro a ha; simpa [mvs] using ha
/-- the moves: at first an own list, then one that is handed on -/
def MvL (n : Nat) (o : OV) : Prop := o = .ls ((mvs n).map (mvP n)) ∨ o = .val (.lst ((mvs n).map (mvP n)))
abbrev envO (n : Nat) (mo : OV) (st : PV) (dc : List (PV × PV)) (q : List PV) (x5 x6 x7 : Option OV) : Env := [some (.val (.int n)), some mo, some (.val st), some (.dc dc), some (.ls q), x5, x6, x7]
theorem step_ok {n h : Nat} (hn : n < 1000) (hg : GoodC n h) (hh : homeC n < 8 ^ n) {mo : OV} (hmo : MvL n mo) (st : PV) (bm : Nat) (found : List (Nat × Nat × Nat)) (r nxt : List Nat) (x5 x6 x7 : Option OV)
    (hb : BmOk n bm found) (hs : Sm n found) (hl : found.length + 2000 < lnX) (hq : r.length + nxt.length + 2000 < lnX) :
    ∃ (bm' : Nat) (new : List (Nat × Nat × Nat)) (y5 y6 y7 : Option OV), (∀ (α : Type) (k : Nat → List (Nat × Nat × Nat) → List Nat → α), innC n h k (mvs n) bm found nxt = k bm' (new ++ found) (new.map (·.1) ++ nxt)) ∧
      condT (envO n mo st (kv n (ents n found)) ((h :: r).map (tupC n) ++ nxt.reverse.map (tupC n)) x5 x6 x7) = .ok true (envO n mo st (kv n (ents n found)) ((h :: r).map (tupC n) ++ nxt.reverse.map (tupC n)) x5 x6 x7) ∧
      stepT (envO n mo st (kv n (ents n found)) ((h :: r).map (tupC n) ++ nxt.reverse.map (tupC n)) x5 x6 x7) =
        .nx (envO n (.val (.lst ((mvs n).map (mvP n)))) st (kv n (ents n (new ++ found))) (r.map (tupC n) ++ (new.map (·.1) ++ nxt).reverse.map (tupC n)) y5 y6 y7) ∧
      BmOk n bm' (new ++ found) ∧ Sm n (new ++ found) ∧ new.length ≤ n := by
  have hml : (mvs n).length = n - 1 := by simp [mvs]
  obtain ⟨bm', new, y6, y7, i1, i2, i3, i4, i5⟩ := inn_ok hg hh (.lst ((mvs n).map (mvP n))) st (mvs n) bm found nxt (r.map (tupC n)) x6 x7 mvs_lt hb hs (by omega) (by simp; omega)
  refine ⟨bm', new, some (.val (tupC n h)), y6, y7, i1, ?_, ?_, i3, i4, by omega⟩
  · refine tstB_ok (op2_ok (opN_ok (args_cons rfl args_nil) (vws_cons rfl vws_nil) rfl) rfl rfl rfl (o := .val (.bl true)) ?_) rfl
    simp [bop, gtB]
    omega
  · refine seq_nx (asgS_ok (mLs_ok rfl (args_cons rfl args_nil) (escs_cons rfl escs_nil) rfl (p := tupC n h) (ys := r.map (tupC n) ++ nxt.reverse.map (tupC n)) rfl rfl) rfl rfl) ?_
    have hsrc : srcE (nm 1) (envO n mo st (kv n (ents n found)) (r.map (tupC n) ++ nxt.reverse.map (tupC n)) (some (.val (tupC n h))) x6 x7) = .ok ((mvs n).map (mvP n)) (envO n (.val (.lst ((mvs n).map (mvP n)))) st (kv n (ents n found)) (r.map (tupC n) ++ nxt.reverse.map (tupC n)) (some (.val (tupC n h))) x6 x7) := by
      rcases hmo with rfl | rfl <;> rfl
    exact forS_ok hsrc i2
theorem lev_ok {n : Nat} (hn : n < 1000) (hh : homeC n < 8 ^ n) (st : PV) : ∀ (r : List Nat) (mo : OV) (bm : Nat) (found : List (Nat × Nat × Nat)) (nxt : List Nat) (x5 x6 x7 : Option OV) (N : Nat),
    MvL n mo → BmOk n bm found → Sm n found → found.length + r.length * n + 2000 < lnX → r.length + nxt.length + r.length * n + 2000 < lnX →
    (∀ h ∈ r, GoodC n h) →
    ∃ (mo' : OV) (bm' : Nat) (new : List (Nat × Nat × Nat)) (y5 y6 y7 : Option OV), MvL n mo' ∧ (∀ (α : Type) (k : Nat → List (Nat × Nat × Nat) → List Nat → α), levC n (mvs n) k r bm found nxt = k bm' (new ++ found) (new.map (·.1) ++ nxt)) ∧
      whileL condT stepT (N + r.length) (envO n mo st (kv n (ents n found)) (r.map (tupC n) ++ nxt.reverse.map (tupC n)) x5 x6 x7) =
        whileL condT stepT N (envO n mo' st (kv n (ents n (new ++ found))) ((new.map (·.1) ++ nxt).reverse.map (tupC n)) y5 y6 y7) ∧
      BmOk n bm' (new ++ found) ∧ Sm n (new ++ found) ∧ new.length ≤ r.length * n
  | [], mo, bm, found, nxt, x5, x6, x7, N, hmo, hb, hs, _, _, _ => ⟨mo, bm, [], x5, x6, x7, hmo, fun α k => rfl, rfl, hb, hs, Nat.zero_le _⟩
  | h :: r, mo, bm, found, nxt, x5, x6, x7, N, hmo, hb, hs, hl, hq, hg => by
    have hg' := hg
    simp only [List.length_cons, Nat.add_mul, Nat.one_mul] at hl hq
    obtain ⟨bm1, new1, y5, y6, y7, i1, i2, i3, i4, i5, i6⟩ := step_ok hn (hg' h (by simp)) hh hmo st bm found r nxt x5 x6 x7 hb hs (by omega) (by omega)
    obtain ⟨mo', bm', new, z5, z6, z7, j0, j1, j2, j3, j4, j5⟩ := lev_ok hn hh st r (.val (.lst ((mvs n).map (mvP n)))) bm1 (new1 ++ found) (new1.map (·.1) ++ nxt) y5 y6 y7 N (.inr rfl) i4 i5 (by simp; omega) (by simp; omega) (fun h' hh' => hg' h' (by simp [hh']))
    refine ⟨mo', bm', new ++ new1, z5, z6, z7, j0, ?_, ?_, by simpa using j3, by simpa using j4, by simp [Nat.add_mul]; omega⟩
    · intro α k
      rw [levC, i1, j1]; simp
    · rw [show N + (h :: r).length = (N + r.length) + 1 by simp; omega]
      rw [while_t i2 i3 rfl, j2]; simp
end K80
end
/-! file K11 -/
section
set_option linter.all false
set_option autoImplicit false
set_option maxRecDepth 100000
namespace K80
open PySem hiding Env ret
open Mv Cm
theorem fc_eq {α : Type} (f : Nat → α) (m : Nat) : fc m f = f m := by cases m <;> rfl
theorem inn_shape (n h : Nat) : ∀ (mv : List Nat) (bm : Nat) (found : List (Nat × Nat × Nat)) (nxt : List Nat),
    ∃ (bm' : Nat) (new : List (Nat × Nat × Nat)), ∀ (α : Type) (k : Nat → List (Nat × Nat × Nat) → List Nat → α), innC n h k mv bm found nxt = k bm' (new ++ found) (new.map (·.1) ++ nxt)
  | [], bm, found, nxt => ⟨bm, [], fun α k => rfl⟩
  | a :: mv, bm, found, nxt => by
    cases ht : Nat.testBit bm (exC h a (n - 1)) with
    | true =>
      obtain ⟨bm', new, i⟩ := inn_shape n h mv bm found nxt
      refine ⟨bm', new, fun α k => ?_⟩
      rw [innC, fc_eq]; simp only [ht]; exact i α k
    | false =>
      obtain ⟨bm', new, i⟩ := inn_shape n h mv (bm ||| (1 <<< exC h a (n - 1))) ((exC h a (n - 1), h, a) :: found) (exC h a (n - 1) :: nxt)
      refine ⟨bm', new ++ [(exC h a (n - 1), h, a)], fun α k => ?_⟩
      rw [innC, fc_eq]; simp only [ht, fc_eq]; rw [i α k]; simp
theorem lev_shape (n : Nat) (mv : List Nat) : ∀ (r : List Nat) (bm : Nat) (found : List (Nat × Nat × Nat)) (nxt : List Nat),
    ∃ (bm' : Nat) (new : List (Nat × Nat × Nat)), ∀ (α : Type) (k : Nat → List (Nat × Nat × Nat) → List Nat → α), levC n mv k r bm found nxt = k bm' (new ++ found) (new.map (·.1) ++ nxt)
  | [], bm, found, nxt => ⟨bm, [], fun α k => rfl⟩
  | h :: r, bm, found, nxt => by
    obtain ⟨b1, n1, i1⟩ := inn_shape n h mv bm found nxt
    obtain ⟨b2, n2, i2⟩ := lev_shape n mv r b1 (n1 ++ found) (n1.map (·.1) ++ nxt)
    refine ⟨b2, n2 ++ n1, fun α k => ?_⟩
    rw [levC, i1, i2]; simp
theorem bfs_shape (n : Nat) (mv : List Nat) : ∀ (m bm : Nat) (found : List (Nat × Nat × Nat)) (row : List Nat), bfsC n mv m bm found row ≠ [] → ∃ X, bfsC n mv m bm found row = X ++ found
  | 0, bm, found, row, h => by
    cases row with
    | nil => exact ⟨[], rfl⟩
    | cons a r => exact absurd rfl h
  | m + 1, bm, found, row, h => by
    obtain ⟨b1, n1, i1⟩ := lev_shape n mv row.reverse bm found []
    rw [bfsC, i1] at h ⊢
    obtain ⟨X, hX⟩ := bfs_shape n mv m b1 (n1 ++ found) _ h
    exact ⟨X ++ n1, by rw [hX]; simp⟩
theorem bfs_end (n : Nat) (mo : OV) (st : PV) (found : List (Nat × Nat × Nat)) (x5 x6 x7 : Option OV) (N : Nat) : whileL condT stepT (N + 1) (envO n mo st (kv n (ents n found)) [] x5 x6 x7) = .nx (envO n mo st (kv n (ents n found)) [] x5 x6 x7) := by
  refine while_f (tstB_ok (op2_ok (opN_ok (args_cons rfl args_nil) (vws_cons rfl vws_nil) rfl) rfl rfl rfl (o := .val (.bl false)) ?_) rfl)
  rfl
theorem bfs_ok {n : Nat} (hn : n ≤ 10) (hh : homeC n < 8 ^ n) (st : PV) (fin : List (Nat × Nat × Nat)) (hf : fin ≠ []) (hfl : fin.length ≤ 1000) (hg : ∀ x ∈ fin, GoodC n x.1) (m : Nat) :
    ∀ (bm : Nat) (found : List (Nat × Nat × Nat)) (row : List Nat) (mo : OV) (x5 x6 x7 : Option OV) (N : Nat),
    bfsC n (mvs n) m bm found row = fin → (∀ h ∈ row, GoodC n h) → row.length ≤ 1000 → MvL n mo → BmOk n bm found → Sm n found → m * 1000 + 1 ≤ N →
    ∃ (mo' : OV) (y5 y6 y7 : Option OV), MvL n mo' ∧ whileL condT stepT N (envO n mo st (kv n (ents n found)) (row.reverse.map (tupC n)) x5 x6 x7) = .nx (envO n mo' st (kv n (ents n fin)) [] y5 y6 y7) := by
  induction m with
  | zero =>
    intro bm found row mo x5 x6 x7 N e hr hl hmo hb hs hN
    cases row with
    | cons a r => exact absurd e.symm hf
    | nil =>
      obtain ⟨N, rfl⟩ : ∃ k, N = k + 1 := ⟨N - 1, by omega⟩
      have e : found = fin := e
      subst e
      exact ⟨mo, x5, x6, x7, hmo, bfs_end n mo st found x5 x6 x7 N⟩
  | succ m ih =>
    intro bm found row mo x5 x6 x7 N e hr hl hmo hb hs hN
    obtain ⟨X0, hX0⟩ := bfs_shape n (mvs n) (m + 1) bm found row (by rw [e]; exact hf)
    have hfl0 : found.length ≤ 1000 := by rw [e] at hX0; rw [hX0] at hfl; simp at hfl; omega
    have hlx : lnX = 16777216 := rfl
    have hmul : row.reverse.length * n ≤ 1000 * 10 := Nat.mul_le_mul (by simpa using hl) hn
    obtain ⟨N', rfl⟩ : ∃ k, N = k + row.reverse.length := ⟨N - row.reverse.length, by simp; omega⟩
    have hl' : row.reverse.length ≤ 1000 := by simpa using hl
    obtain ⟨mo', bm', new, y5, y6, y7, j0, j1, j2, j3, j4, j5⟩ := lev_ok (by omega : n < 1000) hh st row.reverse mo bm found [] x5 x6 x7 N' hmo hb hs (by omega) (by simp only [List.length_nil]; omega) (fun h hh' => hr h (by simpa using hh'))
    rw [bfsC, j1] at e
    obtain ⟨X, hX⟩ := bfs_shape n (mvs n) m bm' (new ++ found) _ (by rw [e]; exact hf)
    rw [e] at hX
    have hnl : new.length ≤ 1000 := by rw [hX] at hfl; simp at hfl; omega
    obtain ⟨mo2, z5, z6, z7, k0, k1⟩ := ih bm' (new ++ found) (new.map (·.1) ++ []) mo' y5 y6 y7 N' e (by
      intro h hh'
      simp only [List.append_nil, List.mem_map] at hh'
      obtain ⟨x, hx, rfl⟩ := hh'
      exact hg x (by rw [hX]; simp [hx])) (by simpa using hnl) j0 j3 j4 (by omega)
    refine ⟨mo2, z5, z6, z7, k0, ?_⟩
    simp only [List.reverse_nil, List.map_nil, List.append_nil] at j2
    rw [j2, ← k1]
    simp only [List.append_nil]
/-- what the kernel is asked of so many sides -/
def sideB (n : Nat) : Bool := decide (homeC n < 8 ^ n) && goodB n (homeC n) && !(treeC n).isEmpty && decide ((treeC n).length ≤ 1000) && (treeC n).all fun x => goodB n x.1
theorem side3 : sideB 3 = true := by decide +kernel
theorem side4 : sideB 4 = true := by decide +kernel
theorem side5 : sideB 5 = true := by decide +kernel
theorem side6 : sideB 6 = true := by decide +kernel
end K80
end
/-! file K12 -/
section
set_option linter.all false
set_option autoImplicit false
set_option maxRecDepth 100000
namespace K80
open PySem hiding Env ret
open Mv Cm
structure Side (n : Nat) : Prop where
  le : n ≤ 10
  hh : homeC n < 8 ^ n
  gh : GoodC n (homeC n)
  ne : treeC n ≠ []
  len : (treeC n).length ≤ 1000
  good : ∀ x ∈ treeC n, GoodC n x.1
theorem side_of {n : Nat} (h : sideB n = true) (h0 : 0 < n) (h1 : n ≤ 10) : Side n := by
  simp only [sideB, Bool.and_eq_true, decide_eq_true_eq, Bool.not_eq_true', List.all_eq_true] at h
  obtain ⟨⟨⟨⟨a, b⟩, c⟩, d⟩, e⟩ := h
  exact ⟨h1, a, good_of b h0, by intro h; rw [h] at c; simp at c, d, fun x hx => good_of (e x hx) h0⟩
def treeD (n : Nat) : List (PV × PV) := kv n (ents n (treeC n))
/-- the tree starts with home alone -/
def codesC (n : Nat) : List Nat := homeC n :: (treeC n).reverse.map (·.1)
theorem bm_home (n : Nat) : BmOk n (1 <<< homeC n) [] := by
  intro c
  rw [Nat.one_shiftLeft, Nat.testBit_two_pow]
  simp only [ents, List.reverse_nil, List.map_nil, List.find?_cons, List.find?_nil]
  cases h : (homeC n == c) <;> simp_all
end K80
namespace K80
open PySem hiding Env ret
open Mv Cm
theorem order_tree_ok {n : Nat} (S : Side n) (hst : rgP true [.int n] = some (.val (tupC n (homeC n)))) :
    ∃ mo', Bx.F_order_tree [.val (.int n), .ls ((mvs n).map (mvP n))] = .ret (.dc (treeD n)) [.val (.int n), mo'] := by
  obtain ⟨mo', y5, y6, y7, h0, h1⟩ := bfs_ok S.le S.hh (tupC n (homeC n)) (treeC n) S.ne S.len S.good 10 (1 <<< homeC n) [] [homeC n] (.ls ((mvs n).map (mvP n))) none none none 100000 rfl
    (by intro h hh; simp only [List.mem_singleton] at hh; subst hh; exact S.gh) (by simp) (.inl rfl) (bm_home n) (by intro x hx; cases hx) (by omega)
  refine ⟨mo', mk_rtb (i := 3) (e := envO n mo' (tupC n (homeC n)) (kv n (ents n (treeC n))) [] y5 y6 y7) rfl (by decide) ?_ rfl (by simp) rfl⟩
  refine seq_nx (asgS_ok (opN_ok (args_cons rfl args_nil) (vws_cons rfl vws_nil) hst) rfl rfl) ?_
  refine seq_nx (e1 := envO n (.ls ((mvs n).map (mvP n))) (tupC n (homeC n)) (kv n (ents n [])) [tupC n (homeC n)] none none none) ?_ (seq_nx h1 rfl)
  have hput : putO [] (tupC n (homeC n)) .non = some [(tupC n (homeC n), .non)] := by
    have h1 := keyOk_kv n (homeC n) []
    simp only [kv, List.map_nil] at h1
    simp only [putO, h1, putP, lookP, List.find?_nil, Option.map_none, Option.isSome_none, List.length_nil, lnX]
    rfl
  have hd : ∀ (E : Env), E[2]? = some (some (.val (tupC n (homeC n)))) → dicD putO (flatF [(nm 2, cst .non)]) E = .ok (.v (.dc [(tupC n (homeC n), .non)])) E := by
    intro E hE
    simp only [dicD, bnd, flatF]
    have ha : args [nm 2, cst .non] E = .ok [.v (.val (tupC n (homeC n))), .v (.val .non)] E := args_cons (nm_val hE) (args_cons rfl args_nil)
    rw [ha]
    simp only [escs, bnd, esc, Mv.ret, OV.frz, dicD.putAll, hput, ofO]
  exact parS_ok (os := [.dc [(tupC n (homeC n), .non)], .ls [tupC n (homeC n)]]) (args_cons (hd _ rfl) (args_cons (lstD_ok (args_cons rfl args_nil) (escs_cons rfl escs_nil)) args_nil)) rfl rfl
theorem tip_tree_ok {n : Nat} (S : Side n) (hst : rgP true [.int n] = some (.val (tupC n (homeC n))))
    (hmv : compS (srcR [op2 subP (nm 0) (cst (.int 1))]) (gN 1) (ret true) (tupD [nm 1, op2 subP (nm 0) (cst (.int 1))]) [1] [some (.val (.int n)), none] = .ok (.v (.ls ((mvs n).map (mvP n)))) [some (.val (.int n)), none]) :
    Bx.F_tip_tree [.val (.int n)] = .ret (.dc (treeD n)) [.val (.int n)] := by
  obtain ⟨mo', h⟩ := order_tree_ok S hst
  refine mk_rt (e := [some (.val (.int n)), none]) rfl (by decide) ?_ rfl
  exact retS_ok (callF_ok (rs := [.v (.val (.int n)), .v (.ls ((mvs n).map (mvP n)))]) (args_cons rfl (args_cons hmv args_nil)) rfl rfl h rfl)
theorem S3 : Side 3 := side_of side3 (by decide) (by decide)
theorem S4 : Side 4 := side_of side4 (by decide) (by decide)
theorem S5 : Side 5 := side_of side5 (by decide) (by decide)
theorem S6 : Side 6 := side_of side6 (by decide) (by decide)
theorem tt3 : Bx.F_tip_tree [.val (.int (3 : Nat))] = .ret (.dc (treeD 3)) [.val (.int (3 : Nat))] := tip_tree_ok S3 rfl rfl
theorem tt4 : Bx.F_tip_tree [.val (.int (4 : Nat))] = .ret (.dc (treeD 4)) [.val (.int (4 : Nat))] := tip_tree_ok S4 rfl rfl
theorem tt5 : Bx.F_tip_tree [.val (.int (5 : Nat))] = .ret (.dc (treeD 5)) [.val (.int (5 : Nat))] := tip_tree_ok S5 rfl rfl
theorem tt6 : Bx.F_tip_tree [.val (.int (6 : Nat))] = .ret (.dc (treeD 6)) [.val (.int (6 : Nat))] := tip_tree_ok S6 rfl rfl
end K80
end
/-! file K13 -/
section
set_option linter.all false
set_option autoImplicit false
set_option maxRecDepth 1000000
namespace K80
open PySem hiding Env ret
open Mv Cm
open Lk80 (T_2 T_3 T_4 T_5 T_6 T_7)
/-! ### ways back -/
def pathO (home : Nat) (R : List (Nat × Nat × Nat)) : Nat → Nat → Option (List Nat)
  | 0, _ => none
  | k + 1, c => match c == home with
    | true => some []
    | false => match R.find? fun x => x.1 == c with
      | none => none
      | some x => (pathO home R k x.2.1).map (x.2.2 :: ·)
def pathC (n c : Nat) : List Nat := (pathO (homeC n) (treeC n).reverse 20 c).getD []
/-- all orders, ascending -/
def permsL {α : Type} [BEq α] : Nat → List α → List (List α)
  | 0, _ => [[]]
  | k + 1, l => l.flatMap fun y => (permsL k (l.erase y)).map (y :: ·)
def codeL (l : List Nat) : Nat := l.foldr (fun d c => d + 8 * c) 0
def codesS (n : Nat) : List Nat := (permsL n (List.range n)).map codeL
def foundE (n : Nat) : List (PV × PV) := kv n ((homeC n :: (treeC n).reverse.map (·.1)).map fun c => (c, .int ((pathC n c).length : Nat)))
def pre : SS := seqS T_2 (seqS T_3 (seqS T_4 (seqS T_5 (seqS T_6 T_7))))
def env0 (a b : OV) (n : Nat) : Env := [some a, some b, some (.val (.int n)), none, none, none, none, none, none, none, none, none, none, none, none]
end K80
end
/-! file K14 -/
section
set_option linter.all false
set_option autoImplicit false
set_option maxRecDepth 1000000
namespace K80
open PySem hiding Env ret
open Mv Cm
abbrev env1 (a b : OV) (n : Nat) (x8 : OV) (x9 x10 x11 x12 x13 : Option OV) : Env := [some a, some b, some (.val (.int n)), some (.val (tupC n (homeC n))), some (.dc (foundE n)), some (.val (.lst [])), some (ovI 0), some (.val (.lst [])), some x8, x9, x10, x11, x12, x13, none]
theorem pre3 (a b : OV) : pre (env0 a b 3) = .nx (env1 a b 3 (.val (tupC 3 (10))) (some (ovI (1 : Nat))) (some (.val (tupC 3 17))) none none none) := by kernel_rfl
theorem pre4 (a b : OV) : pre (env0 a b 4) = .nx (env1 a b 4 (.val (tupC 4 (83))) (some (ovI (2 : Nat))) (some (.val (tupC 4 209))) none none none) := by kernel_rfl
end K80
end
/-! file K15 -/
section
set_option linter.all false
set_option autoImplicit false
set_option maxRecDepth 1000000
namespace K80
open PySem hiding Env ret
open Mv Cm
theorem pre5 (a b : OV) : pre (env0 a b 5) = .nx (env1 a b 5 (.val (tupC 5 668)) (some (ovI (3 : Nat))) (some (.val (tupC 5 6170))) none none none) := by kernel_rfl
end K80
end
/-! file K16 -/
section
set_option linter.all false
set_option autoImplicit false
set_option maxRecDepth 1000000
namespace K80
open PySem hiding Env ret
open Mv Cm
open Lk80 (T_8b_1 T_8b_2 T_8b_3 T_8b_4 T_8b_5 T_8b_6 T_11)
/-! ### the list of all orders, sorted -/
theorem srt3 : sortedP [.dic (foundE 3)] = some (.ls ((codesS 3).map (tupC 3))) := by kernel_rfl
theorem srt4 : sortedP [.dic (foundE 4)] = some (.ls ((codesS 4).map (tupC 4))) := by kernel_rfl
theorem srt5 : sortedP [.dic (foundE 5)] = some (.ls ((codesS 5).map (tupC 5))) := by kernel_rfl
/-! ### what is true of a way back -/
def okC (n c : Nat) : Bool := decide (c < 8 ^ n) && (pathO (homeC n) (treeC n).reverse 20 c).isSome && (pathC n c).all (fun a => decide (a < n - 1))
theorem okS3 : ((codesS 3).all fun c => okC 3 c) = true := by decide +kernel
theorem okS4 : ((codesS 4).all fun c => okC 4 c) = true := by decide +kernel
theorem okS5 : ((codesS 5).all fun c => okC 5 c) = true := by decide +kernel
theorem okS6 : ((codesS 6).all fun c => okC 6 c) = true := by decide +kernel
end K80
end
/-! file K20 -/
section
set_option linter.all false
set_option autoImplicit false
set_option maxRecDepth 1000000
namespace K80
open PySem hiding Env ret
open Mv Cm Bx Bs
theorem find_R {n c : Nat} : ∀ (R : List (Nat × Nat × Nat)), ((R.map (entP n)).find? fun x => x.1 == c) = (R.find? fun x => x.1 == c).map (entP n)
  | [] => rfl
  | x :: R => by
    simp only [List.map_cons, List.find?_cons]
    have : (entP n x).1 = x.1 := rfl
    rw [this]
    cases (x.1 == c)
    · simp only [find_R R]
    · rfl
theorem lnX_e : lnX = 16777216 := rfl
theorem ways_ok {n : Nat} (S : Side n) (hsm : ∀ x ∈ treeC n, x.1 < 8 ^ n ∧ x.2.1 < 8 ^ n) : ∀ (k c : Nat) (p : List Nat) (acc : List PV) (x3 : Option OV) (N : Nat), pathO (homeC n) (treeC n).reverse k c = some p → k ≤ N → c < 8 ^ n → acc.length + k < 1000 →
    ∃ y3, whileL (tstB (op2 notNP (op2 getP (nm 0) (nm 1)) (cst .non))) (seqS (asgG (gT [gN 1, gN 3]) (op2 getP (nm 0) (nm 1))) (exprS (mLs appO 2 [nm 3]))) N [some (.dc (treeD n)), some (.val (tupC n c)), some (.ls acc), x3] =
      .nx [some (.dc (treeD n)), some (.val (tupC n (homeC n))), some (.ls (acc ++ p.map (mvP n))), y3]
  | 0, c, p, acc, x3, N, h, _, _, _ => by simp [pathO] at h
  | k + 1, c, p, acc, x3, N, h, hN, hc, hl => by
    obtain ⟨N, rfl⟩ : ∃ m, N = m + 1 := ⟨N - 1, by omega⟩
    have hsmall : Small n (ents n (treeC n)) := by
      refine small_ents S.hh ?_
      intro x hx; exact (hsm x hx).1
    have hget : ∀ (d : Nat), d < 8 ^ n → getP (.dic (treeD n)) (tupC n d) = ((ents n (treeC n)).find? fun x => x.1 == d).map fun x => .val x.2 := by
      intro d hd
      simp only [getP, treeD, keyOk_kv, if_true, find_kv n d hd _ hsmall, Option.map_map]; rfl
    unfold pathO at h
    cases hh : (c == homeC n) with
    | true =>
      rw [hh] at h
      have : p = [] := by simpa using h.symm
      subst this
      have e : c = homeC n := by simpa using hh
      subst e
      refine ⟨x3, ?_⟩
      rw [List.map_nil, List.append_nil]
      refine while_f (tstB_ok (op2_ok (op2_ok rfl rfl rfl rfl (o := .val .non) ?_) rfl rfl rfl (o := ovB false) rfl) rfl)
      show getP (.dic (treeD n)) (tupC n (homeC n)) = _
      rw [hget _ hc]
      simp [ents]
    | false =>
      rw [hh] at h
      simp only at h
      cases hf : ((treeC n).reverse.find? fun x => x.1 == c) with
      | none => rw [hf] at h; simp at h
      | some x =>
        rw [hf] at h
        simp only [Option.map_eq_some_iff] at h
        obtain ⟨p', hp', rfl⟩ := h
        have hmem : x ∈ treeC n := by
          have := List.mem_of_find?_eq_some hf
          simpa using this
        have hx := hsm x hmem
        have hne : (homeC n == c) = false := by
          rw [Bool.eq_false_iff] at hh ⊢
          intro h; apply hh; rw [beq_iff_eq] at h ⊢; exact h.symm
        have hg : getP (.dic (treeD n)) (tupC n c) = some (.val (.tup [tupC n x.2.1, mvP n x.2.2])) := by
          rw [hget _ hc, ents, List.find?_cons]
          simp only [hne]
          rw [find_R, hf]; rfl
        obtain ⟨y3, hw⟩ := ways_ok S hsm k x.2.1 p' (acc ++ [mvP n x.2.2]) (some (.val (mvP n x.2.2))) N hp' (by omega) hx.2 (by simp; omega)
        refine ⟨y3, ?_⟩
        have happ : appO acc [mvP n x.2.2] = some (.non, acc ++ [mvP n x.2.2]) := by
          have hq : acc.length < lnX := by rw [lnX_e]; omega
          simp only [appO, if_pos hq]
        rw [show acc ++ (x.2.2 :: p').map (mvP n) = (acc ++ [mvP n x.2.2]) ++ p'.map (mvP n) by simp]
        refine while_t (tstB_ok (op2_ok (op2_ok rfl rfl rfl rfl hg) rfl rfl rfl (o := ovB true) rfl) rfl) ?_ hw
        refine seq_nx (asgG_ok (op2_ok rfl rfl rfl rfl hg) rfl (gT_2 rfl rfl)) ?_
        exact exprS_ok (mLs_ok rfl (args_cons rfl args_nil) (escs_cons rfl escs_nil) rfl happ rfl)
theorem ways_back_ok {n : Nat} (S : Side n) (hsm : ∀ x ∈ treeC n, x.1 < 8 ^ n ∧ x.2.1 < 8 ^ n) {c : Nat} (hc : c < 8 ^ n) (hp : (pathO (homeC n) (treeC n).reverse 20 c).isSome = true) :
    F_ways_back [.dc (treeD n), .val (tupC n c)] = .ret (.ls ((pathC n c).reverse.map (mvP n))) [.dc (treeD n), .val (tupC n c)] := by
  obtain ⟨p, hp⟩ := Option.isSome_iff_exists.1 hp
  have hpc : pathC n c = p := by rw [pathC, hp]; rfl
  obtain ⟨y3, hw⟩ := ways_ok S hsm 20 c p [] none 100000 hp (by omega) hc (by simp)
  refine mk_rt (e := [some (.dc (treeD n)), some (.val (tupC n (homeC n))), some (.ls ([] ++ p.map (mvP n))), y3]) rfl (by decide) ?_ rfl
  refine seq_nx (asgS_ok rfl rfl rfl) (seq_nx hw ?_)
  rw [hpc]
  have hr : p.reverse.map (mvP n) = ([] ++ p.map (mvP n)).reverse := by simp
  rw [hr]
  exact retS_ok (op1_ok rfl rfl rfl)
def tipSp (a : Nat) : Sp := .tip a 1
theorem tips_of_ok {n : Nat} (l : List Nat) (hl : l.length ≤ lnX) : F_tips_of [.ls (l.map (mvP n))] = .ret (.val (stepsP (l.map tipSp))) [.val (.lst (l.map (mvP n)))] := by
  have : stepsP (l.map tipSp) = .tup (l.map fun a => (tipSp a).pv) := by simp [stepsP]
  rw [this]
  refine mk_rt (e := [some (.val (.lst (l.map (mvP n)))), none]) rfl (by decide) (retS_ok (opN_ok (args_cons (comp1m (e := [some (.val (.lst (l.map (mvP n)))), none]) (mvP n) (fun a => .val (tipSp a).pv) l rfl trivial (fun a _ => ?_) hl) args_nil) (vws_cons rfl vws_nil) rfl)) rfl
  exact tupD_ok (args_cons rfl (args_cons (op2_ok rfl rfl rfl rfl rfl) (args_cons rfl args_nil))) (escs_cons rfl (escs_cons rfl (escs_cons rfl escs_nil)))
def digsN (n c : Nat) : List Nat := (List.range n).map fun i => dg c i
theorem tupC_nats (n c : Nat) : tupC n c = natsP (digsN n c) := by simp [tupC, digs, natsP, natL, digsN]
theorem digs_natL (n c : Nat) : digs n c = natL (digsN n c) := by simp [digs, natL, digsN]
def tipsC (n c : Nat) : List Sp := (pathC n c).reverse.map tipSp
theorem to_order_ok {n : Nat} (S : Side n) (ht : F_tip_tree [.val (.int (n : Nat))] = .ret (.dc (treeD n)) [.val (.int (n : Nat))]) (hsm : ∀ x ∈ treeC n, x.1 < 8 ^ n ∧ x.2.1 < 8 ^ n) {c : Nat} (hc : c < 8 ^ n) (hp : (pathO (homeC n) (treeC n).reverse 20 c).isSome = true) (hl : (pathC n c).length ≤ 1000) :
    F_to_order [.val (tupC n c)] = .ret (.val (stepsP (tipsC n c))) [.val (tupC n c)] := by
  have hlen : lenP [tupC n c] = some (ovI (n : Nat)) := by simp [lenP, tupC, digs]
  refine mk_rt (e := [some (.val (tupC n c))]) rfl (by decide) (retS_ok (callF_ok (rs := [.v (.ls ((pathC n c).reverse.map (mvP n)))]) (args_cons (callF_ok (rs := [.v (.dc (treeD n)), .v (.val (tupC n c))]) (args_cons (callF_ok (rs := [.v (ovI (n : Nat))]) (args_cons (opN_ok (args_cons rfl args_nil) (vws_cons rfl vws_nil) hlen) args_nil) rfl rfl ht rfl) (args_cons rfl args_nil)) rfl rfl (ways_back_ok S hsm hc hp) rfl) args_nil) rfl rfl (tips_of_ok _ (by rw [lnX_e]; simp; omega)) rfl)) rfl
end K80
end
/-! file K21 -/
section
set_option linter.all false
set_option autoImplicit false
set_option maxRecDepth 1000000
namespace K80
open PySem hiding Env ret
open Mv Cm Bx Bs
def lenC (n c : Nat) : Nat := (pathC n c).length
def okB (n c : Nat) : Bool := decide (c < 8 ^ n) && (digsN n c).isPerm (List.range n) && (pathO (homeC n) (treeC n).reverse 20 c).isSome && decide (lenC n c ≤ 20) && (pathC n c).all (fun a => decide (a < n - 1)) &&
  decide ((pathC n c).reverse.foldl (fun o a => exch o a (n - 1)) (List.range n) = digsN n c)
def stB (n c : Nat) : Bool := frB (F_order_steps [.val (tupC n c)]) (ovI (lenC n c : Nat)) [.val (tupC n c)]
def sgB (n c : Nat) : Bool := frB (F_order_sign [.val (tupC n c)]) (ovI (1 - 2 * ((lenC n c : Int) % 2))) [.val (tupC n c)]
def cnB (n c : Nat) : Bool := frB (F__law_count [.val (tupC n c)]) (ovI (lenC n c : Nat)) [.val (tupC n c)]
def nxB' (n c : Nat) : Bool := (List.range (n - 1)).all fun a => decide (exch (digsN n c) a (n - 1) = digsN n (exC c a (n - 1))) && (codesS n).contains (exC c a (n - 1)) && (lenC n (exC c a (n - 1)) == lenC n c + 1 || lenC n c == lenC n (exC c a (n - 1)) + 1)
def tpB (n : Nat) : Bool := (treeC n).all fun x => decide (x.1 < 8 ^ n ∧ x.2.1 < 8 ^ n)
theorem tp3 : tpB 3 = true := by decide +kernel
theorem tp4 : tpB 4 = true := by decide +kernel
theorem tp5 : tpB 5 = true := by decide +kernel
theorem tp6 : tpB 6 = true := by decide +kernel
theorem ok3 : ((codesS 3).all fun c => okB 3 c && stB 3 c && sgB 3 c && nxB' 3 c) = true := by decide +kernel
theorem ok4 : ((codesS 4).all fun c => okB 4 c && stB 4 c && sgB 4 c && nxB' 4 c) = true := by decide +kernel
end K80
end
/-! file K22 -/
section
set_option linter.all false
set_option autoImplicit false
set_option maxRecDepth 1000000
namespace K80
open PySem hiding Env ret
open Mv Cm Bx Bs
theorem ok5 : ((codesS 5).all fun c => okB 5 c && stB 5 c && sgB 5 c && nxB' 5 c) = true := by decide +kernel
end K80
end
/-! file K23 -/
section
set_option linter.all false
set_option autoImplicit false
set_option maxRecDepth 1000000
namespace K80
open PySem hiding Env ret
open Mv Cm Bx Bs
theorem ok6 : ((codesS 6).all fun c => okB 6 c) = true := by decide +kernel
theorem st6_0 : (((codesS 6).drop 0).take 90).all (fun c => stB 6 c && cnB 6 c) = true := by decide +kernel
theorem st6_1 : (((codesS 6).drop 90).take 90).all (fun c => stB 6 c && cnB 6 c) = true := by decide +kernel
theorem st6_2 : (((codesS 6).drop 180).take 90).all (fun c => stB 6 c && cnB 6 c) = true := by decide +kernel
theorem st6_3 : (((codesS 6).drop 270).take 90).all (fun c => stB 6 c && cnB 6 c) = true := by decide +kernel
theorem st6_4 : (((codesS 6).drop 360).take 90).all (fun c => stB 6 c && cnB 6 c) = true := by decide +kernel
theorem st6_5 : (((codesS 6).drop 450).take 90).all (fun c => stB 6 c && cnB 6 c) = true := by decide +kernel
theorem st6_6 : (((codesS 6).drop 540).take 90).all (fun c => stB 6 c && cnB 6 c) = true := by decide +kernel
theorem st6_7 : (((codesS 6).drop 630).take 90).all (fun c => stB 6 c && cnB 6 c) = true := by decide +kernel
end K80
end
/-! file K24 -/
section
set_option linter.all false
set_option autoImplicit false
set_option maxRecDepth 1000000
namespace K80
open PySem hiding Env ret
open Mv Cm Bx Bs
structure Okc (n c : Nat) : Prop where
  lt : c < 8 ^ n
  perm : (digsN n c).Perm (List.range n)
  path : (pathO (homeC n) (treeC n).reverse 20 c).isSome = true
  len : lenC n c ≤ 20
  alt : ∀ a ∈ pathC n c, a < n - 1
  there : (pathC n c).reverse.foldl (fun o a => exch o a (n - 1)) (List.range n) = digsN n c
  st : F_order_steps [.val (tupC n c)] = .ret (ovI (lenC n c : Nat)) [.val (tupC n c)]
theorem okc_of {n c : Nat} (h : okB n c = true) (hs : stB n c = true) : Okc n c := by
  simp only [okB, Bool.and_eq_true, decide_eq_true_eq, List.all_eq_true] at h
  obtain ⟨⟨⟨⟨⟨h1, h2⟩, h3⟩, h4⟩, h5⟩, h6⟩ := h
  exact ⟨h1, List.isPerm_iff.1 h2, h3, h4, h5, h6, frB_eq hs⟩
/-- all that is asked of so many sides -/
structure Dat (n : Nat) : Prop where
  h3 : 3 ≤ n
  hn : n ≤ 1000
  S : Side n
  tt : F_tip_tree [.val (.int (n : Nat))] = .ret (.dc (treeD n)) [.val (.int (n : Nat))]
  sm : ∀ x ∈ treeC n, x.1 < 8 ^ n ∧ x.2.1 < 8 ^ n
  ok : ∀ c ∈ codesS n, Okc n c
theorem tp_of {n : Nat} (h : tpB n = true) : ∀ x ∈ treeC n, x.1 < 8 ^ n ∧ x.2.1 < 8 ^ n := by
  simpa [tpB, List.all_eq_true, decide_eq_true_eq] using h
theorem order_tips_ok {n c : Nat} (D : Dat n) (hc : c ∈ codesS n) : F_order_tips [.val (tupC n c)] = .ret (.val (stepsP (tipsC n c))) [.val (tupC n c)] := by
  have O := D.ok c hc
  have h1 := sure_order_ok O.perm D.h3 D.hn
  rw [← tupC_nats] at h1
  exact mk_rt (e := [some (.val (tupC n c))]) rfl (by decide) (retS_ok (callF_ok (rs := [.v (.val (tupC n c))]) (args_cons (callF_ok (rs := [.v (.val (tupC n c))]) (args_cons rfl args_nil) rfl rfl h1 rfl) args_nil) rfl rfl (to_order_ok D.S D.tt D.sm O.lt O.path (Nat.le_trans O.len (by omega))) rfl)) rfl
theorem order_tips_ls {n c : Nat} (D : Dat n) (hc : c ∈ codesS n) : F_order_tips [.ls (digs n c)] = .ret (.val (stepsP (tipsC n c))) [.val (.lst (digs n c))] := by
  have O := D.ok c hc
  have h1 := sure_order_ls O.perm D.h3 D.hn
  rw [← tupC_nats, ← digs_natL] at h1
  exact mk_rt (e := [some (.val (.lst (digs n c)))]) rfl (by decide) (retS_ok (callF_ok (rs := [.v (.val (tupC n c))]) (args_cons (callF_ok (rs := [.b 0]) (args_cons rfl args_nil) rfl rfl h1 rfl) args_nil) rfl rfl (to_order_ok D.S D.tt D.sm O.lt O.path (Nat.le_trans O.len (by omega))) rfl)) rfl
theorem tips_o (n : Nat) : ∀ (l : List Nat) (p : Pl), p.o.length = n → (p.steps (l.map tipSp)).o = l.foldl (fun o a => exch o a (n - 1)) p.o
  | [], p, _ => rfl
  | a :: l, p, h => by
    have := tips_o n l (p.step (tipSp a)) (by simp [tipSp, Pl.step, exch_len, h])
    simp only [List.map_cons, List.foldl_cons]
    show ((p.step (tipSp a)).steps (l.map tipSp)).o = _
    rw [this]
    simp [tipSp, Pl.step, h]
def spotP (n c : Nat) : Pl := (first n).steps (tipsC n c)
theorem tips_okk {n c : Nat} (O : Okc n c) : ∀ s ∈ tipsC n c, s.Ok n := by
  intro s hs
  simp only [tipsC, List.mem_map, List.mem_reverse] at hs
  obtain ⟨a, ha, rfl⟩ := hs
  exact ⟨O.alt a ha, .inl rfl⟩
theorem spot_ok {n c : Nat} (O : Okc n c) (h3 : 3 ≤ n) : (spotP n c).Ok n := steps_ok first_ok (tips_okk O) h3
theorem spot_o {n c : Nat} (O : Okc n c) : natsP (spotP n c).o = tupC n c := by
  rw [spotP, tipsC, tips_o n _ _ (by simp [first]), tupC_nats]
  show natsP (List.foldl _ (List.range n) _) = _
  rw [O.there]
theorem tips_len (n c : Nat) : (tipsC n c).length = lenC n c := by simp [tipsC, lenC]
theorem len_steps (ss : List Sp) : lenP [stepsP ss] = some (ovI (ss.length : Nat)) := by simp [lenP, stepsP]
theorem is_order_ok {n c : Nat} (O : Okc n c) (h3 : 3 ≤ n) (hn : n ≤ 1000) : F_is_order [.val (tupC n c)] = .ret (ovB true) [.val (tupC n c)] := by
  have h1 := is_order_in_ok O.perm h3 hn
  rw [← tupC_nats] at h1
  exact mk_rt (e := [some (.val (tupC n c))]) rfl (by decide) (retS_ok (callF_ok (rs := [.v (.val (tupC n c))]) (args_cons rfl args_nil) rfl rfl h1 rfl)) rfl
/-- what is asked of 3, 4, 5 sides -/
structure Dat2 (n : Nat) : Prop extends Dat n where
  sg : ∀ c ∈ codesS n, F_order_sign [.val (tupC n c)] = .ret (ovI (1 - 2 * ((lenC n c : Int) % 2))) [.val (tupC n c)]
  nx : ∀ c ∈ codesS n, ∀ a, a < n - 1 → exch (digsN n c) a (n - 1) = digsN n (exC c a (n - 1)) ∧ exC c a (n - 1) ∈ codesS n ∧ (lenC n (exC c a (n - 1)) = lenC n c + 1 ∨ lenC n c = lenC n (exC c a (n - 1)) + 1)
  get : ∀ c ∈ codesS n, getP (.dic (foundE n)) (tupC n c) = some (ovI (lenC n c : Nat))
  srt : sortedP [.dic (foundE n)] = some (.ls ((codesS n).map (tupC n)))
  cnt : (codesS n).length ≤ 1000
theorem get_of {n : Nat} (hh : homeC n < 8 ^ n) (hsm : ∀ x ∈ treeC n, x.1 < 8 ^ n ∧ x.2.1 < 8 ^ n) {c : Nat} (hc : c < 8 ^ n) (hm : (homeC n :: (treeC n).reverse.map (·.1)).contains c = true) : getP (.dic (foundE n)) (tupC n c) = some (ovI (lenC n c : Nat)) := by
  have hs : Small n ((homeC n :: (treeC n).reverse.map (·.1)).map fun c => (c, PV.int ((pathC n c).length : Nat))) := by
    intro x hx
    simp only [List.mem_map, List.mem_cons, List.mem_reverse] at hx
    obtain ⟨d, rfl | ⟨y, hy, rfl⟩, rfl⟩ := hx
    · exact hh
    · exact (hsm y hy).1
  have hf : ∀ l : List Nat, l.contains c = true → (l.map fun c => (c, PV.int ((pathC n c).length : Nat))).find? (fun x => x.1 == c) = some (c, PV.int ((pathC n c).length : Nat)) := by
    intro l
    induction l with
    | nil => intro h; simp at h
    | cons d l ih =>
      intro h
      rw [List.map_cons, List.find?_cons]
      by_cases e : d = c
      · subst e; simp
      · have e' : ((d, PV.int ((pathC n d).length : Nat)).1 == c) = false := by simp [e]
        simp only [e']
        refine ih ?_
        rcases (by simpa using h : c = d ∨ c ∈ l) with h1 | h1
        · exact absurd h1.symm e
        · simpa using h1
  simp only [getP, foundE, keyOk_kv, if_true, find_kv n c hc _ hs, hf _ hm, Option.map]
  rfl
end K80
end
/-! file K25 -/
section
set_option linter.all false
set_option autoImplicit false
set_option maxRecDepth 1000000
namespace K80
open PySem hiding Env ret
open Mv Cm Bx Bs
open Lk80 (T_8b_0 T_8b_1 T_8b_2 T_8b_3 T_8b_4 T_8b_5 T_8b_6 T_8b_a T_8)
abbrev envL (a o : OV) (n c : Nat) (x9 x10 x11 x12 x13 : Option OV) : Env := env1 a o n (.val (tupC n c)) x9 x10 x11 x12 x13
def gotL (n c : Nat) : List PV := [.int (lenC n c : Nat), .int (lenC n c : Nat), tupC n c, .int (1 - 2 * ((lenC n c : Int) % 2)), .bl true]
theorem smOk_tup {n c : Nat} (k : Nat) (h : n ≤ 1000) : smOk (k + 2) (tupC n c) = true := by
  rw [tupC_nats]
  exact smOk_ints k _ _ (by simp [digsN, lnX_e]; omega)
theorem got_sm {n c : Nat} (h : n ≤ 1000) : ∀ p ∈ gotL n c, smOk 11 p = true := by
  intro p hp
  simp only [gotL, List.mem_cons, List.not_mem_nil, or_false] at hp
  rcases hp with rfl | rfl | rfl | rfl | rfl
  · rfl
  · rfl
  · exact smOk_tup 9 h
  · rfl
  · rfl
theorem b1_ok {n c : Nat} (D : Dat2 n) (hc : c ∈ codesS n) (a o : OV) (x9 x10 x11 x12 x13 : Option OV) (k : SS) (r : SR)
    (hk : k (envL a o n c x9 x10 (some (.val (stepsP (tipsC n c)))) (some (.val (spotP n c).pv)) (some (.val (.lst (gotL n c))))) = r) :
    seqS T_8b_0 (seqS T_8b_1 (seqS T_8b_2 (seqS T_8b_3 k))) (envL a o n c x9 x10 x11 x12 x13) = r := by
  have O := D.ok c hc
  have h3 := D.h3
  have hn := D.hn
  have hlx := lnX_e
  have hspot : F_box_behind [.val (first n).pv, .val (stepsP (tipsC n c))] = .ret (.val (spotP n c).pv) [.val (first n).pv, .val (stepsP (tipsC n c))] :=
    box_behind_ok first_ok (tips_okk O) h3 hn (by rw [tips_len]; have := O.len; omega) (tp_steps 9 _ (by rw [tips_len]; have := O.len; omega))
  refine seq_nx (asgS_ok (callF_ok (rs := [.v (.ls (digs n c))]) (args_cons (opN_ok (args_cons rfl args_nil) (vws_cons rfl vws_nil) rfl) args_nil) rfl rfl (order_tips_ls D.toDat hc) rfl) rfl rfl) ?_
  refine seq_nx (asgS_ok (callF_ok (rs := [.v (.val (first n).pv), .v (.val (stepsP (tipsC n c)))]) (args_cons (callF_ok (rs := [.v (ovI (n : Nat))]) (args_cons rfl args_nil) rfl rfl (law_first_ok h3 hn) rfl) (args_cons rfl args_nil)) rfl rfl hspot rfl) rfl rfl) ?_
  have hg0 : getP (spotP n c).pv (.int 0) = some (.val (tupC n c)) := by rw [get_o, spot_o O]
  refine seq_nx (asgS_ok (lstD_ok (args_cons (callF_ok (rs := [.v (.val (tupC n c))]) (args_cons rfl args_nil) rfl rfl O.st rfl) (args_cons (opN_ok (args_cons rfl args_nil) (vws_cons rfl vws_nil) (len_steps _)) (args_cons (op2_ok rfl rfl rfl rfl hg0) (args_cons (callF_ok (rs := [.v (.val (tupC n c))]) (args_cons rfl args_nil) rfl rfl (D.sg c hc) rfl) (args_cons (callF_ok (rs := [.v (.val (tupC n c))]) (args_cons rfl args_nil) rfl rfl (is_order_ok O h3 hn) rfl) args_nil)))))
    (escs_cons rfl (escs_cons rfl (escs_cons rfl (escs_cons rfl (escs_cons rfl escs_nil)))))) rfl rfl) ?_
  rw [tips_len]
  have hdue : ∀ E : Env, E[4]? = some (some (.dc (foundE n))) → E[8]? = some (some (.val (tupC n c))) → lstD [op2 getP (nm 4) (nm 8), op2 getP (nm 4) (nm 8), nm 8, op2 subP (cst (.int 1)) (op2 mulP (cst (.int 2)) (op2 modP (op2 getP (nm 4) (nm 8)) (cst (.int 2)))), cst (.bl true)] E = .ok (.v (.ls (gotL n c))) E := by
    intro E h4 h8
    have hg : op2 getP (nm 4) (nm 8) E = .ok (.v (ovI (lenC n c : Nat))) E := op2_ok (nm_own h4 rfl) (nm_val h8) (by simp only [view, h4]; rfl) rfl (D.get c hc)
    exact lstD_ok (args_cons hg (args_cons hg (args_cons (nm_val h8) (args_cons (op2_ok rfl (op2_ok rfl (op2_ok hg rfl rfl rfl rfl) rfl rfl rfl) rfl rfl rfl) (args_cons rfl args_nil))))) (escs_cons rfl (escs_cons rfl (escs_cons rfl (escs_cons rfl (escs_cons rfl escs_nil)))))
  have hsame := same_ls 11 (gotL n c) (got_sm hn) (by rw [hlx]; simp [gotL])
  refine seq_nx ?_ hk
  refine ifS_f (tOr_f (tNot_t (tst_ok (callF_ok (rs := [.b 13, .v (.ls (gotL n c))]) (args_cons rfl (args_cons (hdue _ rfl rfl) args_nil)) rfl rfl hsame rfl) rfl rfl)) (tstB_ok (op2_ok (comp1 (e := envL a o n c x9 x10 (some (.val (stepsP (tipsC n c)))) (some (.val (spotP n c).pv)) (some (.val (.lst (gotL n c))))) (fun s => s.pv) (fun _ => false) (fun _ => ovI 1) (tipsC n c) rfl trivial ?_ (fun y _ h => by cases h) (by rw [tips_len]; have := O.len; omega)) (lstD_ok args_nil escs_nil) rfl rfl (o := ovB false) ?_) rfl)) rfl
  · intro s hs
    simp only [tipsC, List.mem_map, List.mem_reverse] at hs
    obtain ⟨d, _, rfl⟩ := hs
    refine tOr_f (tstB_ok (op2_ok (op2_ok rfl rfl rfl rfl rfl) rfl rfl rfl (o := ovB false) ?_) rfl) (tstB_ok (op2_ok (op2_ok rfl rfl rfl rfl rfl) rfl rfl rfl rfl) rfl)
    show bop neB (.str "tip") (.str "tip") = _
    kernel_rfl
  · rw [List.filter_eq_nil_iff.2 (by intro y _; simp)]; rfl
theorem b2_ok {n c d : Nat} (D : Dat2 n) (hc : c ∈ codesS n) (hd : d < n - 1) (a o : OV) (x10 x13 : Option OV) :
    ∃ y10, seqS T_8b_5 T_8b_6 (envL a o n c (some (ovI (d : Nat))) x10 (some (.val (stepsP (tipsC n c)))) (some (.val (spotP n c).pv)) x13) =
      .nx (envL a o n c (some (ovI (d : Nat))) y10 (some (.val (stepsP (tipsC n c)))) (some (.val (spotP n c).pv)) x13) := by
  have O := D.ok c hc
  have h3 := D.h3
  have hn := D.hn
  obtain ⟨e1, e2, e3⟩ := D.nx c hc d hd
  have O' := D.ok _ e2
  have hs : (tipSp d).Ok n := ⟨hd, .inl rfl⟩
  have hst : F_stepped [.val (spotP n c).pv, .val (tipSp d).pv] = .ret (.val ((spotP n c).step (tipSp d)).pv) [.val (spotP n c).pv, .val (tipSp d).pv] := stepped_ok (spot_ok O h3) hs h3 hn
  have hso : (spotP n c).o = digsN n c := by
    rw [spotP, tipsC, tips_o n _ _ (by simp [first])]
    exact O.there
  have hol := (spot_ok O h3).ol
  have hg0 : getP ((spotP n c).step (tipSp d)).pv (.int 0) = some (.val (tupC n (exC c d (n - 1)))) := by
    rw [get_o, tupC_nats, ← e1, ← hso]
    simp [tipSp, Pl.step, hol]
  refine ⟨some (.val (tupC n (exC c d (n - 1)))), ?_⟩
  refine seq_nx (asgS_ok (op2_ok (callF_ok (rs := [.v (.val (spotP n c).pv), .v (.val (tipSp d).pv)]) (args_cons rfl (args_cons (tupD_ok (args_cons rfl (args_cons rfl (args_cons rfl args_nil))) (escs_cons rfl (escs_cons rfl (escs_cons rfl escs_nil)))) args_nil)) rfl rfl hst rfl) rfl rfl rfl hg0) rfl rfl) ?_
  have hg : ∀ E : Env, E[4]? = some (some (.dc (foundE n))) → E[8]? = some (some (.val (tupC n c))) → op2 getP (nm 4) (nm 8) E = .ok (.v (ovI (lenC n c : Nat))) E := by
    intro E h4 h8
    exact op2_ok (nm_own h4 rfl) (nm_val h8) (by simp only [view, h4]; rfl) rfl (D.get c hc)
  refine ifS_f (tOr_f (tstB_ok (op2_ok (opN_ok (args_cons (op2_ok (callF_ok (rs := [.v (.val (tupC n (exC c d (n - 1))))]) (args_cons rfl args_nil) rfl rfl O'.st rfl) (hg _ rfl rfl) rfl rfl rfl) args_nil) (vws_cons rfl vws_nil) rfl) rfl rfl rfl (o := ovB false) ?_) rfl)
    (tstB_ok (op2_ok (callF_ok (rs := [.v (.val (tupC n (exC c d (n - 1))))]) (args_cons rfl args_nil) rfl rfl (D.sg _ e2) rfl) (op2_ok rfl (callF_ok (rs := [.v (.val (tupC n c))]) (args_cons rfl args_nil) rfl rfl (D.sg c hc) rfl) rfl rfl rfl) rfl rfl (o := ovB false) ?_) rfl)) rfl
  · simp only [bop, OV.see, neB_int, Option.map]
    congr 3
    rcases e3 with e | e
    · rw [e]; simp; split <;> omega
    · rw [e]; simp; split <;> omega
  · simp only [bop, OV.see, neB_int, Option.map]
    congr 3
    have : (1 - 2 * ((lenC n (exC c d (n - 1)) : Int) % 2)) = 0 - (1 - 2 * ((lenC n c : Int) % 2)) := by
      rcases e3 with e | e <;> rw [e] <;> push_cast <;> omega
    rw [this]; simp
end K80
end
/-! file K26 -/
section
set_option linter.all false
set_option autoImplicit false
set_option maxRecDepth 1000000
namespace K80
open PySem hiding Env ret
open Mv Cm Bx Bs
open Lk80 (T_8b_0 T_8b_1 T_8b_2 T_8b_3 T_8b_4 T_8b_5 T_8b_6 T_8b_a T_8 T_8g)
theorem tin_mono {K M : Nat} {o : OV} (h : Tin K o) (hm : K ≤ M) : Tin M o := by
  obtain ⟨A, B, C, h1, h2, h3⟩ := h
  exact ⟨A, B, C, h1, h2, by omega⟩
/-- the drawn orders -/
theorem t8_ok {n : Nat} (D : Dat2 n) (a o : OV) (K : Nat) (hT : Tin K o) (hK : K < 1000) (x8 : OV) (x9 x10 x11 x12 x13 : Option OV) :
    ∃ (o' : OV) (y8 : OV) (y9 y10 y11 y12 y13 : Option OV), T_8 (env1 a o n x8 x9 x10 x11 x12 x13) = .nx (env1 a o' n y8 y9 y10 y11 y12 y13) ∧ Tin (K + 3000) o' := by
  have hcnt := D.cnt
  have h3 := D.h3
  have hn := D.hn
  have hlx := lnX_e
  obtain ⟨o1, rest, ys, hp, hperm, hlen, hT1⟩ := pick_ok (xs := (codesS n).map (tupC n)) (g := .ls ((codesS n).map (tupC n))) hT (by simp; omega) (by simp; omega) (.inl rfl) 14 (by decide)
  have hmem : ∀ p ∈ ys, ∃ c ∈ codesS n, p = tupC n c := by
    intro p hp
    have : p ∈ (codesS n).map (tupC n) := hperm.mem_iff.1 (by simp [hp])
    simp only [List.mem_map] at this
    obtain ⟨c, hc, rfl⟩ := this
    exact ⟨c, hc, rfl⟩
  have hyl : ys.length ≤ 14 := by rw [hlen]; omega
  have hT1' : Tin 2000 o1 := tin_mono hT1 (by simp; omega)
  have hloop := forL_inv (g := T_8g) (body := T_8b_a) (fun ps e => ∃ M o' y8 y9 y10 y11 y12 y13, e = env1 a o' n y8 y9 y10 y11 y12 y13 ∧ Tin M o' ∧ M + ps.length ≤ 2100 ∧ ∀ p ∈ ps, ∃ c ∈ codesS n, p = tupC n c) (by
    rintro p ps e ⟨M, o', y8, y9, y10, y11, y12, y13, rfl, hT', hM, hps⟩
    simp only [List.length_cons] at hM
    obtain ⟨c, hc, rfl⟩ := hps p (by simp)
    obtain ⟨d, o2, hd, hd0, hd1, hT2⟩ := take_ok hT' (by omega) (n := ((n - 1 : Nat) : Int)) (by omega) (by omega)
    obtain ⟨j, rfl⟩ : ∃ j : Nat, d = (j : Int) := ⟨d.toNat, by omega⟩
    obtain ⟨z10, hb2⟩ := b2_ok D hc (d := j) (by omega) a o2 y10 (some (.val (.lst (gotL n c))))
    obtain ⟨A, B, C, ho', _, _⟩ := hT'
    refine ⟨envL a o' n c y9 y10 y11 y12 y13, _, rfl, .inl (b1_ok D hc a o' y9 y10 y11 y12 y13 (seqS T_8b_4 (seqS T_8b_5 T_8b_6)) _ (seq_nx (e1 := envL a o2 n c (some (ovI (j : Nat))) y10 (some (.val (stepsP (tipsC n c)))) (some (.val (spotP n c).pv)) (some (.val (.lst (gotL n c))))) ?_ hb2)), ?_⟩
    · subst ho'
      refine asgS_ok (callF_ok (rs := [.b 1, .v (ovI ((n - 1 : Nat) : Int))]) (args_cons rfl (args_cons (op2_ok rfl rfl rfl rfl (o := ovI ((n - 1 : Nat) : Int)) ?_) args_nil)) rfl rfl hd rfl) rfl rfl
      simp only [subP, OV.see]; congr 3; omega
    · exact ⟨M + 1, o2, _, _, _, _, _, _, rfl, hT2, by omega, fun q hq => hps q (by simp [hq])⟩)
  obtain ⟨e', h1, M, o', y8, y9, y10, y11, y12, y13, rfl, hT', hM, _⟩ := hloop ys (env1 a o1 n x8 x9 x10 x11 x12 x13) ⟨2000, o1, x8, x9, x10, x11, x12, x13, rfl, hT1', by omega, hmem⟩
  refine ⟨o', y8, y9, y10, y11, y12, y13, ?_, tin_mono hT' (by simp at hM; omega)⟩
  obtain ⟨A, B, C, ho, _, _⟩ := hT
  subst ho
  exact forS_ok (srcE_lst (callF_ok (rs := [.b 1, .v (.ls ((codesS n).map (tupC n))), .v (ovI 14)]) (args_cons rfl (args_cons (opN_ok (args_cons rfl args_nil) (vws_cons rfl vws_nil) D.srt) (args_cons rfl args_nil))) rfl rfl hp rfl) rfl) h1
/-! ### all orders of so many -/
theorem perms_mem {α : Type} [BEq α] [LawfulBEq α] : ∀ (k : Nat) (l ys : List α), ys.Perm l → l.length = k → ys ∈ permsL k l
  | 0, l, ys, h, hl => by
    have : l = [] := List.length_eq_zero_iff.1 hl
    subst this
    simp [permsL, h.eq_nil]
  | k + 1, l, ys, h, hl => by
    cases ys with
    | nil =>
      have := h.length_eq
      simp [hl] at this
    | cons y ys =>
      have hy : y ∈ l := h.mem_iff.1 (by simp)
      simp only [permsL, List.mem_flatMap, List.mem_map]
      refine ⟨y, hy, ys, perms_mem k _ ys ?_ ?_, rfl⟩
      · have := h.erase y
        rwa [List.erase_cons_head] at this
      · rw [List.length_erase_of_mem hy, hl]; rfl
theorem perm_natL {ys : List PV} {l : List Nat} (h : ys.Perm (natL l)) : ∃ zs : List Nat, ys = natL zs ∧ zs.Perm l := by
  let f : PV → Nat := fun p => match p with
    | .int i => i.toNat
    | _ => 0
  refine ⟨ys.map f, ?_, ?_⟩
  · have hm : ∀ p ∈ ys, .int ((f p : Nat) : Int) = p := by
      intro p hp
      have := h.mem_iff.1 hp
      simp only [natL, List.mem_map] at this
      obtain ⟨k, _, rfl⟩ := this
      simp [f]
    rw [natL, List.map_map]
    conv => lhs; rw [← List.map_id ys]
    exact List.map_congr_left fun p hp => (hm p hp).symm
  · have := h.map f
    rw [natL, List.map_map] at this
    have e : l.map (f ∘ fun (k : Nat) => PV.int (k : Int)) = l := by
      conv => rhs; rw [← List.map_id l]
      exact List.map_congr_left fun p _ => by simp [f]
    rwa [e] at this
theorem perms6 : ((permsL 6 (List.range 6)).all fun zs => decide (digsN 6 (codeL zs) = zs)) = true := by decide +kernel
theorem pick6 {ys rest : List PV} (h : (ys ++ rest).Perm (natL (List.range 6))) (hl : ys.length = 6) : ∃ c ∈ codesS 6, .tup ys = tupC 6 c := by
  have hr : rest = [] := by
    have := h.length_eq
    simp only [List.length_append, hl, natL, List.length_map, List.length_range] at this
    exact List.length_eq_zero_iff.1 (by omega)
  subst hr
  rw [List.append_nil] at h
  obtain ⟨zs, rfl, hz⟩ := perm_natL h
  have hm := perms_mem 6 _ _ hz (by simp)
  have := List.all_eq_true.1 perms6 zs hm
  rw [decide_eq_true_eq] at this
  refine ⟨codeL zs, List.mem_map.2 ⟨zs, hm, rfl⟩, ?_⟩
  rw [tupC_nats, this]; rfl
end K80
end
/-! file K27 -/
section
set_option linter.all false
set_option autoImplicit false
set_option maxRecDepth 1000000
namespace K80
open PySem hiding Env ret
open Mv Cm Bx Bs
open Lk80 (T_0 T_1 T_2 T_3 T_4 T_5 T_6 T_7 T_8 T_9 T_10 T_11)
def frB1 (n : Nat) : Bool := (codesS n).all fun c => (homeC n :: (treeC n).reverse.map (·.1)).contains c
theorem fr3 : frB1 3 = true := by decide +kernel
theorem fr4 : frB1 4 = true := by decide +kernel
theorem fr5 : frB1 5 = true := by decide +kernel
theorem dat_of {n : Nat} (h3 : 3 ≤ n) (hn : n ≤ 1000) (S : Side n) (tt : F_tip_tree [.val (.int (n : Nat))] = .ret (.dc (treeD n)) [.val (.int (n : Nat))]) (htp : tpB n = true)
    (hok : ((codesS n).all fun c => okB n c && stB n c && sgB n c && nxB' n c) = true) (hfr : frB1 n = true) (srt : sortedP [.dic (foundE n)] = some (.ls ((codesS n).map (tupC n)))) (hcn : (codesS n).length ≤ 1000) : Dat2 n := by
  have sm := tp_of htp
  have hall : ∀ c ∈ codesS n, okB n c = true ∧ stB n c = true ∧ sgB n c = true ∧ nxB' n c = true := by
    intro c hc
    have := List.all_eq_true.1 hok c hc
    simp only [Bool.and_eq_true] at this
    exact ⟨this.1.1.1, this.1.1.2, this.1.2, this.2⟩
  have ok : ∀ c ∈ codesS n, Okc n c := fun c hc => okc_of (hall c hc).1 (hall c hc).2.1
  refine ⟨⟨h3, hn, S, tt, sm, ok⟩, fun c hc => frB_eq (hall c hc).2.2.1, fun c hc a ha => ?_, fun c hc => get_of S.hh sm (ok c hc).lt (List.all_eq_true.1 hfr c hc), srt, hcn⟩
  have := (hall c hc).2.2.2
  simp only [nxB', List.all_eq_true, List.mem_range, Bool.and_eq_true, decide_eq_true_eq, Bool.or_eq_true, beq_iff_eq] at this
  obtain ⟨⟨e1, e2⟩, e3⟩ := this a ha
  exact ⟨e1, by simpa using e2, e3⟩
theorem D3 : Dat2 3 := dat_of (by decide) (by decide) S3 tt3 tp3 ok3 fr3 srt3 (by decide +kernel)
theorem D4 : Dat2 4 := dat_of (by decide) (by decide) S4 tt4 tp4 ok4 fr4 srt4 (by decide +kernel)
theorem D5 : Dat2 5 := dat_of (by decide) (by decide) S5 tt5 tp5 ok5 fr5 srt5 (by decide +kernel)
theorem st6 : ∀ c ∈ codesS 6, stB 6 c = true ∧ cnB 6 c = true := by
  have hsplit : codesS 6 = (codesS 6).take 90 ++ (((codesS 6).drop 90).take 90 ++ (((codesS 6).drop 180).take 90 ++ (((codesS 6).drop 270).take 90 ++ (((codesS 6).drop 360).take 90 ++ (((codesS 6).drop 450).take 90 ++ (((codesS 6).drop 540).take 90 ++ ((codesS 6).drop 630).take 90)))))) := by decide +kernel
  intro c hc
  rw [hsplit] at hc
  simp only [List.mem_append] at hc
  have go : ∀ l : List Nat, l.all (fun c => stB 6 c && cnB 6 c) = true → c ∈ l → stB 6 c = true ∧ cnB 6 c = true := by
    intro l h hm
    have := List.all_eq_true.1 h c hm
    simpa [Bool.and_eq_true] using this
  rcases hc with h | h | h | h | h | h | h | h
  · exact go _ st6_0 (by simpa using h)
  · exact go _ st6_1 h
  · exact go _ st6_2 h
  · exact go _ st6_3 h
  · exact go _ st6_4 h
  · exact go _ st6_5 h
  · exact go _ st6_6 h
  · exact go _ st6_7 h
theorem D6 : Dat 6 := ⟨by decide, by decide, S6, tt6, tp_of tp6, fun c hc => okc_of (List.all_eq_true.1 ok6 c hc) (st6 c hc).1⟩
theorem cnt6 : ∀ c ∈ codesS 6, F__law_count [.val (tupC 6 c)] = .ret (ovI (lenC 6 c : Nat)) [.val (tupC 6 c)] := fun c hc => frB_eq (st6 c hc).2
/-- the last lines: one of 6 sides -/
theorem end_ok {n : Nat} (a o : OV) (K : Nat) (hT : Tin K o) (hK : K < 10000) (x8 : OV) (x9 x10 x11 x12 x13 : Option OV) :
    ∃ e, seqS T_9 (seqS T_10 T_11) (env1 a o n x8 x9 x10 x11 x12 x13) = .rt (.v (ovB true)) e ∧ ∃ e1, e = some a :: e1 := by
  have hlx := lnX_e
  obtain ⟨o1, rest, ys, hp, hperm, hlen, hT1⟩ := pick_ok (xs := natL (List.range 6)) (g := .ls (natL (List.range 6))) hT (by simp [natL]; omega) (by simp [natL]; omega) (.inl rfl) 6 (by decide)
  obtain ⟨c, hc, hyc⟩ := pick6 hperm (by rw [hlen]; rfl)
  obtain ⟨A, B, C, ho, _, _⟩ := hT
  subst ho
  have O := D6.ok c hc
  have hput : F__law_put_all [.val (first 6).pv, .val (stepsP (tipsC 6 c))] = .ret (.val (spotP 6 c).pv) [.val (first 6).pv, .val (stepsP (tipsC 6 c))] := law_put_all_ok first_ok (tips_okk O) (by decide) (by decide)
  have hg0 : getP (spotP 6 c).pv (.int 0) = some (.val (tupC 6 c)) := by rw [get_o, spot_o O]
  have hlen2 : lenP [stepsP (tipsC 6 c)] = some (ovI (lenC 6 c : Nat)) := by rw [len_steps, tips_len]
  have hsame := same_ls 11 [.int (lenC 6 c : Nat), .int (lenC 6 c : Nat), tupC 6 c] (by
    intro p hp
    simp only [List.mem_cons, List.not_mem_nil, or_false] at hp
    rcases hp with rfl | rfl | rfl
    · rfl
    · rfl
    · exact smOk_tup 9 (by decide)) (by rw [hlx]; simp)
  refine ⟨_, seq_nx (asgS_ok (opN_ok (args_cons (callF_ok (rs := [.b 1, .v (.ls (natL (List.range 6))), .v (ovI 6)]) (args_cons rfl (args_cons (opN_ok (args_cons rfl args_nil) (vws_cons rfl vws_nil) (rg_lst 6 (by decide))) (args_cons rfl args_nil))) rfl rfl hp rfl) args_nil) (vws_cons rfl vws_nil) (o := .val (tupC 6 c)) (by rw [← hyc]; rfl)) rfl rfl) (seq_nx (asgS_ok (callF_ok (rs := [.v (.val (tupC 6 c))]) (args_cons rfl args_nil) rfl rfl (order_tips_ok D6 hc) rfl) rfl rfl)
    (retS_ok (callF_ok (rs := [.v (.ls [.int (lenC 6 c : Nat), .int (lenC 6 c : Nat), tupC 6 c]), .v (.ls [.int (lenC 6 c : Nat), .int (lenC 6 c : Nat), tupC 6 c])]) (args_cons (lstD_ok (args_cons (callF_ok (rs := [.v (.val (tupC 6 c))]) (args_cons rfl args_nil) rfl rfl O.st rfl) (args_cons (opN_ok (args_cons rfl args_nil) (vws_cons rfl vws_nil) hlen2) (args_cons (op2_ok (callF_ok (rs := [.v (.val (first 6).pv), .v (.val (stepsP (tipsC 6 c)))]) (args_cons (callF_ok (rs := [.v (ovI (6 : Nat))]) (args_cons rfl args_nil) rfl rfl (law_first_ok (by decide) (by decide)) rfl) (args_cons rfl args_nil)) rfl rfl hput rfl) rfl rfl rfl hg0) args_nil))) (escs_cons rfl (escs_cons rfl (escs_cons rfl escs_nil))))
      (args_cons (lstD_ok (args_cons (callF_ok (rs := [.v (.val (tupC 6 c))]) (args_cons rfl args_nil) rfl rfl (cnt6 c hc) rfl) (args_cons (callF_ok (rs := [.v (.val (tupC 6 c))]) (args_cons rfl args_nil) rfl rfl (cnt6 c hc) rfl) (args_cons rfl args_nil))) (escs_cons rfl (escs_cons rfl (escs_cons rfl escs_nil)))) args_nil)) rfl rfl hsame rfl))), ?_⟩
  exact ⟨_, rfl⟩
theorem law_ok (ns : List Int) (hns : ns.length ≤ 63) : ∃ e, Lk80.F_law [.val (.scr ns)] = .ret (.val (.bl true)) e := by
  obtain ⟨zs, hcells, _⟩ := cells_ok ns hns 1 (by decide) (by decide)
  obtain ⟨o0, hbox, hT0⟩ := box_ok 3194060 zs 0 (by decide)
  obtain ⟨d, o1, htake, hd0, hd1, hT1⟩ := take_ok hT0 (by decide) (n := 3) (by decide) (by decide)
  have main : ∀ (n : Nat) (x8 : OV) (x9 x10 : Option OV), Dat2 n → (n : Int) = 3 + d → pre (env0 (.val (.scr ns)) o1 n) = .nx (env1 (.val (.scr ns)) o1 n x8 x9 x10 none none none) → ∃ e, Lk80.F_law [.val (.scr ns)] = .ret (.val (.bl true)) e := by
    intro n x8 x9 x10 D hn hpre
    obtain ⟨o2, y8, y9, y10, y11, y12, y13, h8, hT2⟩ := t8_ok D (.val (.scr ns)) o1 1 hT1 (by decide) x8 x9 x10 none none none
    obtain ⟨e, he, e1, rfl⟩ := end_ok (n := n) (.val (.scr ns)) o2 _ hT2 (by decide) y8 y9 y10 y11 y12 y13
    obtain ⟨A, B, C, ho, _, _⟩ := hT0
    refine ⟨[.val (.scr ns)], mk_rt (e := some (.val (.scr ns)) :: e1) rfl (by decide) ?_ rfl⟩
    rw [Lk80.law_pieces]
    refine seq_nx (e1 := [some (.val (.scr ns)), some o0, none, none, none, none, none, none, none, none, none, none, none, none, none]) (asgS_ok (callF_ok (rs := [.v (.ls (zs.map .int)), .v (ovI (0 : Nat))]) (args_cons (callF_ok (rs := [.v (.val (.scr ns)), .v (ovI (1 : Nat))]) (args_cons rfl (args_cons rfl args_nil)) rfl rfl hcells rfl) (args_cons rfl args_nil)) rfl rfl hbox rfl) rfl rfl) ?_
    subst ho
    refine seq_nx (e1 := env0 (.val (.scr ns)) o1 n) (asgS_ok (op2_ok rfl (callF_ok (rs := [.b 1, .v (ovI 3)]) (args_cons rfl (args_cons rfl args_nil)) rfl rfl htake rfl) rfl rfl (o := ovI (n : Nat)) (by rw [hn]; rfl)) rfl rfl) ?_
    have hpre' := hpre
    simp only [pre] at hpre'
    have key : ∀ (s1 s2 s3 s4 s5 s6 k : SS) (E E' : Env), seqS s1 (seqS s2 (seqS s3 (seqS s4 (seqS s5 s6)))) E = .nx E' → seqS s1 (seqS s2 (seqS s3 (seqS s4 (seqS s5 (seqS s6 k))))) E = k E' := by
      intro s1 s2 s3 s4 s5 s6 k E E' h
      simp only [seqS] at h ⊢
      cases h1 : s1 E <;> rw [h1] at h <;> simp only [reduceCtorEq] at h ⊢
      rename_i E1
      cases h2 : s2 E1 <;> rw [h2] at h <;> simp only [reduceCtorEq] at h ⊢
      rename_i E2
      cases h3 : s3 E2 <;> rw [h3] at h <;> simp only [reduceCtorEq] at h ⊢
      rename_i E3
      cases h4 : s4 E3 <;> rw [h4] at h <;> simp only [reduceCtorEq] at h ⊢
      rename_i E4
      cases h5 : s5 E4 <;> rw [h5] at h <;> simp only [reduceCtorEq] at h ⊢
      rename_i E5
      rw [h]
    refine (key _ _ _ _ _ _ _ _ _ hpre').trans ?_
    exact seq_nx h8 he
  have hd : d = 0 ∨ d = 1 ∨ d = 2 := by omega
  rcases hd with rfl | rfl | rfl
  · exact main 3 _ _ _ D3 (by decide) (pre3 _ _)
  · exact main 4 _ _ _ D4 (by decide) (pre4 _ _)
  · exact main 5 _ _ _ D5 (by decide) (pre5 _ _)
end K80
end
open PySem PySem.W PyProof.Rows
set_option Elab.async false
theorem PySem.Challenge.cw_movedchest_k80_main_law_orders_by_fewest_holds : PySem.Challenge.rw_movedchest_k80_main_law_orders_by_fewest.Holds := by
  exact Lk80.holds K80.law_ok
