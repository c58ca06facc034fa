import PyProof.Rows.All
import PySem.PyData
import PyProof.P3Statements
import HandS.List
import HandS.Text
import Wide.All
import OpenK.AllK
import Wide.FinOn
import HandS.Set
import HandS.SetBool
import HandS.SetKeys
import HandS.SetIn
import HandS.SetFor
import HandS.Strs
import PyProof.Rows.SortShellAny
import HandS.Comp
import HandS.ForMost
import HandS.ForExc
import HandS.CallSlots
import HandS.Deep
import HandS.IsInst
import HandS.RaiseMore
import HandS.Style
import HandS.Flow
import HandS.TupAny
import HandS.Star
import KE.KExcSuper
import HandS.ExcInit
import HandS.ExcIs
import KE.KExcIs
import PyProof.RulesMatchSeq
import PySem.Challenge.RW_letforget_k02_steps_and_written_forms
set_option Elab.async false
set_option linter.all false
set_option maxRecDepth 100000
/-! A1: a small language of values as trees, its flows and its words (no heap, no program in sight). -/
namespace S3
open PySem

abbrev Key := Sum Int Str

def kIn (k : Key) (xs : List Key) : Bool := xs.any fun j => decide (j = k)
/-- values as trees -/
inductive D where
  | non | bl (b : Bool) | int (i : Int) | str (x : Str)
  | lst (xs : List D) | tup (xs : List D)
  | dk (kvs : List (Key × D)) | dt (kvs : List (List Key × D))
  | st (xs : List Key)
  | obj (c : Str) (fs : List (Str × D))
  | scr (xs : List D)
  | kt (xs : List D)
  | xn (c : Str) (fs : List (Str × D))

/-- a slot: without a value; frozen; owned; lent to be read; lent to be changed -/
inductive Sl where
  | no | fz (d : D) | ow (d : D) | bo (d : D) | mu (d : D)
abbrev Env := List Sl
/-- what an expression gives: a frozen value, a new object, the object that stands at a slot -/
inductive RV where
  | fz (d : D) | nw (d : D) | at (i : Nat)
/-- an exception: its class, its fields -/
structure Exn where
  c : Str
  fs : List (Str × D)
inductive RE where
  | ok (r : RV) (e : Env) | ex (x : Exn) (e : Env) | no
inductive RT where
  | ok (b : Bool) (e : Env) | ex (x : Exn) (e : Env) | no
inductive RA where
  | ok (rs : List RV) (e : Env) | ex (x : Exn) (e : Env) | no
inductive RS where
  | nx (e : Env) | rt (r : RV) (e : Env) | bk (e : Env) | ct (e : Env) | ex (x : Exn) (e : Env) | no
/-- a call's end: is the value new; the value; the lent parameters' values behind it -/
inductive RC where
  | ok (n : Bool) (d : D) (outs : List D) | ex (x : Exn) (outs : List D) | no
inductive Md where
  | v | r | m
abbrev EV := Env → RE
abbrev TV := Env → RT
abbrev AV := Env → RA
abbrev SV := Env → RS

def Sl.val : Sl → Option D
  | .no => none | .fz d => some d | .ow d => some d | .bo d => some d | .mu d => some d
def slot (e : Env) (i : Nat) : Sl := e.getD i .no
/-- to be read -/
def rd : RV → Env → Option D
  | .fz d, _ => some d
  | .nw d, _ => some d
  | .at i, e => (slot e i).val
/-- to be kept: frozen -/
def stl : RV → Env → Option (D × Env)
  | .fz d, e => some (d, e)
  | .nw d, e => some (d, e)
  | .at i, e => match slot e i with
    | .fz d => some (d, e)
    | .ow d => some (d, e.set i (.fz d))
    | _ => none

/-! ### expressions -/
def eBind (f : EV) (k : RV → EV) : EV := fun e => match f e with
  | .ok r e1 => k r e1
  | .ex x e1 => .ex x e1
  | .no => .no
def eC (d : D) : EV := fun e => .ok (.fz d) e
def eSlot (i : Nat) : EV := fun e => match slot e i with
  | .no => .no
  | .fz d => .ok (.fz d) e
  | _ => .ok (.at i) e
def ofOp (o : Option RV) (e : Env) : RE := match o with
  | some r => .ok r e
  | none => .no
/-- one value read -/
def eOp1 (op : D → Option RV) (f : EV) : EV := eBind f fun r e => match rd r e with
  | some x => ofOp (op x) e
  | none => .no
/-- two values read -/
def eOp2 (op : D → D → Option RV) (f g : EV) : EV := eBind f fun r => eBind g fun q e => match rd r e, rd q e with
  | some x, some y => ofOp (op x y) e
  | _, _ => .no
def eOp3 (op : D → D → D → Option RV) (f g h : EV) : EV := eBind f fun r => eBind g fun q => eBind h fun p e => match rd r e, rd q e, rd p e with
  | some x, some y, some z => ofOp (op x y z) e
  | _, _, _ => .no

/-- an int, known as it comes -/
def eI (f : EV) : EV := eBind f fun r e => match r with
  | .fz (.int i) => .ok (.fz (.int i)) e
  | _ => .no
/-! arguments: from the left; kept values are frozen as they come -/
def aNil : AV := fun e => .ok [] e
def aCons (f : EV) (g : AV) : AV := fun e => match f e with
  | .ok r e1 => (match g e1 with
    | .ok rs e2 => .ok (r :: rs) e2
    | .ex x e2 => .ex x e2
    | .no => .no)
  | .ex x e1 => .ex x e1
  | .no => .no
/-- kept -/
def aKeep (f : EV) (g : AV) : AV := fun e => match f e with
  | .ok r e1 => (match stl r e1 with
    | some (d, e1') => (match g e1' with
      | .ok rs e2 => .ok (.fz d :: rs) e2
      | .ex x e2 => .ex x e2
      | .no => .no)
    | none => .no)
  | .ex x e1 => .ex x e1
  | .no => .no
def fzs : List RV → Option (List D)
  | [] => some []
  | .fz d :: r => (fzs r).map (d :: ·)
  | _ :: _ => none
/-- a display: all items kept -/
def eDisp (mk : List D → RV) (a : AV) : EV := fun e => match a e with
  | .ok rs e1 => (match fzs rs with
    | some ds => if ds.length ≤ 16777216 then .ok (mk ds) e1 else .no
    | none => .no)
  | .ex x e1 => .ex x e1
  | .no => .no

/-! calls -/
/-- the arguments' values by the parameters' modes -/
def argD : List Md → List RV → Env → Option (List D)
  | [], [], _ => some []
  | .v :: ms, .fz d :: rs, e => (argD ms rs e).map (d :: ·)
  | .r :: ms, r :: rs, e => (match rd r e with
    | some d => (argD ms rs e).map (d :: ·)
    | none => none)
  | .m :: ms, .at i :: rs, e => (match slot e i with
    | .ow d => (argD ms rs e).map (d :: ·)
    | .mu d => (argD ms rs e).map (d :: ·)
    | _ => none)
  | _, _, _ => none
/-- the places of the changed ones; all places that are handed on -/
def mutIx : List Md → List RV → List Nat
  | .m :: ms, .at i :: rs => i :: mutIx ms rs
  | _ :: ms, _ :: rs => mutIx ms rs
  | _, _ => []
def atIx : List RV → List Nat
  | .at i :: rs => i :: atIx rs
  | _ :: rs => atIx rs
  | [] => []
/-- no changed place is handed on twice -/
def apart (ms : List Md) (rs : List RV) : Bool := (mutIx ms rs).all fun i => (atIx rs).count i == 1
/-- the changed ones written back -/
def wback : List Nat → List D → Env → Option Env
  | [], [], e => some e
  | i :: is, d :: ds, e => (match slot e i with
    | .ow _ => wback is ds (e.set i (.ow d))
    | .mu _ => wback is ds (e.set i (.mu d))
    | _ => none)
  | _, _, _ => none
def rv (n : Bool) (d : D) : RV := if n then .nw d else .fz d
def eCall (phi : List D → RC) (ms : List Md) (a : AV) : EV := fun e => match a e with
  | .ok rs e1 => (match argD ms rs e1 with
    | some ds => if apart ms rs then (match phi ds with
        | .ok n d outs => (match wback (mutIx ms rs) outs e1 with
          | some e2 => .ok (rv n d) e2
          | none => .no)
        | .ex x outs => (match wback (mutIx ms rs) outs e1 with
          | some e2 => .ex x e2
          | none => .no)
        | .no => .no)
      else .no
    | none => .no)
  | .ex x e1 => .ex x e1
  | .no => .no
def isLst : D → Bool
  | .lst _ => true | _ => false
def isDct : D → Bool
  | .dk _ => true | .dt _ => true | _ => false
def isSet : D → Bool
  | .st _ => true | _ => false
def mine (k : D → Bool) : Sl → Bool
  | .ow d => k d | .mu d => k d | _ => false
def reown (s : Sl) (d : D) : Sl := match s with
  | .mu _ => .mu d | _ => .ow d
/-- a call that changes the object at a slot: x.append(..); k: its kind -/
def eMut (i : Nat) (k : D → Bool) (op : D → List D → Option (D × RV)) (a : AV) : EV := fun e => if mine k (slot e i) then (match a e with
  | .ok rs e1 => (match fzs rs with
    | some ds => if mine k (slot e1 i) then (match (slot e1 i).val with
      | some d => (match op d ds with
        | some (d', r) => .ok r (e1.set i (reown (slot e1 i) d'))
        | none => .no)
      | none => .no) else .no
    | none => .no)
  | .ex x e1 => .ex x e1
  | .no => .no) else .no

/-! truth, and, or, not -/
def truth : D → Option Bool
  | .non => some false
  | .bl b => some b
  | .int i => some (i != 0)
  | .str x => some (x.length != 0)
  | .lst xs => some (!xs.isEmpty)
  | .tup xs => some (!xs.isEmpty)
  | .dk kvs => some (!kvs.isEmpty)
  | _ => none
def asBool : D → Option Bool
  | .bl b => some b
  | _ => none
def tRd (p : D → Option Bool) (f : EV) : TV := fun e => match f e with
  | .ok r e1 => (match rd r e1 with
    | some d => (match p d with
      | some b => .ok b e1
      | none => .no)
    | none => .no)
  | .ex x e1 => .ex x e1
  | .no => .no
/-- an expression that gives True or False; any value by its truth -/
def tVal : EV → TV := tRd asBool
def tTru : EV → TV := tRd truth
def tAndS (f g : TV) : TV := fun e => match f e with
  | .ok true e1 => g e1
  | r => r
def tOrS (f g : TV) : TV := fun e => match f e with
  | .ok false e1 => g e1
  | r => r
def tNotS (f : TV) : TV := fun e => match f e with
  | .ok b e1 => .ok (!b) e1
  | r => r
def eIf (c : TV) (f g : EV) : EV := fun e => match c e with
  | .ok true e1 => f e1
  | .ok false e1 => g e1
  | .ex x e1 => .ex x e1
  | .no => .no
/-- x and y, x or y as values -/
def eAnd (f g : EV) : EV := eBind f fun r e => match rd r e with
  | some d => (match truth d with
    | some true => g e
    | some false => .ok r e
    | none => .no)
  | none => .no
def eOr (f g : EV) : EV := eBind f fun r e => match rd r e with
  | some d => (match truth d with
    | some true => .ok r e
    | some false => g e
    | none => .no)
  | none => .no
def eNot (f : EV) : EV := eOp1 (fun d => (truth d).map fun b => .fz (.bl (!b))) f

/-! ### statements -/
def sBind (f : SV) (k : SV) : SV := fun e => match f e with
  | .nx e1 => k e1
  | r => r
def sNx : SV := fun e => .nx e
def sSeq (f g : SV) : SV := sBind f g
def sE (f : EV) (k : RV → SV) : SV := fun e => match f e with
  | .ok r e1 => k r e1
  | .ex x e1 => .ex x e1
  | .no => .no
def sExpr (f : EV) : SV := sE f fun _ e => .nx e
/-- handed back: a new object, or one of one's own, or a frozen value -/
def ret (r : RV) (e : Env) : RS := match r with
  | .fz d => .rt (.fz d) e
  | .nw d => .rt (.nw d) e
  | .at i => (match slot e i with
    | .fz d => .rt (.fz d) e
    | .ow d => .rt (.nw d) (e.set i .no)
    | _ => .no)
def sRet (f : EV) : SV := sE f ret
def sRetN : SV := fun e => .rt (.fz .non) e
def sBk : SV := fun e => .bk e
def sCt : SV := fun e => .ct e
def sIf (c : TV) (f g : SV) : SV := fun e => match c e with
  | .ok true e1 => f e1
  | .ok false e1 => g e1
  | .ex x e1 => .ex x e1
  | .no => .no
/-- name = value: a new object is owned -/
def setS (i : Nat) (r : RV) (e : Env) : Option Env := match r with
  | .fz d => some (e.set i (.fz d))
  | .nw d => some (e.set i (.ow d))
  | .at _ => (stl r e).map fun p => p.2.set i (.fz p.1)
def sSet (i : Nat) (f : EV) : SV := sE f fun r e => match setS i r e with
  | some e1 => .nx e1
  | none => .no
/-- names = the items of a frozen tuple -/
def setAll : List Nat → List D → Env → Option Env
  | [], [], e => some e
  | i :: is, d :: ds, e => setAll is ds (e.set i (.fz d))
  | _, _, _ => none
/-- a loop's target: a name; names -/
inductive Tg where
  | one (i : Nat) | tup (is : List Nat)
def tgt : Tg → D → Env → Option Env
  | .one i, d, e => some (e.set i (.fz d))
  | .tup is, .tup ds, e => setAll is ds e
  | _, _, _ => none
def sUnp (is : List Nat) (f : EV) : SV := sE f fun r e => match stl r e with
  | some (.tup ds, e1) => (match setAll is ds e1 with
    | some e2 => .nx e2
    | none => .no)
  | _ => .no
/-- slots forgotten -/
def wipeE (e : Env) : List Nat → Env
  | [] => e
  | i :: is => (wipeE e is).set i .no
/-- the turns of a loop; tmp: the slots forgotten behind each turn -/
def forL (tmp : List Nat) (t : Tg) (b : SV) : List D → SV
  | [], e => .nx e
  | d :: ds, e => (match tgt t d e with
    | some e1 => (match b e1 with
      | .nx e2 => forL tmp t b ds (wipeE e2 tmp)
      | .ct e2 => forL tmp t b ds (wipeE e2 tmp)
      | .bk e2 => .nx (wipeE e2 tmp)
      | .rt r e2 => .rt r e2
      | .ex x e2 => .ex x e2
      | .no => .no)
    | none => .no)
/-- what is walked: the items of a value -/
def items : D → Option (List D)
  | .lst xs => some xs
  | .tup xs => some xs
  | .scr xs => some xs
  | .str x => some (x.cps.toList.map fun c => .str ⟨#[c]⟩)
  | _ => none
/-- walked: the value is frozen, or lent to be read -/
def walk (r : RV) (e : Env) : Option (D × Env) := match r with
  | .fz d => some (d, e)
  | .nw d => some (d, e)
  | .at i => (match slot e i with
    | .fz d => some (d, e)
    | .ow d => some (d, e.set i (.fz d))
    | .bo d => some (d, e)
    | _ => none)
/-- what is walked: the items -/
inductive RW where
  | ok (xs : List D) (e : Env) | ex (x : Exn) (e : Env) | no
abbrev WV := Env → RW
def wE (f : EV) (k : RV → WV) : WV := fun e => match f e with
  | .ok r e1 => k r e1
  | .ex x e1 => .ex x e1
  | .no => .no
def wAny (f : EV) : WV := wE f fun r e => match walk r e with
  | some (d, e1) => (match items d with
    | some xs => .ok xs e1
    | none => .no)
  | none => .no
def rng (a b : Int) : List D := (List.range (b - a).toNat).map fun i => .int (a + (i : Nat))
/-- range(b), range(a, b) -/
def wR1 (g : EV) : WV := wE (eI g) fun q e => match q with
  | .fz (.int y) => if -(2 ^ 62) ≤ y ∧ y < 2 ^ 62 then .ok (rng 0 y) e else .no
  | _ => .no
def wR2 (f g : EV) : WV := wE (eI f) fun r => wE (eI g) fun q e => match r, q with
  | .fz (.int x), .fz (.int y) => if -(2 ^ 62) ≤ x ∧ x < 2 ^ 62 ∧ -(2 ^ 62) ≤ y ∧ y < 2 ^ 62 then .ok (rng x y) e else .no
  | _, _ => .no
def sFor (tmp : List Nat) (t : Tg) (w : WV) (b : SV) : SV := fun e => match w e with
  | .ok xs e1 => forL tmp t b xs e1
  | .ex x e1 => .ex x e1
  | .no => .no
/-- while -/
def whL (tmp : List Nat) (c : TV) (b : SV) : Nat → SV
  | 0, _ => .no
  | n + 1, e => (match c e with
    | .ok true e1 => (match b e1 with
      | .nx e2 => whL tmp c b n (wipeE e2 tmp)
      | .ct e2 => whL tmp c b n (wipeE e2 tmp)
      | .bk e2 => .nx (wipeE e2 tmp)
      | .rt r e2 => .rt r e2
      | .ex x e2 => .ex x e2
      | .no => .no)
    | .ok false e1 => .nx e1
    | .ex x e1 => .ex x e1
    | .no => .no)

/-! ### comprehensions -/
/-- within: what is owned or lent to be changed is lent to be read; the block's own names forgotten -/
def Sl.lock : Sl → Sl
  | .ow d => .bo d
  | .mu d => .bo d
  | s => s
def lock (e : Env) : Env := e.map Sl.lock
/-- the items made; nothing may be raised -/
def lcL (t : Tg) (c : TV) (f : EV) : List D → Env → List D → Option (List D)
  | [], _, acc => some acc
  | d :: ds, e, acc => (match tgt t d e with
    | some e1 => (match c e1 with
      | .ok true e2 => (match f e2 with
        | .ok r e3 => (match stl r e3 with
          | some (x, _) => lcL t c f ds e (acc ++ [x])
          | none => none)
        | _ => none)
      | .ok false _ => lcL t c f ds e acc
      | _ => none)
    | none => none)
def tYesS : TV := fun e => .ok true e
/-- [f for t in w if c] -/
def eLc (own : List Nat) (t : Tg) (w : WV) (c : TV) (f : EV) : EV := fun e => match w e with
  | .ok xs e1 => (match lcL t c f xs (wipeE (lock e1) own) [] with
    | some ys => if xs.length ≤ 16777216 then .ok (.nw (.lst ys)) e1 else .no
    | none => .no)
  | .ex x e1 => .ex x e1
  | .no => .no

/-! ### a def -/
def startE (ms : List Md) (ds : List D) (n : Nat) : Env :=
  (ms.zip ds).map (fun p => match p.1 with | .v => Sl.fz p.2 | .r => Sl.bo p.2 | .m => Sl.mu p.2) ++ List.replicate (n - ds.length) Sl.no
/-- the lent parameters' values at the end -/
def outsE : List Md → Env → Option (List D)
  | [], _ => some []
  | .m :: ms, .mu d :: e => (outsE ms e).map (d :: ·)
  | .m :: _, _ => none
  | _ :: ms, _ :: e => outsE ms e
  | _ :: _, [] => none
def finish (ms : List Md) : RS → RC
  | .nx e => (match outsE ms e with
    | some o => .ok false .non o
    | none => .no)
  | .rt r e => (match r with
    | .fz d => (match outsE ms e with
      | some o => .ok false d o
      | none => .no)
    | .nw d => (match outsE ms e with
      | some o => .ok true d o
      | none => .no)
    | .at _ => .no)
  | .ex x e => (match outsE ms e with
    | some o => .ex x o
    | none => .no)
  | _ => .no
/-- a def's text: its parameters' modes, the number of its slots, its body over what the others do -/
structure Def where
  ms : List Md
  n : Nat
  body : (String → List D → RC) → SV
def Def.run (f : Def) (phi : String → List D → RC) (ds : List D) : RC :=
  if ds.length = f.ms.length then finish f.ms (f.body phi (startE f.ms ds f.n)) else .no
/-- all defs, by their names, to a depth of calls -/
def sem (tab : String → Option Def) : Nat → String → List D → RC
  | 0, _, _ => .no
  | k + 1, g, ds => match tab g with
    | some f => f.run (sem tab k) ds
    | none => .no
end S3

/-! A2: what the operators and the built-ins give, on trees. -/
namespace S3
open PySem

abbrev BIG : Nat := 16777216
/-- plain data, to a depth -/
def okD : Nat → D → Bool
  | _, .non => true
  | _, .bl _ => true
  | _, .int _ => true
  | _, .str _ => true
  | n + 1, .lst xs => xs.all (okD n)
  | n + 1, .tup xs => xs.all (okD n)
  | _, _ => false
def py : Nat → D → PyData
  | _, .bl b => .bool b
  | _, .int i => .int i
  | _, .str x => .str x
  | n + 1, .lst xs => .list (xs.map (py n))
  | n + 1, .tup xs => .tuple (xs.map (py n))
  | _, _ => .none
/-- x == y -/
def dEq (x y : D) : Option Bool := if okD 6 x && okD 6 y then some (PyData.eqv (py 6 x) (py 6 y)) else none
def bRV (o : Option Bool) : Option RV := o.map fun b => .fz (.bl b)
def opEq (x y : D) : Option RV := bRV (dEq x y)
def opNe (x y : D) : Option RV := bRV ((dEq x y).map not)
def opLt : D → D → Option RV
  | .int i, .int j => some (.fz (.bl (decide (i < j))))
  | .str x, .str y => some (.fz (.bl (decide (x.cps.toList < y.cps.toList))))
  | _, _ => none
def opLe : D → D → Option RV
  | .int i, .int j => some (.fz (.bl (decide (i ≤ j))))
  | .str x, .str y => some (.fz (.bl (!decide (y.cps.toList < x.cps.toList))))
  | _, _ => none
def opGt : D → D → Option RV
  | .int i, .int j => some (.fz (.bl (decide (j < i))))
  | .str x, .str y => some (.fz (.bl (decide (y.cps.toList < x.cps.toList))))
  | _, _ => none
def opGe : D → D → Option RV
  | .int i, .int j => some (.fz (.bl (decide (j ≤ i))))
  | .str x, .str y => some (.fz (.bl (!decide (x.cps.toList < y.cps.toList))))
  | _, _ => none
def dIs : D → D → Option Bool
  | x, .non => some (match x with | .non => true | _ => false)
  | .bl a, .bl b => some (decide (a = b))
  | _, _ => none
def opIs (x y : D) : Option RV := bRV (dIs x y)
def opIsNot (x y : D) : Option RV := bRV ((dIs x y).map not)
/-- a dict's or set's key -/
def toKey : D → Option Key
  | .int i => some (.inl i)
  | .str x => some (.inr x)
  | _ => none
def toKeys : List D → Option (List Key)
  | [] => some []
  | d :: ds => match toKey d, toKeys ds with
    | some k, some ks => some (k :: ks)
    | _, _ => none
section
variable {κ : Type} [DecidableEq κ]
def dVal (kvs : List (κ × D)) (k : κ) : Option D := (kvs.find? fun kv => decide (kv.1 = k)).map (·.2)
def dPut (kvs : List (κ × D)) (k : κ) (v : D) : List (κ × D) := if kvs.any (fun kv => decide (kv.1 = k)) then kvs.map fun kv => if kv.1 = k then (kv.1, v) else kv else kvs ++ [(k, v)]
def dDrop (kvs : List (κ × D)) (k : κ) : List (κ × D) := kvs.filter fun kv => decide (kv.1 ≠ k)
end
def dGet (x y : D) : Option (Option D) := match x, y with
  | .dk kvs, y => (toKey y).map fun k => dVal kvs k
  | .dt kvs, .tup ys => (toKeys ys).map fun k => dVal kvs k
  | _, _ => none
def dIn (x y : D) : Option Bool := match y with
  | .lst ys => if okD 6 x && ys.all (okD 5) then some (ys.any fun z => PyData.eqv (py 6 z) (py 6 x)) else none
  | .tup ys => if okD 0 x && ys.all (okD 0) then some (ys.any fun z => PyData.eqv (py 0 z) (py 0 x)) else none
  | .str z => match x with
    | .str c => if c.cps.size = 1 then some (decide (c.cps.getD 0 0 ∈ z.cps.toList)) else none
    | _ => none
  | .st ks => (toKey x).map fun k => kIn k ks
  | y => (dGet y x).map (·.isSome)
def opIn (x y : D) : Option RV := bRV (dIn x y)
def opNotIn (x y : D) : Option RV := bRV ((dIn x y).map not)

def opAdd : D → D → Option RV
  | .int i, .int j => some (.fz (.int (i + j)))
  | .str x, .str y => if x.length + y.length ≤ BIG then some (.fz (.str (x ++ y))) else none
  | .lst xs, .lst ys => if xs.length + ys.length ≤ BIG then some (.nw (.lst (xs ++ ys))) else none
  | .tup xs, .tup ys => if xs.length + ys.length ≤ BIG then some (.fz (.tup (xs ++ ys))) else none
  | _, _ => none
def opSub : D → D → Option RV
  | .int i, .int j => some (.fz (.int (i - j)))
  | _, _ => none
def strRep (x : Str) (n : Int) : Str := ⟨(List.replicate n.toNat x.cps.toList).flatten.toArray⟩
def opMul : D → D → Option RV
  | .str x, .int n => if -1000 ≤ n ∧ n ≤ 1000 ∧ x.length ≤ 1000 then some (.fz (.str (strRep x n))) else none
  | .int i, .int j => if (-(2 ^ 64) < i ∧ i < 2 ^ 64) ∨ (-(2 ^ 64) < j ∧ j < 2 ^ 64) then some (.fz (.int (i * j))) else none
  | _, _ => none
def opMod : D → D → Option RV
  | .int i, .int j => if 0 < j then some (.fz (.int (i % j))) else none
  | _, _ => none
def opDiv : D → D → Option RV
  | .int i, .int j => if 0 < j ∧ j < 1073741824 then some (.fz (.int (i / j))) else none
  | _, _ => none
def opPow : D → D → Option RV
  | .int i, .int j => if 0 ≤ j ∧ j ≤ 1000000 ∧ i.natAbs < 2 ^ 64 then some (.fz (.int (i ^ j.toNat))) else none
  | _, _ => none
def opShr : D → D → Option RV
  | .int i, .int j => if 0 ≤ j then some (.fz (.int (i / 2 ^ j.toNat))) else none
  | _, _ => none
def opNeg : D → Option RV
  | .int i => some (.fz (.int (-i)))
  | _ => none
/-- x[i] -/
def opIx : D → D → Option RV
  | .lst xs, .int i => (L2.atI xs i).map .fz
  | .tup xs, .int i => (L2.atI xs i).map .fz
  | .str z, .int i => (L2.atI z.cps.toList i).map fun c => .fz (.str ⟨#[c]⟩)
  | x, y => (dGet x y).join.map .fz
/-- x[lo:hi] -/
def cutD (xs : List D) (lo hi : Option Int) : List D := (xs.drop (HT.sIx xs.length 0 lo)).take (HT.sIx xs.length xs.length hi - HT.sIx xs.length 0 lo)
def dCut (x : D) (l h : Option Int) : Option RV := match x with
  | .lst xs => some (.nw (.lst (cutD xs l h)))
  | .str z => some (.fz (.str (L2.cutS z l h)))
  | .tup xs => some (.fz (.tup (cutD xs l h)))
  | _ => none
def opCut : D → D → D → Option RV
  | x, .int i, .int j => dCut x (some i) (some j)
  | _, _, _ => none
def opCutLo : D → D → Option RV
  | x, .int i => dCut x (some i) none
  | _, _ => none
def opCutHi : D → D → Option RV
  | x, .int j => dCut x none (some j)
  | _, _ => none
def opCutAll (x : D) : Option RV := dCut x none none
def opRev : D → Option RV
  | .lst xs => some (.nw (.lst xs.reverse))
  | _ => none
/-! built-ins -/
def opLen : D → Option RV
  | .str x => some (.fz (.int x.length))
  | .lst xs => some (.fz (.int xs.length))
  | .tup xs => some (.fz (.int xs.length))
  | .dk xs => some (.fz (.int xs.length))
  | .st xs => some (.fz (.int xs.length))
  | _ => none
def opInt : D → Option RV
  | .int i => some (.fz (.int i))
  | .bl b => some (.fz (.int (if b then 1 else 0)))
  | _ => none
def opAbs : D → Option RV
  | .int i => some (.fz (.int (if i < 0 then -i else i)))
  | _ => none
def toBools : List D → Option (List Bool)
  | [] => some []
  | .bl b :: r => (toBools r).map (b :: ·)
  | _ :: _ => none
def opAll : D → Option RV
  | .lst xs => (toBools xs).map fun bs => .fz (.bl (bs.all id))
  | _ => none
def opAny : D → Option RV
  | .lst xs => (toBools xs).map fun bs => .fz (.bl (bs.any id))
  | _ => none
/-- isinstance(x, T), T a built-in class -/
def tyN : D → Option String
  | .non => some "NoneType" | .bl _ => some "bool" | .int _ => some "int" | .str _ => some "str" | .lst _ => some "list" | .tup _ => some "tuple" | .dk _ => some "dict" | .dt _ => some "dict" | _ => none
def subT (t T : String) : Bool := t == T || (t == "bool" && T == "int")
def isTy (T : String) (d : D) : Option Bool := (tyN d).map fun t => subT t T
def opIsTy (T : String) (x : D) : Option RV := bRV (isTy T x)
def opList : D → Option RV
  | .lst xs => some (.nw (.lst xs))
  | .tup xs => some (.nw (.lst xs))
  | _ => none
def opTuple : D → Option RV
  | .lst xs => some (.fz (.tup xs))
  | .tup xs => some (.fz (.tup xs))
  | _ => none
def opStr : D → Option RV
  | .str x => some (.fz (.str x))
  | .int i => if i.natAbs.log2 < 1900 then some (.fz (.str (toString i : String))) else none
  | _ => none
/-! displays, changes -/
def mkLst (xs : List D) : RV := .nw (.lst xs)
def mkTup (xs : List D) : RV := .fz (.tup xs)
def mAppend : D → List D → Option (D × RV)
  | .lst xs, [y] => if xs.length < BIG then some (.lst (xs ++ [y]), .fz .non) else none
  | _, _ => none
def mPop : D → List D → Option (D × RV)
  | .lst xs, [] => match xs.getLast? with
    | some y => some (.lst xs.dropLast, .fz y)
    | none => none
  | _, _ => none
end S3

/-! SG: sets of any kind of key, with their members in some order; made, added to, taken from, gathered, sorted. -/
namespace S3
open PySem PySem.Spec PyProof.Rows L2
section
variable {P : Program} {w : World} {κ : Type} [DecidableEq κ]
open Classical in
noncomputable def kOf (knd : PySem.KeyKind P w κ) (v : Value) : Option κ := if h : ∃ k, knd.is k v = true then some h.choose else none
theorem kOf_is {knd : PySem.KeyKind P w κ} {k : κ} {v : Value} (h : knd.is k v = true) : kOf knd v = some k := by
  unfold kOf
  have e : ∃ k, knd.is k v = true := ⟨k, h⟩
  rw [dif_pos e]
  exact congrArg some (knd.inj v _ _ e.choose_spec h)
/-- the set at a: its members are ks, in some order; its table rises and can be walked -/
def SetG (knd : PySem.KeyKind P w κ) (h : Heap) (a : Addr) (ks : List κ) : Prop :=
  ∃ o es ep t, h.get? a = some o ∧ o.ExactSet ∧ o.data = .set es ep t ∧ ElemsOf knd es.toList ∧ (es.toList.map fun e => kOf knd e.2).Perm (ks.map some) ∧ ks.Nodup ∧
    es.size < scanBound ∧ t.fits es.size = true ∧ Ris t.place.toList ∧ (w.params.followText "set-order" = true ∨ t.led = true)
variable {knd : PySem.KeyKind P w κ} {h h' : Heap} {a : Addr} {ks : List κ}
theorem SetG.at (R : SetG knd h a ks) (k : ∀ o, h.get? a = some o → h'.get? a = some o) : SetG knd h' a ks := by
  obtain ⟨o, es, ep, t, ho, r⟩ := R
  exact ⟨o, es, ep, t, k o ho, r⟩
theorem SetG.lt (R : SetG knd h a ks) : a < h.objs.size := by
  obtain ⟨o, es, ep, t, ho, r⟩ := R
  exact Heap.lt_size ho
theorem elems_is {es : List (Int × Value)} (g : ElemsOf knd es) {e : Int × Value} (he : e ∈ es) {k : κ} : knd.is k e.2 = true ↔ kOf knd e.2 = some k := by
  refine ⟨kOf_is, fun q => ?_⟩
  obtain ⟨⟨j, hj, _⟩, _⟩ := g e he
  rw [kOf_is hj] at q
  cases q
  exact hj
theorem elems_mem {es : List (Int × Value)} (g : ElemsOf knd es) (p : (es.map fun e => kOf knd e.2).Perm (ks.map some)) {k : κ} : k ∈ ks ↔ ∃ e ∈ es, knd.is k e.2 = true := by
  have q : some k ∈ ks.map some ↔ some k ∈ es.map fun e => kOf knd e.2 := p.symm.mem_iff
  constructor
  · intro hk
    obtain ⟨e, he, q⟩ := List.mem_map.mp (q.mp (List.mem_map.mpr ⟨k, hk, rfl⟩))
    exact ⟨e, he, (elems_is g he).mpr q⟩
  · rintro ⟨e, he, q2⟩
    obtain ⟨j, hj, e2⟩ := List.mem_map.mp (q.mpr (List.mem_map.mpr ⟨e, he, (elems_is g he).mp q2⟩))
    cases e2
    exact hj
theorem SetG.len {es : Array (Int × Value)} (p : (es.toList.map fun e => kOf knd e.2).Perm (ks.map some)) : es.size = ks.length := by
  have := p.length_eq
  rw [List.length_map, List.length_map, Array.length_toList] at this
  exact this
theorem SetG.setOf (R : SetG knd h a ks) : h.SetOf knd a (fun k => decide (k ∈ ks)) ks.length := by
  obtain ⟨o, es, ep, t, ho, hx, hd, g, pm, nd, hb, hf, _⟩ := R
  exact ⟨o, es, ep, t, ho, hx, hd, g, fun k => (decide_eq_true_iff).trans (elems_mem g pm), hb, hf, SetG.len pm⟩
theorem SetG.small (R : SetG knd h a ks) : ks.length < scanBound := by
  obtain ⟨o, es, ep, t, ho, hx, hd, g, pm, nd, hb, hf, _⟩ := R
  rw [← SetG.len pm]; exact hb
end
section
variable {P : Program} {w : World} {κ : Type} [DecidableEq κ] {knd : PySem.KeyKind P w κ} {A : Around} {E : Value → Shared → Prop} {s : Shared} {a : Addr} {ks : List κ}
theorem setG_add_tail {g : Bool → Sem Unit} (hg : ∀ (b : Bool) (s₁ : Shared) (Q' : Unit → Shared → Prop), Q' () s₁ → wpAny (model P w) A (g b) Q' E s₁)
    {o : Obj} {es : Array (Int × Value)} {ep : Nat} {t : SetTable} (ho : s.heap.get? a = some o) (hex : o.ExactSet) (hd : o.data = .set es ep t)
    {es1 : Array (Int × Value)} {t2 : SetTable} (g1 : ElemsOf knd es1.toList) (p1 : (es1.toList.map fun e => kOf knd e.2).Perm (ks.map some)) (nd : ks.Nodup)
    (hb1 : es1.size < scanBound) (hf2 : t2.fits es1.size = true) (hr : Ris t2.place.toList) (hl : w.params.followText "set-order" = true ∨ t2.led = true) {wasDummy : Bool} {R : Option Bool → Shared → Prop}
    (hR : ∀ h', Heap.SameBut a s.heap h' → SetG knd h' a ks → R (some true) { s with heap := h' }) :
    wpAny (model P w) A (do
        storeSet a es1 t2
        if (!wasDummy && t2.tooFull) = true then do
            g (relayAll t2 es1 (SetTable.grown es1.size)).2.2
            storeSet a (relayAll t2 es1 (SetTable.grown es1.size)).1 (relayAll t2 es1 (SetTable.grown es1.size)).2.1
            pure (some true)
          else pure (some true)) R E s := by
  refine wpAny_bind (wpAny_storeSet_of ho hd ?_ (fits_of_scanBound hb1))
  have ho1 := store_at (es' := es1) (t' := t2) ho hd
  have sb1 := Heap.SameBut.update s.heap a (Obj.putSet es1 t2)
  split
  · have pm := relayAll_perm t2 es1 (SetTable.grown es1.size)
    have hf3 := relayAll_fits t2 es1 (SetTable.grown es1.size)
    have hr3 := relayAll_ris t2 es1 (SetTable.grown es1.size)
    have hl3 := relayAll_led t2 es1 (SetTable.grown es1.size)
    generalize relayAll t2 es1 (SetTable.grown es1.size) = Z at pm hf3 hr3 hl3 ⊢
    obtain ⟨es2, t3, gave⟩ := Z
    dsimp only at pm hf3 hr3 hl3 ⊢
    have hsz : es2.size = es1.size := by rw [← Array.length_toList, pm.length_eq, Array.length_toList]
    have hb2 : es2.size < scanBound := by rw [hsz]; exact hb1
    refine wpAny_bind (hg _ _ _ ?_)
    refine wpAny_bind (wpAny_storeSet_of ho1 rfl ?_ (fits_of_scanBound hb2))
    have ho2 := store_at (es' := es2) (t' := t3) ho1 rfl
    refine wpAny_pure (hR _ (sb1.trans (Heap.SameBut.update _ a _)) ?_)
    exact ⟨_, es2, _, t3, ho2, hex, rfl, fun e he => g1 e (pm.mem_iff.mp he), (pm.map _).trans p1, nd, hb2, hf3, hr3, hl.imp id fun z => by rw [hl3]; exact z⟩
  · exact wpAny_pure (hR _ sb1 ⟨_, es1, _, t2, ho1, hex, rfl, g1, p1, nd, hb1, hf2, hr, hl⟩)
def addK (ks : List κ) (k : κ) : List κ := if k ∈ ks then ks else ks ++ [k]
theorem addK_nodup {k : κ} (nd : ks.Nodup) : (addK ks k).Nodup := by
  unfold addK
  split
  · exact nd
  · rename_i h
    rw [List.nodup_append]
    exact ⟨nd, by simp, fun x hx y hy e => h (by rw [List.mem_singleton] at hy; rw [← hy, ← e]; exact hx)⟩
theorem addK_len (k : κ) : (addK ks k).length ≤ ks.length + 1 := by
  unfold addK
  split
  · omega
  · simp
theorem setG_add_hashed {k : κ} {v : Value} {Q : Bool → Shared → Prop} (hkey : knd.is k v = true) (hsc : v.scannable = true) (R : SetG knd s.heap a ks) (room : ks.length + 1 < scanBound)
    (hQ : ∀ h' b, Heap.SameBut a s.heap h' → SetG knd h' a (addK ks k) → Q b { s with heap := h' }) :
    wpAny (model P w) A (setAddHashed a v (knd.hash k)) Q E s := by
  obtain ⟨o, es, ep, t, ho, hex, hd, hel, pm0, nd, hb, hf, hr, hl⟩ := R
  have hn := SetG.len pm0
  unfold setAddHashed setAddHashedIn
  refine wpAny_holding (wpAny_bind (wpAny_setState_of ho hd hf ?_))
  dsimp only
  rw [byScan_of hsc hb hel]
  simp only [↓reduceIte]
  unfold setAddByScan
  refine wpAny_bind ?_
  refine wpAny_bind (wpAny_rule ?_)
  refine wpAny_bind (wpAny_setScan_of hkey ho hd hf hel ?_)
  cases hfi : List.findIdx? (fun e => knd.is k e.2) es.toList with
  | some j =>
    dsimp only
    obtain ⟨hj, pj, _⟩ := List.findIdx?_eq_some_iff_getElem.mp hfi
    have hSk : k ∈ ks := (elems_mem hel pm0).mpr ⟨es.toList[j], List.getElem_mem hj, pj⟩
    refine wpAny_pure (wpAny_pure ?_)
    refine hQ s.heap _ (Heap.SameBut.refl a s.heap) ?_
    unfold addK
    rw [if_pos hSk]
    exact ⟨o, es, ep, t, ho, hex, hd, hel, pm0, nd, hb, hf, hr, hl⟩
  | none =>
    dsimp only
    have hnk : k ∉ ks := fun z => by
      obtain ⟨e, he, q⟩ := (elems_mem hel pm0).mp z
      have c := List.findIdx?_eq_none_iff.mp hfi e he
      rw [q] at c
      cases c
    have eadd : addK ks k = ks ++ [k] := if_neg hnk
    have hgw : ∀ (b : Bool) {s₁ : Shared} {Q' : Unit → Shared → Prop}, Q' () s₁ → wpAny (model P w) A (match b with | true => rule "set.scan.the-table-gave-way" | false => pure ()) Q' E s₁ :=
      fun b s₁ Q' q => by cases b <;> first | exact wpAny_pure q | exact wpAny_rule q
    have pm := layNew_perm t es (knd.hash k) v
    have hf1 := layNew_fits t es (knd.hash k) v
    have hr1 := layNew_ris t es (knd.hash k) v hr
    have hl1 := layNew_led t es (knd.hash k) v
    generalize layNew t es (knd.hash k) v = Z at pm hf1 hr1 hl1 ⊢
    obtain ⟨es1, t1, wasDummy, gave⟩ := Z
    dsimp only at pm hf1 hr1 hl1 ⊢
    rw [Array.toList_push] at pm
    have g1 : ElemsOf knd es1.toList := fun e he => by
      rcases List.mem_append.mp (pm.mem_iff.mp he) with z | z
      · exact hel e z
      · rw [List.mem_singleton.mp z]; exact ⟨⟨k, hkey, rfl⟩, hsc⟩
    have p1 : (es1.toList.map fun e => kOf knd e.2).Perm ((addK ks k).map some) := by
      refine (pm.map _).trans ?_
      rw [eadd, List.map_append, List.map_append]
      refine List.Perm.append pm0 ?_
      show [kOf knd v].Perm [some k]
      rw [kOf_is hkey]
    have nd1 : (addK ks k).Nodup := addK_nodup nd
    have hsz : es1.size = ks.length + 1 := by rw [SetG.len p1, eadd, List.length_append]; rfl
    have hb1 : es1.size < scanBound := by rw [hsz]; exact room
    have hled : w.params.followText "set-order" = true ∨ t1.led = true := hl.imp id fun z => by rw [hl1]; exact z
    refine wpAny_bind (hgw _ ?_)
    split
    · refine wpAny_bind ?_
      rw [hashByValue_scannable 8 hsc]
      refine wpAny_pure ?_
      refine setG_add_tail ?_ ho hex hd g1 p1 nd1 hb1 ?_ ?_ ?_ ?_
      · intro b s₁ Q' q; cases b <;> first | exact wpAny_pure q | exact wpAny_rule q
      · first | (split <;> first | exact hf1 | exact SetTable.fits_plain_off hf1) | exact hf1
      · first | (split <;> exact hr1) | exact hr1
      · first | (split <;> exact hled) | exact hled
      · intro h' sb r; dsimp only; exact wpAny_pure (hQ _ _ sb r)
    · refine wpAny_bind (wpAny_pure ?_)
      simp only [↓reduceIte]
      refine setG_add_tail ?_ ho hex hd g1 p1 nd1 hb1 hf1 hr1 hled ?_
      · intro b s₁ Q' q; cases b <;> first | exact wpAny_pure q | exact wpAny_rule q
      · intro h' sb r; dsimp only; exact wpAny_pure (hQ _ _ sb r)
theorem setG_addv {k : κ} {v : Value} {Q : Bool → Shared → Prop} (hkey : knd.is k v = true) (hsc : v.scannable = true) (R : SetG knd s.heap a ks) (room : ks.length + 1 < scanBound)
    (hQ : ∀ h' b, Heap.SameBut a s.heap h' → SetG knd h' a (addK ks k) → Q b { s with heap := h', toks := s.toks + 1 }) :
    wpAny (model P w) A (setAdd a v) Q E s := by
  unfold setAdd
  refine wpAny_holding (wpAny_bind (knd.pyHash hkey ?_))
  exact setG_add_hashed (s := { s with toks := s.toks + 1 }) hkey hsc R room hQ
/-- found.add(k) -/
theorem setG_add {k : κ} {v : Value} {Q : Value → Shared → Prop} (hkey : knd.is k v = true) (hsc : v.scannable = true) (R : SetG knd s.heap a ks) (room : ks.length + 1 < scanBound)
    (hQ : ∀ h', Heap.SameBut a s.heap h' → SetG knd h' a (addK ks k) → Q .none { s with heap := h', toks := s.toks + 1 }) :
    wpAny (model P w) A (call (.builtin "set.add") [.ref a, v]) Q E s := by
  have hS := R.setOf
  refine wpAny_call_entry F.slot_set_add hS.typeIs F.entry_set_add ?_ (F.args_set_add_2 _ _)
  unfold Builtin.«set.add» Builtin.Frozenset.oneOther
  simp only [List.isEmpty_nil, bind_assoc]
  unfold Builtin.Frozenset.addrOf
  refine wpAny_bind (wpAny_pure ?_)
  try dsimp only
  refine wpAny_bind (wpAny_pure ?_)
  try dsimp only
  refine wpAny_bind (setG_addv hkey hsc R room fun h' b sb r => ?_)
  show wpAny _ _ (PySem.ret Value.none) _ _ _
  exact wpAny_pure ⟨_, rfl, hQ h' sb r⟩
/-! discard -/
theorem ris_erase {xs : Array Nat} (r : Ris xs.toList) (i : Nat) : Ris (SetTable.eraseAt xs i).toList := by
  have e : (SetTable.eraseAt xs i).toList = xs.toList.eraseIdx i := by
    unfold SetTable.eraseAt
    rw [Array.toList_append, Array.toList_extract, Array.toList_extract, List.eraseIdx_eq_take_drop_succ]
    simp [List.extract_eq_drop_take, List.take_of_length_le]
  rw [e]
  exact List.Pairwise.sublist (List.eraseIdx_sublist _ _) r
theorem erase_list {α : Type} (xs : Array α) (i : Nat) : (SetTable.eraseAt xs i).toList = xs.toList.eraseIdx i := by
  unfold SetTable.eraseAt
  rw [Array.toList_append, Array.toList_extract, Array.toList_extract, List.eraseIdx_eq_take_drop_succ]
  simp [List.extract_eq_drop_take, List.take_of_length_le]
theorem insert_size (xs : Array Nat) (p x : Nat) (hp : p ≤ xs.size) : (SetTable.insertAt xs p x).size = xs.size + 1 := by
  rw [← Array.length_toList, SetTable.toList_insertAt, List.length_append, List.length_cons, List.length_take, List.length_drop, Array.length_toList]
  omega
theorem drop_fits {t : SetTable} {n i : Nat} (hf : t.fits (n + 1) = true) (hi : i < n + 1) (hr : Ris t.place.toList) : (t.drop i).fits n = true ∧ Ris (t.drop i).place.toList ∧ (t.drop i).led = t.led := by
  have hp : t.place.size = n + 1 ∧ t.fill ≤ t.mask := by
    simp only [SetTable.fits, Bool.and_eq_true, beq_iff_eq, decide_eq_true_eq] at hf
    exact hf
  have hl : t.place[i]? = some (t.place[i]'(by omega)) := Array.getElem?_eq_getElem (by omega)
  generalize t.place[i]'(by omega) = j at hl
  have e : t.drop i = { t with place := SetTable.eraseAt t.place i, dummies := SetTable.insertAt t.dummies (SetTable.below t.dummies j) j } := by
    unfold SetTable.drop
    rw [hl]
  rw [e]
  refine ⟨?_, ris_erase hr i, rfl⟩
  have z1 : (SetTable.eraseAt t.place i).size = n := by
    rw [← Array.length_toList, erase_list, List.length_eraseIdx, Array.length_toList, if_pos (by omega)]
    omega
  simp only [SetTable.fits, Bool.and_eq_true, beq_iff_eq, decide_eq_true_eq]
  refine ⟨z1, ?_⟩
  show (SetTable.eraseAt t.place i).size + (SetTable.insertAt t.dummies (SetTable.below t.dummies j) j).size ≤ t.mask
  have h2 := hp.2
  unfold SetTable.fill at h2
  have z2 : (SetTable.insertAt t.dummies (SetTable.below t.dummies j) j).size ≤ t.dummies.size + 1 := by
    rw [← Array.length_toList, SetTable.toList_insertAt, List.length_append, List.length_cons, List.length_take, List.length_drop, Array.length_toList]
    omega
  have h3 := hp.1
  omega
end
/-! as tracked things -/
theorem kIn_iff {k : Key} {ks : List Key} : kIn k ks = true ↔ k ∈ ks := by
  unfold kIn
  rw [List.any_eq_true]
  exact ⟨fun ⟨j, h1, h2⟩ => (of_decide_eq_true h2) ▸ h1, fun h => ⟨k, h, decide_eq_true rfl⟩⟩
theorem SetG.setOfK {P : Program} {w : World} {h : Heap} {a : Addr} {ks : List Key} (R : SetG (mixKind P w) h a ks) : h.SetOf (mixKind P w) a (fun k => kIn k ks) ks.length := by
  obtain ⟨o, es, ep, t, ho, hx, hd, g, pm, nd, hb, hf, _⟩ := R
  exact ⟨o, es, ep, t, ho, hx, hd, g, fun k => kIn_iff.trans (elems_mem g pm), hb, hf, SetG.len pm⟩
def SetGO (P : Program) (w : World) (a : Addr) (ks : List Key) : HO := .ext fun h => SetG (mixKind P w) h a ks
theorem setG_new {w : World} {P : Program} {H : Hp} {h : Heap} {a : Addr} {ks : List Key} (R : SetG (mixKind P w) h a ks) : ObjOk P w H h a (SetGO P w a ks) := by
  have ⟨o, _, _, _, ho, _⟩ := R
  exact ⟨R, ⟨o, ho⟩, fun h1 h2 p k => SetG.at p k⟩
section
variable {X : Cx}
theorem setG_get {pins : List (Addr × Obj)} {σ : L2.St} {H : Hp} {s : Shared} {a : Addr} {ks : List Key} (I : Inv X pins σ H s) (ha : H a = some (SetGO X.prog X.w a ks)) : SetG (mixKind X.prog X.w) s.heap a ks := (I.hok a _ ha).1
/-- k in found, k not in found -/
def rSInG (P : Program) (w : World) (neg : Bool) : V → V → Hp → VK → Prop := fun x y H Q => ∃ (k : Key) (a : Addr) (ks : List Key), x = kV k ∧ y = V.ref a ∧ H a = some (SetGO P w a ks) ∧ Q (.bl (if neg then !kIn k ks else kIn k ks)) H
theorem or_sinG : OpR X (compareOp .In) (rSInG X.prog X.w false) := by
  intro pins s σ H x y v u Q I rx ry h
  obtain ⟨k, a, ks, rfl, rfl, ha, q⟩ := h
  cases ry
  exact wpAny_inSet_of (kV_is rx) (key_scan rx) (setG_get I ha).setOfK ⟨.bl (kIn k ks), H, I.tok _, rfl, q⟩
theorem or_snotinG : OpR X (compareOp .NotIn) (rSInG X.prog X.w true) := by
  intro pins s σ H x y v u Q I rx ry h
  obtain ⟨k, a, ks, rfl, rfl, ha, q⟩ := h
  cases ry
  exact wpAny_notInSet_of (kV_is rx) (key_scan rx) (setG_get I ha).setOfK ⟨.bl (!kIn k ks), H, I.tok _, rfl, q⟩
theorem call_lenSetG : CallR X (.builtin "len") (fun xs H Q => ∃ a ks, xs = [V.ref a] ∧ H a = some (SetGO X.prog X.w a ks) ∧ Q (.int ks.length) H) := by
  intro pins s σ H xs us Q I r h
  obtain ⟨a, ks, rfl, ha, q⟩ := h
  have hr : us = [Value.ref a] := by cases r with | cons h t => cases t; cases h; rfl
  subst hr
  obtain ⟨o, es, ep, t, ho, hex, hd, _, _, hb, hf, hn⟩ := (setG_get I ha).setOf
  rw [← hn] at q
  have e : scanBound ≤ 2 ^ 63 := by decide +kernel
  exact call_len_set ho hex hd hf (by omega) ⟨.int es.size, H, I.tok _, ⟨_, rfl⟩, q⟩
end
end S3

/-! SG2: sets: discard, set(xs), sorted(s), {x}; as calls over the abstract heap. -/
namespace S3
open PySem PySem.Spec PyProof.Rows L2
section
variable {P : Program} {w : World} {κ : Type} [DecidableEq κ] {knd : PySem.KeyKind P w κ} {A : Around} {E : Value → Shared → Prop} {s : Shared} {a : Addr} {ks : List κ}
theorem perm_erase {α : Type} {l : List α} {i : Nat} {x : α} (h : l[i]? = some x) : l.Perm (x :: l.eraseIdx i) := (L2.erase_perm l i x h).symm
/-- found.discard(k) -/
def delK (ks : List κ) (k : κ) : List κ := ks.filter fun j => decide (j ≠ k)
theorem delK_perm {k : κ} (nd : ks.Nodup) (h : k ∈ ks) : ks.Perm (k :: delK ks k) := by
  induction ks with
  | nil => cases h
  | cons j ks ih =>
    have nd' := List.nodup_cons.mp nd
    unfold delK
    by_cases e : j = k
    · subst e
      have e2 : ks.filter (fun i => decide (i ≠ j)) = ks := List.filter_eq_self.mpr fun i hi => decide_eq_true fun z => nd'.1 (z ▸ hi)
      rw [List.filter_cons_of_neg (by simp), e2]
    · have hk : k ∈ ks := (List.mem_cons.mp h).resolve_left (fun z => e z.symm)
      rw [List.filter_cons_of_pos (by simp [e])]
      exact ((ih nd'.2 hk).cons j).trans (List.Perm.swap _ _ _)
theorem delK_none {k : κ} (h : k ∉ ks) : delK ks k = ks := List.filter_eq_self.mpr fun i hi => decide_eq_true fun z => h (z ▸ hi)
theorem setG_find {k : κ} {v : Value} {Q : Option Nat → Shared → Prop} (hkey : knd.is k v = true) (hsc : v.scannable = true) {o : Obj} {es : Array (Int × Value)} {ep : Nat} {t : SetTable} (ho : s.heap.get? a = some o) (hd : o.data = .set es ep t) (hel : ElemsOf knd es.toList)
    (hb : es.size < scanBound) (hf : t.fits es.size = true) (h : Q (List.findIdx? (fun e => knd.is k e.2) es.toList) s) : wpAny (model P w) A (setFind a v (knd.hash k)) Q E s := by
  unfold setFind setFindIn
  refine wpAny_bind (wpAny_setState_of ho hd hf ?_)
  dsimp only
  rw [byScan_of hsc hb hel]
  simp only [↓reduceIte]
  refine wpAny_bind (wpAny_rule ?_)
  refine wpAny_bind (wpAny_setScan_of hkey ho hd hf hel ?_)
  cases hr : List.findIdx? (fun e => knd.is k e.2) es.toList with
  | none =>
    rw [hr] at h
    exact wpAny_pure h
  | some j =>
    rw [hr] at h
    dsimp only
    rw [Nat.zero_add]
    exact wpAny_pure h
theorem setG_discard {k : κ} {v : Value} {Q : Value → Shared → Prop} (hkey : knd.is k v = true) (hsc : v.scannable = true) (R : SetG knd s.heap a ks)
    (hQ : ∀ h', Heap.SameBut a s.heap h' → SetG knd h' a (delK ks k) → Q .none { s with heap := h', toks := s.toks + 1 }) :
    wpAny (model P w) A (call (.builtin "set.discard") [.ref a, v]) Q E s := by
  have hS := R.setOf
  obtain ⟨o, es, ep, t, ho, hex, hd, hel, pm, nd, hb, hf, hr, hl⟩ := R
  have hn := SetG.len pm
  refine wpAny_call_entry F.slot_set_discard hS.typeIs F.entry_set_discard ?_ (F.args_set_discard_2 _ _)
  unfold Builtin.«set.discard» Builtin.Frozenset.oneOther
  simp only [List.isEmpty_nil, bind_assoc]
  unfold Builtin.Frozenset.addrOf Builtin.Frozenset.withSetAsKey setDiscard
  refine wpAny_bind (wpAny_pure ?_)
  try dsimp only
  refine wpAny_bind (wpAny_pure ?_)
  try dsimp only
  refine wpAny_bind (wpAny_tryCatch ?_)
  refine wpAny_holding ?_
  refine wpAny_bind (knd.pyHash hkey ?_)
  unfold setDiscardHashed
  refine wpAny_bind (setG_find (s := { s with toks := s.toks + 1 }) hkey hsc ho hd hel hb hf ?_)
  cases hfi : List.findIdx? (fun e => knd.is k e.2) es.toList with
  | none =>
    dsimp only
    have hnk : k ∉ ks := fun z => by
      obtain ⟨e, he, q⟩ := (elems_mem hel pm).mp z
      have c := List.findIdx?_eq_none_iff.mp hfi e he
      rw [q] at c
      cases c
    refine wpAny_pure ?_
    show wpAny _ _ (PySem.ret Value.none) _ _ _
    refine wpAny_pure ⟨_, rfl, hQ s.heap (Heap.SameBut.refl a s.heap) ?_⟩
    rw [delK_none hnk]
    exact ⟨o, es, ep, t, ho, hex, hd, hel, pm, nd, hb, hf, hr, hl⟩
  | some j =>
    dsimp only
    obtain ⟨hj, pj, _⟩ := List.findIdx?_eq_some_iff_getElem.mp hfi
    have hj2 : j < es.size := by rw [Array.length_toList] at hj; exact hj
    have gj := List.getElem?_eq_getElem hj
    generalize es.toList[j] = e0 at pj gj
    have hk : k ∈ ks := (elems_mem hel pm).mpr ⟨e0, List.mem_of_getElem? gj, pj⟩
    have hk0 : kOf knd e0.2 = some k := kOf_is pj
    obtain ⟨n, hn2⟩ : ∃ n, es.size = n + 1 := ⟨es.size - 1, by omega⟩
    obtain ⟨f1, f2, f3⟩ := drop_fits (n := n) (i := j) (by rw [← hn2]; exact hf) (by omega) hr
    have el : (SetTable.eraseAt es j).toList = es.toList.eraseIdx j := erase_list es j
    have esz : (SetTable.eraseAt es j).size = n := by
      rw [← Array.length_toList, el, List.length_eraseIdx, Array.length_toList, if_pos hj2]
      omega
    refine wpAny_bind (wpAny_setState_of (s := { s with toks := s.toks + 1 }) ho hd hf ?_)
    dsimp only
    refine wpAny_bind (wpAny_storeSet_of (s := { s with toks := s.toks + 1 }) ho hd ?_ (fits_of_scanBound (by rw [esz]; omega)))
    refine wpAny_bind (wpAny_point ?_)
    refine wpAny_pure ?_
    show wpAny _ _ (PySem.ret Value.none) _ _ _
    refine wpAny_pure ⟨_, rfl, hQ _ (Heap.SameBut.update s.heap a _) ?_⟩
    have ho1 := store_at (es' := SetTable.eraseAt es j) (t' := t.drop j) ho hd
    refine ⟨_, _, _, _, ho1, hex, rfl, ?_, ?_, ?_, by rw [esz]; omega, by rw [esz]; exact f1, f2, hl.imp id fun z => by rw [f3]; exact z⟩
    · rw [el]
      exact fun e he => hel e (List.mem_of_mem_eraseIdx he)
    · rw [el]
      have p1 : (es.toList.map fun e => kOf knd e.2).Perm (some k :: (es.toList.eraseIdx j).map fun e => kOf knd e.2) := by
        have := (perm_erase gj).map fun e => kOf knd e.2
        rw [List.map_cons, hk0] at this
        exact this
      have p2 : (ks.map some).Perm (some k :: (delK ks k).map some) := by
        have := (delK_perm nd hk).map some
        rwa [List.map_cons] at this
      exact (List.perm_cons _).mp ((p1.symm.trans pm).trans p2)
    · exact List.Pairwise.sublist (List.filter_sublist) nd
/-! set(xs) -/
def dedK (ks : List κ) : List κ := ks.foldl addK []
theorem setG_fresh {h : Heap} {a : Addr} (ho : h.get? a = some { cls := .type "set", dict := none, data := .set #[] 0 (.fresh 0 0 (!w.params.followText "set-order")) }) : SetG knd h a [] :=
  ⟨_, #[], 0, _, ho, ⟨rfl, rfl, rfl⟩, rfl, (fun e he => by simp at he), (by simp), (by simp), (by decide), (by rfl), List.Pairwise.nil, by
    show _ ∨ (!w.params.followText "set-order") = true
    cases w.params.followText "set-order"
    · exact .inr rfl
    · exact .inl rfl⟩
theorem dedK_take {ks : List κ} {i : Nat} {k : κ} (h : ks[i]? = some k) : dedK (ks.take (i + 1)) = addK (dedK (ks.take i)) k := by
  unfold dedK
  rw [List.take_add_one, h, List.foldl_append]
  rfl
theorem dedK_len (ks : List κ) : (dedK ks).length ≤ ks.length := by
  have : ∀ (ks acc : List κ), (ks.foldl addK acc).length ≤ acc.length + ks.length := by
    intro ks
    induction ks with
    | nil => intro acc; exact Nat.le_refl _
    | cons k ks ih =>
      intro acc
      have h1 := ih (addK acc k)
      have h2 := addK_len (ks := acc) k
      rw [List.foldl_cons, List.length_cons]
      omega
  have h := this ks []
  rw [List.length_nil] at h
  unfold dedK
  omega
theorem setG_update {I : Addr} {fp wr : List Addr} {G : Array GenState → Array GenState → Prop} {n : Nat} {Pv : Nat → Value → Prop} {St : Nat → Shared → Prop} {R : Result → Shared → Prop}
    (W : WalksS P w A.in1 I fp wr G n Pv St) (S : Addr) (hSf : S ∉ fp) (ns : List κ) (hn : n = ns.length) (hb : ns.length + 1 < scanBound) (hval : ∀ i v, Pv i v → ∃ k, ns[i]? = some k ∧ knd.is k v = true ∧ v.scannable = true) :
    ∀ (k i : Nat) (s : Shared), n - i = k → i ≤ n → St i s → SetG knd s.heap S (dedK (ns.take i)) →
      (∀ s', Moved (S :: wr) G s s' → SetG knd s'.heap S (dedK ns) → R (.ok (.ret .none)) s') →
      codeAny (model P w) A (.builtin "set.update.loop" ⟨[.ref S, .ref I], []⟩) R s := by
  have hSw : S ∉ wr := fun h => hSf (W.sub _ h)
  have hsub : ∀ b ∈ wr, b ∈ S :: wr := fun b hb => List.mem_cons_of_mem _ hb
  intro k
  induction k with
  | zero =>
    intro i s hk' hi hst hS hR
    have hin : i = n := by omega
    subst hin
    refine codeAny_builtin F.entry_set_update_loop ?_
    rw [Around.under_plainId F.plain_set_update_loop _]
    show wpAny _ A.in1 (pyNext (.ref I) >>= _) _ _ s
    refine wpAny_bind (W.done s _ _ hst fun s' hm => ?_)
    show wpAny _ A.in1 (PySem.ret Value.none) _ _ s'
    have e : ns.take i = ns := List.take_of_length_le (by omega)
    rw [e] at hS
    exact wpAny_pure (hR s' (hm.mono hsub) (hS.at fun o e => hm.heap S o hSw e))
  | succ k ih =>
    intro i s hk' hi hst hS hR
    have hlt : i < n := by omega
    refine codeAny_builtin F.entry_set_update_loop ?_
    rw [Around.under_plainId F.plain_set_update_loop _]
    show wpAny _ A.in1 (pyNext (.ref I) >>= _) _ _ s
    refine wpAny_bind (W.item i s _ _ hlt hst fun v s' hP hst' hm => ?_)
    obtain ⟨z, hz, hkey, hsc⟩ := hval i v hP
    have hS' : SetG knd s'.heap S (dedK (ns.take i)) := hS.at fun o e => hm.heap S o hSw e
    show wpAny _ A.in1 (holding [v] (setAdd S v) >>= _) _ _ s'
    refine wpAny_bind (wpAny_holding ?_)
    have hlen : (dedK (ns.take i)).length ≤ i := Nat.le_trans (dedK_len _) (by rw [List.length_take]; omega)
    refine setG_addv hkey hsc hS' (by omega) fun h' b hsb hS2 => ?_
    rw [← dedK_take hz] at hS2
    refine wpAny_pure ⟨plainId_quiet F.plain_set_update_loop _, ih (i + 1) _ (by omega) hlt (W.frame _ s' _ _ hst' (Nat.le_succ _) fun b hb o e => ?_) hS2 fun s'' hm'' hS'' => ?_⟩
    · rw [hsb.2 b (fun h : b = S => hSf (by rw [← h]; exact hb))]; exact e
    · refine hR s'' (Moved.trans W.gtrans ((hm.mono hsub).then_heap (Nat.le_succ _) fun b o hb e => ?_) hm'') hS''
      rw [hsb.2 b (fun h : b = S => hb (by rw [h]; exact List.mem_cons_self))]; exact e
end
end S3

/-! SG3: set(a tuple), set(a list). -/
namespace S3
open PySem PySem.Spec PyProof.Rows L2
section
variable {P : Program} {w : World} {κ : Type} [DecidableEq κ] {knd : PySem.KeyKind P w κ} {A : Around} {E : Value → Shared → Prop} {s : Shared} {a : Addr} {ks : List κ}
set_option maxRecDepth 100000 in
set_option maxHeartbeats 3200000 in
theorem call_set_tupG {l : Addr} {items : Array Value} (ns : List κ) {Q : Value → Shared → Prop} (hh : A.handled = none) (hl : s.heap.IsTuple l items) (hisz : items.size = ns.length) (hit : ∀ (i : Nat) (v : Value), items[i]? = some v → ∃ k, ns[i]? = some k ∧ knd.is k v = true ∧ v.scannable = true) (hb : ns.length + 1 < scanBound)
    (h : ∀ (h' : Heap) (tk : Nat), SetG knd h' s.heap.objs.size (dedK ns) → (∀ b o, s.heap.get? b = some o → h'.get? b = some o) → Q (.ref s.heap.objs.size) { s with heap := h', toks := tk }) :
    wpAny (model P w) A (call (.type "set") [.ref l]) Q E s := by
  obtain ⟨c, tl, hmro⟩ := F.called_set.mro
  have hmade := F.called_set.made
  have hsub := F.called_set.sub
  refine wpAny_call (codeAny_of_tree ?_)
  show wpAny _ _ (callAny (.type "set") _) _ _ _
  refine wpAny_pure ⟨Code.quiet_builtin _ (by decide +kernel), codeAny_builtin F.entry_type_call ?_⟩
  rw [Around.under_plain (weight_type_call_type "set" [.ref l] []) rfl]
  have h1 := F.called_set.notType
  have h2 := F.called_set.canCreate
  have hct := F.typeCall_set_1 (.ref l)
  repeat (any_goals (first | assumption | wp_step))

  refine codeAny_mono (code_set_led1 (.ref l) (E := E) (Q₁ := fun obj s₁ => obj = .ref s.heap.objs.size ∧ s₁ = { s with heap := s.heap.push { cls := .type "set", dict := none, data := .set #[] 0 (.fresh 0 0 (!w.params.followText "set-order")) } }) ⟨rfl, rfl⟩) fun r s₁ hr => ?_
  cases r with
  | error e => exact hr
  | ok fl =>
    cases fl with
    | ret obj =>
      obtain ⟨rfl, rfl⟩ := hr
      have hS : (s.heap.push { cls := .type "set", dict := none, data := .set #[] 0 (.fresh 0 0 (!w.params.followText "set-order")) }).get? s.heap.objs.size = some { cls := .type "set", dict := none, data := .set #[] 0 (.fresh 0 0 (!w.params.followText "set-order")) } := Heap.get?_push_size _ rfl
      have hT : Shared.TypeIs { s with heap := s.heap.push { cls := .type "set", dict := none, data := .set #[] 0 (.fresh 0 0 (!w.params.followText "set-order")) } } (.ref s.heap.objs.size) "set" := ⟨_, hS, rfl⟩
      have hli := F.called_set.init.lookup
      have hbi := F.called_set.init.bind (.ref s.heap.objs.size)
      repeat (any_goals (first | assumption | wp_step))

      refine codeAny_mono (codeAny_call_builtin (R := wants (fun r s₂ => r = .none ∧ ∃ h' tk, s₂ = { s with heap := h', toks := tk } ∧ SetG knd h' s.heap.objs.size (dedK ns) ∧
          (∀ b o, s.heap.get? b = some o → h'.get? b = some o)) E) F.called_set.init.plain F.entry_set_init (check_set_init_1 hT ?_)) fun r₂ s₂ hr₂ => ?_
      · obtain ⟨ol, hol, hcl, nl, hdl⟩ := hl
        obtain ⟨ocls, odict, odata, oslots⟩ := ol
        simp only at hcl hdl
        subst hcl; subst hdl
        have hol' : (s.heap.push { cls := .type "set", dict := none, data := .set #[] 0 (.fresh 0 0 (!w.params.followText "set-order")) }).get? l = some { cls := .type "tuple", dict := odict, data := .seq items nl, slots := oslots } := Heap.get?_push_of_some _ hol
        have hsls := F.sub_tuple_set
        have hslf := F.sub_tuple_frozenset
        have hne : (Value.type "tuple" == Value.type "dict") = false := by decide
        have hl1 : (s.heap.push { cls := .type "set", dict := none, data := .set #[] 0 (.fresh 0 0 (!w.params.followText "set-order")) }).IsTuple l items := ⟨_, hol', rfl, nl, rfl⟩
        unfold Builtin.«set.__init__» noKeywords Builtin.Frozenset.updateFrom
        generalize hPI : pyIter = PI
        wp_walk
        subst hPI

        refine wpAny_pyIter_tuple hl1 ?_
        refine wpAny_bind (wpAny_runValue ?_)
        have hlS : l < s.heap.objs.size := Heap.lt_size hol
        have hh3 : A.in1.in1.in1.handled = none := by simp [hh]
        have hz1 : (s.heap.push { cls := .type "set", dict := none, data := .set #[] 0 (.fresh 0 0 (!w.params.followText "set-order")) }).objs.size = s.heap.objs.size + 1 := Heap.size_push ..
        have hneI : l ≠ (s.heap.push { cls := .type "set", dict := none, data := .set #[] 0 (.fresh 0 0 (!w.params.followText "set-order")) }).objs.size := by
          rw [Heap.size_push]; exact Nat.ne_of_lt (Nat.lt_succ_of_lt hlS)
        have hSf : s.heap.objs.size ∉ [(s.heap.push { cls := .type "set", dict := none, data := .set #[] 0 (.fresh 0 0 (!w.params.followText "set-order")) }).objs.size, l] := by
          rw [Heap.size_push]; simp only [List.mem_cons, List.mem_singleton, List.not_mem_nil, or_false, not_or]
          exact ⟨Nat.ne_of_lt (Nat.lt_succ_self _), Nat.ne_of_gt hlS⟩
        have hval : ∀ (i : Nat) (v : Value), items[i]? = some v → ∃ k, ns[i]? = some k ∧ knd.is k v = true ∧ v.scannable = true := hit
        refine setG_update ((Walks.tuple hh3 _ l hneI items).toS) s.heap.objs.size
          hSf ns hisz hb hval (items.size - 0) 0 _ (by omega) (Nat.zero_le _)
          ⟨⟨_, Heap.get?_push_size _ rfl, rfl, rfl⟩, (hl1.push _)⟩ ?hS0 ?hR
        case hS0 =>
          have hget : ((s.heap.push { cls := .type "set", dict := none, data := .set #[] 0 (.fresh 0 0 (!w.params.followText "set-order")) }).push { cls := .type "tuple_iterator", data := .fields #[.ref l, .int 0 0] }).get? s.heap.objs.size
              = some { cls := .type "set", dict := none, data := .set #[] 0 (.fresh 0 0 (!w.params.followText "set-order")) } := Heap.get?_push_of_some _ hS
          exact setG_fresh hget
        case hR =>
          intro s' hm hS'
          obtain ⟨h', g2, d', tk', os'⟩ := s'
          have eg : g2 = s.gens := hm.gens
          have ed : d' = s.drawn := hm.drawn
          have eo : os' = s.os := hm.os
          subst eg; subst ed; subst eo
          show wpAny _ _ _ _ _ _
          refine wpAny_pure ?_
          show wpAny _ _ (PySem.ret Value.none) _ _ _
          refine wpAny_pure ⟨rfl, h', tk', rfl, hS', fun b o e => ?_⟩
          have hb0 : b < s.heap.objs.size := Heap.lt_size e
          have hb1 : b ≠ s.heap.objs.size := Nat.ne_of_lt hb0
          have hb2 : b ≠ (s.heap.push { cls := .type "set", dict := none, data := .set #[] 0 (.fresh 0 0 (!w.params.followText "set-order")) }).objs.size := by
            rw [Heap.size_push]; exact Nat.ne_of_lt (Nat.lt_succ_of_lt hb0)
          exact hm.heap b o (by simp only [List.mem_cons, List.mem_singleton, List.not_mem_nil, or_false, not_or]; exact ⟨hb1, hb2⟩) (Heap.get?_push_of_some _ (Heap.get?_push_of_some _ e))

      · cases r₂ with
        | error e => exact hr₂
        | ok fl₂ =>
          cases fl₂ with
          | ret r =>
            obtain ⟨rfl, h', tk, rfl, hS', hk'⟩ := hr₂
            repeat (any_goals (first | assumption | wp_step))
            exact h _ _ hS' hk'
          | _ => exact hr₂.elim
    | _ => exact hr.elim

set_option maxRecDepth 100000 in
set_option maxHeartbeats 3200000 in
theorem call_set_lstG {l : Addr} {items : Array Value} (ns : List κ) {Q : Value → Shared → Prop} (hh : A.handled = none) (hl : s.heap.IsList l items) (hisz : items.size = ns.length) (hit : ∀ (i : Nat) (v : Value), items[i]? = some v → ∃ k, ns[i]? = some k ∧ knd.is k v = true ∧ v.scannable = true) (hb : ns.length + 1 < scanBound)
    (h : ∀ (h' : Heap) (tk : Nat), SetG knd h' s.heap.objs.size (dedK ns) → (∀ b o, s.heap.get? b = some o → h'.get? b = some o) → Q (.ref s.heap.objs.size) { s with heap := h', toks := tk }) :
    wpAny (model P w) A (call (.type "set") [.ref l]) Q E s := by
  obtain ⟨c, tl, hmro⟩ := F.called_set.mro
  have hmade := F.called_set.made
  have hsub := F.called_set.sub
  refine wpAny_call (codeAny_of_tree ?_)
  show wpAny _ _ (callAny (.type "set") _) _ _ _
  refine wpAny_pure ⟨Code.quiet_builtin _ (by decide +kernel), codeAny_builtin F.entry_type_call ?_⟩
  rw [Around.under_plain (weight_type_call_type "set" [.ref l] []) rfl]
  have h1 := F.called_set.notType
  have h2 := F.called_set.canCreate
  have hct := F.typeCall_set_1 (.ref l)
  repeat (any_goals (first | assumption | wp_step))

  refine codeAny_mono (code_set_led1 (.ref l) (E := E) (Q₁ := fun obj s₁ => obj = .ref s.heap.objs.size ∧ s₁ = { s with heap := s.heap.push { cls := .type "set", dict := none, data := .set #[] 0 (.fresh 0 0 (!w.params.followText "set-order")) } }) ⟨rfl, rfl⟩) fun r s₁ hr => ?_
  cases r with
  | error e => exact hr
  | ok fl =>
    cases fl with
    | ret obj =>
      obtain ⟨rfl, rfl⟩ := hr
      have hS : (s.heap.push { cls := .type "set", dict := none, data := .set #[] 0 (.fresh 0 0 (!w.params.followText "set-order")) }).get? s.heap.objs.size = some { cls := .type "set", dict := none, data := .set #[] 0 (.fresh 0 0 (!w.params.followText "set-order")) } := Heap.get?_push_size _ rfl
      have hT : Shared.TypeIs { s with heap := s.heap.push { cls := .type "set", dict := none, data := .set #[] 0 (.fresh 0 0 (!w.params.followText "set-order")) } } (.ref s.heap.objs.size) "set" := ⟨_, hS, rfl⟩
      have hli := F.called_set.init.lookup
      have hbi := F.called_set.init.bind (.ref s.heap.objs.size)
      repeat (any_goals (first | assumption | wp_step))

      refine codeAny_mono (codeAny_call_builtin (R := wants (fun r s₂ => r = .none ∧ ∃ h' tk, s₂ = { s with heap := h', toks := tk } ∧ SetG knd h' s.heap.objs.size (dedK ns) ∧
          (∀ b o, s.heap.get? b = some o → h'.get? b = some o)) E) F.called_set.init.plain F.entry_set_init (check_set_init_1 hT ?_)) fun r₂ s₂ hr₂ => ?_
      · obtain ⟨ol, hol, hcl, nl, hdl⟩ := hl
        obtain ⟨ocls, odict, odata, oslots⟩ := ol
        simp only at hcl hdl
        subst hcl; subst hdl
        have hol' : (s.heap.push { cls := .type "set", dict := none, data := .set #[] 0 (.fresh 0 0 (!w.params.followText "set-order")) }).get? l = some { cls := .type "list", dict := odict, data := .seq items nl, slots := oslots } := Heap.get?_push_of_some _ hol
        have hsls := F.sub_list_set
        have hslf := F.sub_list_frozenset
        have hne : (Value.type "list" == Value.type "dict") = false := by decide
        have hl1 : (s.heap.push { cls := .type "set", dict := none, data := .set #[] 0 (.fresh 0 0 (!w.params.followText "set-order")) }).IsList l items := ⟨_, hol', rfl, nl, rfl⟩
        unfold Builtin.«set.__init__» noKeywords Builtin.Frozenset.updateFrom
        generalize hPI : pyIter = PI
        wp_walk
        subst hPI

        refine wpAny_pyIter_list hl1 ?_
        refine wpAny_bind (wpAny_runValue ?_)
        have hlS : l < s.heap.objs.size := Heap.lt_size hol
        have hh3 : A.in1.in1.in1.handled = none := by simp [hh]
        have hz1 : (s.heap.push { cls := .type "set", dict := none, data := .set #[] 0 (.fresh 0 0 (!w.params.followText "set-order")) }).objs.size = s.heap.objs.size + 1 := Heap.size_push ..
        have hneI : l ≠ (s.heap.push { cls := .type "set", dict := none, data := .set #[] 0 (.fresh 0 0 (!w.params.followText "set-order")) }).objs.size := by
          rw [Heap.size_push]; exact Nat.ne_of_lt (Nat.lt_succ_of_lt hlS)
        have hSf : s.heap.objs.size ∉ [(s.heap.push { cls := .type "set", dict := none, data := .set #[] 0 (.fresh 0 0 (!w.params.followText "set-order")) }).objs.size, l] := by
          rw [Heap.size_push]; simp only [List.mem_cons, List.mem_singleton, List.not_mem_nil, or_false, not_or]
          exact ⟨Nat.ne_of_lt (Nat.lt_succ_self _), Nat.ne_of_gt hlS⟩
        have hval : ∀ (i : Nat) (v : Value), items[i]? = some v → ∃ k, ns[i]? = some k ∧ knd.is k v = true ∧ v.scannable = true := hit
        refine setG_update ((Walks.list hh3 _ l hneI items).toS) s.heap.objs.size
          hSf ns hisz hb hval (items.size - 0) 0 _ (by omega) (Nat.zero_le _)
          ⟨⟨_, Heap.get?_push_size _ rfl, rfl, rfl⟩, (hl1.push _)⟩ ?hS0 ?hR
        case hS0 =>
          have hget : ((s.heap.push { cls := .type "set", dict := none, data := .set #[] 0 (.fresh 0 0 (!w.params.followText "set-order")) }).push { cls := .type "list_iterator", data := .fields #[.ref l, .int 0 0] }).get? s.heap.objs.size
              = some { cls := .type "set", dict := none, data := .set #[] 0 (.fresh 0 0 (!w.params.followText "set-order")) } := Heap.get?_push_of_some _ hS
          exact setG_fresh hget
        case hR =>
          intro s' hm hS'
          obtain ⟨h', g2, d', tk', os'⟩ := s'
          have eg : g2 = s.gens := hm.gens
          have ed : d' = s.drawn := hm.drawn
          have eo : os' = s.os := hm.os
          subst eg; subst ed; subst eo
          show wpAny _ _ _ _ _ _
          refine wpAny_pure ?_
          show wpAny _ _ (PySem.ret Value.none) _ _ _
          refine wpAny_pure ⟨rfl, h', tk', rfl, hS', fun b o e => ?_⟩
          have hb0 : b < s.heap.objs.size := Heap.lt_size e
          have hb1 : b ≠ s.heap.objs.size := Nat.ne_of_lt hb0
          have hb2 : b ≠ (s.heap.push { cls := .type "set", dict := none, data := .set #[] 0 (.fresh 0 0 (!w.params.followText "set-order")) }).objs.size := by
            rw [Heap.size_push]; exact Nat.ne_of_lt (Nat.lt_succ_of_lt hb0)
          exact hm.heap b o (by simp only [List.mem_cons, List.mem_singleton, List.not_mem_nil, or_false, not_or]; exact ⟨hb1, hb2⟩) (Heap.get?_push_of_some _ (Heap.get?_push_of_some _ e))

      · cases r₂ with
        | error e => exact hr₂
        | ok fl₂ =>
          cases fl₂ with
          | ret r =>
            obtain ⟨rfl, h', tk, rfl, hS', hk'⟩ := hr₂
            repeat (any_goals (first | assumption | wp_step))
            exact h _ _ hS' hk'
          | _ => exact hr₂.elim
    | _ => exact hr.elim

end
end S3

/-! SG4: sets over the abstract heap: add, discard, sorted, {x}; sorted of texts. -/
namespace S3
open PySem PySem.Spec PyProof.Rows L2
/-! ### the one order of texts -/
def leS (a b : Str) : Bool := !decide (b.cps.toList < a.cps.toList)
theorem leS_iff {a b : Str} : leS a b = true ↔ a.cps.toList ≤ b.cps.toList := by
  unfold leS
  rw [Bool.not_eq_true', decide_eq_false_iff_not]
  exact List.not_lt
theorem cps_inj {a b : Str} (h : a.cps.toList = b.cps.toList) : a = b := by
  obtain ⟨a⟩ := a
  obtain ⟨b⟩ := b
  congr
  exact Array.toList_inj.mp h
theorem leS_trans {a b c : Str} (h1 : leS a b = true) (h2 : leS b c = true) : leS a c = true := leS_iff.mpr (List.le_trans (leS_iff.mp h1) (leS_iff.mp h2))
theorem leS_total (a b : Str) : (leS a b || leS b a) = true := by
  rw [Bool.or_eq_true, leS_iff, leS_iff]
  exact List.le_total _ _
theorem leS_anti {a b : Str} (h1 : leS a b = true) (h2 : leS b a = true) : a = b := cps_inj (List.le_antisymm (leS_iff.mp h1) (leS_iff.mp h2))
def sortS (xs : List Str) : List Str := xs.mergeSort leS
theorem sortS_perm (xs : List Str) : (sortS xs).Perm xs := List.mergeSort_perm xs leS
theorem sortS_pair (xs : List Str) : (sortS xs).Pairwise (fun a b => leS a b = true) := List.pairwise_mergeSort (le := leS) (fun _ _ _ h1 h2 => leS_trans h1 h2) leS_total xs
theorem sort_uniq {xs ys : List Str} (p : ys.Perm xs) (h : ys.Pairwise (fun a b => leS a b = true)) : ys = sortS xs :=
  List.Perm.eq_of_pairwise (fun a b _ _ h1 h2 => leS_anti h1 h2) h (sortS_pair xs) (p.trans (sortS_perm xs).symm)
theorem risingS_pair : ∀ (x : Str) (xs : List Str), risingS x xs = true → (x :: xs).Pairwise (fun a b => leS a b = true)
  | x, [], _ => by simp
  | x, y :: xs, h => by
    unfold risingS at h
    rw [Bool.and_eq_true] at h
    have ih := risingS_pair y xs h.2
    have h1 : leS x y = true := by unfold leS; rw [← ltCps_eq]; exact h.1
    refine List.pairwise_cons.mpr ⟨fun z hz => ?_, ih⟩
    rcases List.mem_cons.mp hz with e | e
    · rw [e]; exact h1
    · exact leS_trans h1 ((List.pairwise_cons.mp ih).1 z e)
theorem sortedS_is {xs ys : List Str} (p : ys.Perm xs) (h : sortedS ys = true) : ys = sortS xs := by
  refine sort_uniq p ?_
  cases ys with
  | nil => exact List.Pairwise.nil
  | cons x ys => exact risingS_pair x ys h
theorem sortS_congr {xs ys : List Str} (p : xs.Perm ys) : sortS xs = sortS ys := sort_uniq ((sortS_perm xs).trans p) (sortS_pair xs)

def addKey (ks : List Key) (k : Key) : List Key := if kIn k ks then ks else ks ++ [k]
theorem addKey_is (ks : List Key) (k : Key) : addK ks k = addKey ks k := by
  unfold addK addKey
  by_cases h : k ∈ ks
  · rw [if_pos h, if_pos (kIn_iff.mpr h)]
  · rw [if_neg h, if_neg (fun z => h (kIn_iff.mp z))]
def delKey (ks : List Key) (k : Key) : List Key := ks.filter fun j => decide (j ≠ k)
theorem delKey_is (ks : List Key) (k : Key) : delK ks k = delKey ks k := rfl
def dedKey (ks : List Key) : List Key := ks.foldl addKey []
theorem dedKey_is (ks : List Key) : dedK ks = dedKey ks := by
  unfold dedK dedKey
  congr 1
  funext a b
  exact addKey_is a b
section
variable {X : Cx}
/-! ### add, discard -/
def rSAddG (P : Program) (w : World) : V → List V → Hp → VK → Prop := fun x xs H Q => ∃ (a : Addr) (k : Key) (ks : List Key), x = V.ref a ∧ xs = [kV k] ∧ H a = some (SetGO P w a ks) ∧ ks.length + 1 < scanBound ∧ Q .non (upd H a (SetGO P w a (addKey ks k)))
theorem mt_saddG : MtR X "set.add" (rSAddG X.prog X.w) := by
  intro pins s σ H x xs v us Q I rx rxs h
  obtain ⟨a, k, ks, rfl, rfl, ha, room, q⟩ := h
  cases rx
  cases rxs with
  | cons ry rt =>
    cases rt
    refine setG_add (kV_is ry) (key_scan ry) (setG_get I ha) room fun h' sb new => ?_
    rw [addKey_is] at new
    have he : ∃ u, h'.get? a = some u := by
      have ⟨o, _, _, _, ho, _⟩ := new
      exact ⟨o, ho⟩
    exact ⟨.non, upd H a (SetGO X.prog X.w a (addKey ks k)), I.write (e := a) (t' := s.toks + 1) (by rw [ha]; trivial) (.inl rfl) (fun b u hb hu => (sb.2 b hb).trans hu) he (setG_new new), rfl, q⟩
def rSDelG (P : Program) (w : World) : V → List V → Hp → VK → Prop := fun x xs H Q => ∃ (a : Addr) (k : Key) (ks : List Key), x = V.ref a ∧ xs = [kV k] ∧ H a = some (SetGO P w a ks) ∧ Q .non (upd H a (SetGO P w a (delKey ks k)))
theorem mt_sdelG : MtR X "set.discard" (rSDelG X.prog X.w) := by
  intro pins s σ H x xs v us Q I rx rxs h
  obtain ⟨a, k, ks, rfl, rfl, ha, q⟩ := h
  cases rx
  cases rxs with
  | cons ry rt =>
    cases rt
    refine setG_discard (kV_is ry) (key_scan ry) (setG_get I ha) fun h' sb new => ?_
    rw [delKey_is] at new
    have he : ∃ u, h'.get? a = some u := by
      have ⟨o, _, _, _, ho, _⟩ := new
      exact ⟨o, ho⟩
    exact ⟨.non, upd H a (SetGO X.prog X.w a (delKey ks k)), I.write (e := a) (t' := s.toks + 1) (by rw [ha]; trivial) (.inl rfl) (fun b u hb hu => (sb.2 b hb).trans hu) he (setG_new new), rfl, q⟩
def isSetV (P : Program) (w : World) : V → Hp → Prop := fun x H => ∃ a ks, x = V.ref a ∧ H a = some (SetGO P w a ks)
variable {o e : Expr} {es : List Expr} {to : TE} {t : TA} {apos cpos : Pos}
theorem pe_setM {n : Str} {id : String} {r : V → List V → Hp → VK → Prop} (pl : PlainAttrs "set") (sl : Slot "set" n id) (ty : typeOf (.builtin id) = pure (.type "method_descriptor")) (mt : MtR X id r) (ho : PE X o to) (ha : PA X (e :: es) t)
    (hbase : attributeBase o n X.env (eval o X.env) = eval o X.env := by rfl)
    (hfew : ((backTo cpos (starEach (e :: es) X.env)).all (fun x => !x.1) && (backToKw cpos (keywordEach [] X.env)).all (fun x => x.1.isSome)
      && decide ((e :: es).length + ([] : List Keyword).length + (if ([] : List Keyword).isEmpty then 0 else 1) < 30)) = true := by rfl)
    (hline : (apos.endLine == cpos.line) = true := by rfl) (hs : starEach (e :: es) X.env = (false, eval e X.env) :: starEach es X.env := by rfl) (hplain : (backTo cpos (starEach es X.env)).any (·.1) = false := by rfl) :
    PE X (.Call (.Attribute o n apos) (e :: es) [] cpos) (fun σ H Q => to σ H fun x H1 => isSetV X.prog X.w x H1 ∧ t σ H1 fun xs H2 => r x xs H2 Q) := by
  refine ⟨fun pins s σ H Q I h => ?_⟩
  refine wpAny_Call_method_late hbase hfew hline rfl (thn (ho.run pins s σ H _ I h) fun v s1 ⟨x, H1, I1, r1, ty1, q1⟩ => ?_)
  obtain ⟨a, ks, rfl, hka⟩ := ty1
  have hS := (setG_get I1 hka).setOf
  cases r1
  refine ⟨"set", id, pl, sl, ty, hS.typeIs, hS.noDict, ?_⟩
  have hA := ha.run cpos pins s1 σ H1 _ I1 q1
  rw [hs] at hA ⊢
  refine Calls.callWith_builtin (by show (false || (backTo cpos (starEach es X.env)).any (·.1)) = false; rw [hplain] <;> rfl) (Calls.evalArgs_plain ?_)
  exact thn hA fun us s2 ⟨vs, H2, I2, r2, q2⟩ => mt pins s2 σ H2 (.ref a) vs (.ref a) us Q I2 rfl r2 q2
end
/-! ### sorted of a set of texts, of a list of texts -/
section
variable {P : Program} {w : World} {A : Around} {E : Value → Shared → Prop} {s : Shared} {a : Addr}
def unKey : Option Key → Option Str
  | some (Sum.inr x) => some x
  | _ => none
theorem strsAre_perm {vs : List Value} {ks : List Str} (h : (vs.map fun v => kOf (mixKind P w) v).Perm ((ks.map fun x => (Sum.inr x : Key)).map some)) (el : ∀ v ∈ vs, ∃ k, (mixKind P w).is k v = true) : ∃ ss, StrsAre vs ss ∧ ss.Perm ks := by
  have all : ∀ vs : List Value, (∀ v ∈ vs, ∃ x, kOf (mixKind P w) v = some (Sum.inr x) ∧ ∃ t, v = .str x t) → ∃ ss, StrsAre vs ss ∧ vs.map (fun v => kOf (mixKind P w) v) = (ss.map fun x => (Sum.inr x : Key)).map some := by
    intro vs
    induction vs with
    | nil => intro _; exact ⟨[], .nil, rfl⟩
    | cons v vs ih =>
      intro h
      obtain ⟨x, h1, t, rfl⟩ := h v List.mem_cons_self
      obtain ⟨ss, h2, h3⟩ := ih fun u hu => h u (List.mem_cons_of_mem _ hu)
      exact ⟨x :: ss, .cons x t h2, by rw [List.map_cons, h1, h3]; rfl⟩
  obtain ⟨ss, h1, h2⟩ := all vs fun v hv => by
    obtain ⟨k, hk⟩ := el v hv
    have hm : kOf (mixKind P w) v ∈ (ks.map fun x => (Sum.inr x : Key)).map some := h.mem_iff.mp (List.mem_map.mpr ⟨v, hv, rfl⟩)
    rw [List.map_map] at hm
    obtain ⟨x, hx, e⟩ := List.mem_map.mp hm
    have e : some (Sum.inr x : Key) = kOf (mixKind P w) v := e
    refine ⟨x, e.symm, ?_⟩
    rw [kOf_is hk] at e
    have e2 := Option.some.inj e
    subst e2
    rcases keyIs_shape (show keyIs (Sum.inr x) v = true from hk) with ⟨i, t, e3, q⟩ | ⟨y, t, e3, q⟩
    · cases e3
    · cases e3; exact ⟨t, q⟩
  rw [h2] at h
  have inj : ∀ x y : Str, some (Sum.inr x : Key) = some (Sum.inr y) → x = y := fun x y h => Sum.inr.inj (Option.some.inj h)
  refine ⟨ss, h1, ?_⟩
  have h3 : ∀ l : List Str, ((l.map fun x => (Sum.inr x : Key)).map some).filterMap unKey = l := fun l => by
    rw [List.map_map, List.filterMap_map]
    exact List.filterMap_some
  have := h.filterMap unKey
  rw [h3, h3] at this
  exact this
theorem sorted_setG {ks : List Str} {Q : Value → Shared → Prop} (R : SetG (mixKind P w) s.heap a (ks.map Sum.inr)) (hh : A.handled = none)
    (hQ : ∀ s' p (out : Array Value) (c : Nat), (∀ b o, s.heap.get? b = some o → s'.heap.get? b = some o) → s'.gens = s.gens → s'.os = s.os → s.heap.objs.size ≤ p →
      s'.heap.get? p = some (seqObj "list" out c) → StrsAre out.toList (sortS ks) → Q (.ref p) s') :
    wpAny (model P w) A (call (.builtin "sorted") [.ref a]) Q E s := by
  obtain ⟨o, es, ep, t, ho, hex, hd, g, pm, nd, hb, hf, hr, hl⟩ := R
  refine Calls.call_function_entry kind_sorted plain_sorted entry_sorted (args_sorted1 _) ?_
  unfold Builtin.«sorted»
  refine wpAny_bind (m := checkCount "sorted" 1 1 _) (wpAny_pure ?_)
  refine wpAny_bind (collect_set (A := A.in1) hh ⟨o, ho, hex.1, hd⟩ hf hb hr hl fun s1 vs k1 hz g1 o1 pv => ?_)
  have hvl : vs.length = es.size := by rw [pv.length_eq, List.length_map, Array.length_toList]
  obtain ⟨ss, hS, hp⟩ : ∃ ss, StrsAre vs ss ∧ ss.Perm ks := by
    refine strsAre_perm (P := P) (w := w) ?_ fun v hv => ?_
    · have := pv.map (fun v => kOf (mixKind P w) v)
      rw [List.map_map] at this
      exact this.trans pm
    · obtain ⟨e, he, rfl⟩ := List.mem_map.mp (pv.mem_iff.mp hv)
      obtain ⟨⟨k, hk, _⟩, _⟩ := g e he
      exact ⟨k, hk⟩
  have hvz : vs.length ≤ sizeLine := by rw [hvl]; exact fits_of_scanBound hb
  refine wpAny_bind (wpAny_newList ?_ hvz)
  have hoL : (s1.heap.push (seqObj "list" vs.toArray 0)).get? s1.heap.objs.size = some (seqObj "list" vs.toArray 0) := Heap.get?_push_size _ rfl
  refine wpAny_bind (wpAny_holding (wpAny_call_entry slot_list_sort ⟨_, hoL, rfl⟩ entry_list_sort (list_sort_treeKAny strKind_oneLt hoL hS.keysOf (fun v₁ v₂ rest e => keyKind_strs (by rw [← e]; exact hS)) hvz fun st' hp' hs' => ⟨_, rfl, ?_⟩) (args_list_sort _)))
  obtain ⟨ys, g1', g2', g3'⟩ := sorted_out_str hS hp' hs'
  obtain ⟨c, hc⟩ := sortedHeap_at (vs := vs) (out := (arrOf st').map (·.2)) hoL
  have ey := sortedS_is (g2'.trans hp) g3'
  subst ey
  refine wpAny_pure ⟨_, rfl, hQ _ s1.heap.objs.size _ c (fun b u e => ?_) g1 o1 hz hc g1'⟩
  have q := k1 b u e
  have hlt := Heap.lt_size q
  show (sortedHeap (s1.heap.push (seqObj "list" vs.toArray 0)) s1.heap.objs.size vs _).get? b = some u
  rw [sortedHeap_old (Nat.ne_of_lt hlt) (by rw [Heap.size_push]; exact Nat.lt_succ_of_lt hlt)]
  exact Heap.get?_push_of_some _ q
end
section
variable {X : Cx}
def rSortG (K : PySem.W.Frag) (P : Program) (w : World) : List V → Hp → VK → Prop := fun vs H Q => ∃ (a : Addr) (xs : List Str), vs = [V.ref a] ∧ ((SqL K H a (xs.map V.str) ∧ xs.length ≤ sizeLine) ∨ H a = some (SetGO P w a (xs.map Sum.inr))) ∧
  ∀ p, H p = none → Q (.ref p) (upd H p (.lst ((sortS xs).map V.str)))
theorem cr_sortG (hc : X.calm = true) : CallR X (.builtin "sorted") (rSortG X.K X.prog X.w) := by
  intro pins s σ H vs us Q I r h
  obtain ⟨a, xs, rfl, hs, q⟩ := h
  rw [Vals.ref1 r]
  rcases hs with ⟨hs, hz⟩ | ha
  · obtain ⟨its, rv, hl, _⟩ := I.list hs
    have hlen0 := rv.length
    rw [List.length_map] at hlen0
    refine PyProof.Rows.sorted_strsAny hl.isList rv.strs (by rw [← hlen0]; exact hz) fun out ys h1 h2 h3 => ?_
    obtain ⟨ep, he'⟩ := PyProof.Rows.sortedAll_at s.heap its out
    have ey := sortedS_is h2 h3
    subst ey
    have hlen : ((sortS xs).map V.str).length ≤ sizeLine := by rw [List.length_map, h2.length_eq]; exact hz
    exact ⟨.ref _, upd H (s.heap.objs.size + 1) (.lst ((sortS xs).map V.str)), I.laid (t' := s.toks) (fun _ _ => PyProof.Rows.sortedAll_old) (Nat.le_succ _) ⟨hlen, out.toList, ep, vals_of_strs h1, he'⟩, rfl, q _ (I.hok.fresh (Nat.le_succ _))⟩
  · have R := setG_get I ha
    have sm := R.small
    refine sorted_setG R (I.ok.hd hc) fun s' p out c k g o hp hg hi => ?_
    have hlen : ((sortS xs).map V.str).length ≤ sizeLine := by
      rw [List.length_map, (sortS_perm xs).length_eq]
      rw [List.length_map] at sm
      exact fits_of_scanBound sm
    have hn : H p = none := I.hok.fresh hp
    have J : Inv X pins σ (upd H p (.lst ((sortS xs).map V.str))) { s with heap := s'.heap, gens := s'.gens, drawn := s'.drawn, toks := s'.toks } :=
      I.call (ch := []) (Un.laid k hp hn) (I.hok.laid k hp ⟨hlen, out.toList, c, vals_of_strs hi, hg⟩) (by rw [g]; exact I.bare) (fun _ z => nomatch z)
    have e : s' = { s with heap := s'.heap, gens := s'.gens, drawn := s'.drawn, toks := s'.toks } := by
      cases s'
      cases s
      cases o
      rfl
    rw [e]
    exact ⟨.ref p, _, J, rfl, q p hn⟩
end
end S3

/-! SG5: set(xs), {x} over the abstract heap. -/
namespace S3
open PySem PySem.Spec PyProof.Rows L2
section
variable {X : Cx}
theorem vals_keys {ks : List Key} {its : List Value} (r : Vals (ks.map kV) its) : its.length = ks.length ∧ ∀ (i : Nat) (v : Value), its.toArray[i]? = some v → ∃ k, ks[i]? = some k ∧ (mixKind X.prog X.w).is k v = true ∧ v.scannable = true := by
  have hl := r.length
  rw [List.length_map] at hl
  refine ⟨hl.symm, fun i v h => ?_⟩
  have h' : its[i]? = some v := by simpa using h
  have hi : i < ks.length := by rw [hl]; exact (List.getElem?_eq_some_iff.mp h').1
  have g := List.getElem?_eq_getElem hi
  obtain ⟨u, h1, h2⟩ := Vals.get (i := i) r (by rw [List.getElem?_map, g]; rfl)
  rw [h'] at h1
  cases h1
  exact ⟨_, g, kV_is h2, key_scan h2⟩
def rSetG (K : PySem.W.Frag) (P : Program) (w : World) : List V → Hp → VK → Prop := fun vs H Q => ∃ (a : Addr) (ks : List Key), vs = [V.ref a] ∧ (SqL K H a (ks.map kV) ∨ SqT K H a (ks.map kV)) ∧ ks.length + 1 < scanBound ∧
  ∀ p, H p = none → Q (.ref p) (upd H p (SetGO P w p (dedKey ks)))
theorem cr_setG (hc : X.calm = true) : CallR X (.type "set") (rSetG X.K X.prog X.w) := by
  intro pins s σ H vs us Q I r h
  obtain ⟨a, ks, rfl, hs, hb, q⟩ := h
  rw [Vals.ref1 r]
  have fin : ∀ (h' : Heap) (tk : Nat), SetG (mixKind X.prog X.w) h' s.heap.objs.size (dedK ks) → (∀ b o, s.heap.get? b = some o → h'.get? b = some o) → EP X pins σ Q (.ref s.heap.objs.size) { s with heap := h', toks := tk } := fun h' tk R k => by
    rw [dedKey_is] at R
    have hn : H s.heap.objs.size = none := I.hok.fresh (Nat.le_refl _)
    exact ⟨.ref _, upd H s.heap.objs.size (SetGO X.prog X.w s.heap.objs.size (dedKey ks)), I.laid (t' := tk) k (Nat.le_refl _) (setG_new R), rfl, q _ hn⟩
  rcases hs with hs | hs
  · obtain ⟨its, rv, hl, _⟩ := I.list hs
    obtain ⟨h1, h2⟩ := vals_keys (X := X) rv
    exact call_set_lstG (knd := mixKind X.prog X.w) ks (I.ok.hd hc) hl.isList (by rw [List.size_toArray]; exact h1) h2 hb fin
  · obtain ⟨its, rv, hl, _⟩ := I.tuple hs
    obtain ⟨h1, h2⟩ := vals_keys (X := X) rv
    exact call_set_tupG (knd := mixKind X.prog X.w) ks (I.ok.hd hc) hl (by rw [List.size_toArray]; exact h1) h2 hb fin
end
/-! {x} -/
section
variable {prog : Program} {w : World} {A : Around} {E : Value → Shared → Prop} {s : Shared}
theorem kds_coreG {road : DisplayRoad} {b : Bool} {elts : List (Bool × Sem Value)} {ts : List (Sem Value)} {Q : Value → Shared → Prop} (hroad : (road == .constants) = false) (hs : elts.findIdx? (·.1) = none) (hlen : elts.length ≤ 30) (hm : elts.map (·.2) = ts)
    (h : wpAny (model prog w) A (evalAll ts) (fun vs s' => PySem.W.KdsFill (model prog w) A E (road == .unsure) s.heap.objs.size Q vs s') E { s with heap := s.heap.push { cls := .type "set", dict := none, data := .set #[] 0 (.fresh 0 0 (!w.params.followText "set-order")) } }) :
    wpAny (model prog w) A (setDisplay road b elts) Q E s := by
  have hn : (if elts.length > 30 then 0 else (elts.findIdx? (·.1)).getD elts.length) = elts.length := by rw [if_neg (by omega), hs]; rfl
  unfold setDisplay
  try dsimp only
  rw [if_neg (by rw [hroad]; exact Bool.false_ne_true)]
  refine wpAny_bind (PpSet.newSet_ok ?_)
  dsimp only
  rw [hn, List.take_length, List.drop_length, hm]
  refine wpAny_bind (wpAny_holding ?_)
  refine wpAny_bind (wpAny_mono h (fun vs s' h' => ?_) fun _ _ x => x)
  refine wpAny_bind (wpAny_holding ?_)
  refine wpAny_bind (wpAny_mono (PySem.W.kds_for (fun x P s hx => ?_) vs s' h') (fun _ s1 h1 => ?_) fun _ _ x => x)
  · refine wpAny_bind (wpAny_mono hx (fun _ s2 h2 => ?_) fun _ _ x => x)
    first | exact wpAny_pure ⟨rfl, h2⟩ | exact wpAny_bind (wpAny_pure (wpAny_pure ⟨rfl, h2⟩))
  · cases hu : (road == DisplayRoad.unsure) with
    | false =>
      rw [hu] at h1
      have h2 : Q (.ref s.heap.objs.size) s1 := by simpa [PySem.W.KdsFill] using h1
      rw [if_neg Bool.false_ne_true]
      refine wpAny_pure ?_
      rw [List.forIn_nil]
      exact wpAny_pure (wpAny_pure h2)
    | true =>
      rw [hu] at h1
      have h2 : wpAny (model prog w) A (setUnled s.heap.objs.size) (fun _ s' => Q (.ref s.heap.objs.size) s') E s1 := by simpa [PySem.W.KdsFill] using h1
      rw [if_pos rfl]
      refine wpAny_bind (wpAny_rule (wpAny_mono h2 (fun _ s3 h3 => ?_) fun _ _ x => x))
      rw [List.forIn_nil]
      exact wpAny_pure (wpAny_pure h3)
end
section
variable {X : Cx} {a : Expr} {ta : TE}
/-- {x}: the set is made first, then x reckoned -/
def tSet1 (P : Program) (w : World) (ta : TE) : TE := fun σ H Q => ∀ p, H p = none → ta σ (upd H p (SetGO P w p [])) fun y H2 => ∃ k, y = kV k ∧ H2 p = some (SetGO P w p []) ∧ Q (.ref p) (upd H2 p (SetGO P w p [k]))
theorem pe_set1 {pos : Pos} (ha : PE X a ta) (hcd : PySem.W.kdsCode X.K X.env.code = true) (hp : PySem.W.kdsPlain a = true) : PE X (.Set [a] 0 pos) (tSet1 X.prog X.w ta) := by
  refine ⟨fun pins s σ H Q I h => ?_⟩
  rw [arm_eval_Set]
  refine wpAny_bind (wpAny_standAt ?_)
  refine wpAny_bind (PySem.W.kds_main I.kIn hcd fun b => ?_)
  rw [PySem.W.kds_star [a] (by rw [List.all_cons, hp]; rfl), List.map_map]
  refine kds_coreG (ts := (evalEach [a] X.env).map fun t => do let v ← t; standAt pos; pure v) (road0 [a]) ?_ ?_ ?_ ?_
  · refine List.findIdx?_eq_none_iff.mpr fun x hx => ?_
    obtain ⟨t, _, rfl⟩ := List.mem_map.mp hx
    rfl
  · rw [List.length_map, PySem.W.kds_len]
    show 1 ≤ 30
    omega
  · rw [List.map_map]
    try rfl
  · have hn : H s.heap.objs.size = none := I.hok.fresh (Nat.le_refl _)
    have I1 : Inv X pins σ (upd H s.heap.objs.size (SetGO X.prog X.w s.heap.objs.size [])) { s with heap := s.heap.push { cls := .type "set", dict := none, data := .set #[] 0 (.fresh 0 0 (!X.w.params.followText "set-order")) } } :=
      I.laid (t' := s.toks) (fun b u e => Heap.get?_push_of_some _ e) (Nat.le_refl _) (setG_new (setG_fresh (Heap.get?_push_size _ rfl)))
    refine PySem.W.kds_all pos [a] _ _ ?_
    refine thn (ha.run pins _ σ _ _ I1 (h _ hn)) fun v s2 ⟨y, H2, I2, ry, k, ey, hD, q⟩ => ?_
    subst ey
    refine PySem.W.kds_fill_cons ?_
    refine setG_addv (kV_is ry) (key_scan ry) (setG_get I2 hD) (by decide) fun h' b2 sb new => ?_
    have new' : SetG (mixKind X.prog X.w) h' s.heap.objs.size [k] := new
    have he : ∃ u, h'.get? s.heap.objs.size = some u := by
      have ⟨o, _, _, _, ho, _⟩ := new'
      exact ⟨o, ho⟩
    have I3 : Inv X pins σ (upd H2 s.heap.objs.size (SetGO X.prog X.w s.heap.objs.size [k])) { s2 with heap := h', toks := s2.toks + 1 } :=
      I2.write (e := s.heap.objs.size) (t' := s2.toks + 1) (by rw [hD]; trivial) (.inl rfl) (fun b u hb hu => (sb.2 b hb).trans hu) he (setG_new new')
    have hu : (displayRoad 0 [a] == DisplayRoad.unsure) = false := rfl
    rw [hu]
    exact PySem.W.kds_fill_nil rfl ⟨.ref _, _, I3, rfl, q⟩
end
end S3

/-! SG6: set comprehensions of two clauses (the steps of HandS.Comp's two clauses and of HandS.SetBool's set, for any keys). -/
namespace SX
open PySem PySem.Spec PyProof.Rows L2
open S3 (SetGO setG_new setG_fresh setG_get setG_add addKey addKey_is)
theorem addG_ok {X : Cx} {pins : List (Addr × Obj)} {σ : L2.St} {H : Hp} {s : Shared} {E : Value → Shared → Prop} {D : Addr} {k : Key} {ks : List Key} {v : Value} {Q : Value → Shared → Prop} (I : Inv X pins σ H s) (hD : H D = some (SetGO X.prog X.w D ks)) (room : ks.length + 1 < scanBound) (r : RelV (kV k) v)
    (h : ∀ s', Inv X pins σ (upd H D (SetGO X.prog X.w D (addKey ks k))) s' → Q .none s') : wpAny (model X.prog X.w) X.A (call (.builtin "set.add") [.ref D, v]) Q E s := by
  refine setG_add (kV_is r) (key_scan r) (setG_get I hD) room fun h' sb new => ?_
  rw [addKey_is] at new
  have he : ∃ u, h'.get? D = some u := by
    have ⟨o, _, _, _, ho, _⟩ := new
    exact ⟨o, ho⟩
  exact h _ (I.write (e := D) (t' := s.toks + 1) (by rw [hD]; trivial) (.inl rfl) (fun b u hb hu => (sb.2 b hb).trans hu) he (setG_new new))
theorem scTurn2_out (elt t0 i0 t1 i1 : Expr) (ifs0 ifs1 : List Expr) (scope : Scope) (pos : Pos) (it acc : Value) (env : Env) :
    compTurn (.SetComp elt [⟨t0, i0, ifs0, 0⟩, ⟨t1, i1, ifs1, 0⟩] scope pos) 0 it acc env = (do
      standAt i0.pos
      match ← pyNext it with
      | none => pure (.done .next)
      | some v =>
        letOwnedTupleGo t0 it v
        assign t0 env v
        let mut ok := true
        for c in ifs0 do
          if ok then ok ← isTrue c env (eval c env)
        if ok then
          let x ← eval i1 env
          standAt i1.pos
          let x ← foldedSetIterable i1 env x
          let _ ← runOwn (.compStart (.SetComp elt [⟨t0, i0, ifs0, 0⟩, ⟨t1, i1, ifs1, 0⟩] scope pos) 1 (← holding [x] (pyIter x)) acc env) env
        again (.compLoop (.SetComp elt [⟨t0, i0, ifs0, 0⟩, ⟨t1, i1, ifs1, 0⟩] scope pos) 0 it acc env)) := by rfl
theorem scTurn2_in (elt t0 i0 t1 i1 : Expr) (ifs0 ifs1 : List Expr) (scope : Scope) (pos : Pos) (it acc : Value) (env : Env) :
    compTurn (.SetComp elt [⟨t0, i0, ifs0, 0⟩, ⟨t1, i1, ifs1, 0⟩] scope pos) 1 it acc env = (do
      standAt i1.pos
      match ← pyNext it with
      | none => pure (.done .next)
      | some v =>
        letOwnedTupleGo t1 it v
        assign t1 env v
        let mut ok := true
        for c in ifs1 do
          if ok then ok ← isTrue c env (eval c env)
        if ok then
          (do let v ← eval elt env; standAt elt.pos; let _ ← call (.builtin "set.add") [acc, v])
        again (.compLoop (.SetComp elt [⟨t0, i0, ifs0, 0⟩, ⟨t1, i1, ifs1, 0⟩] scope pos) 1 it acc env)) := by rfl

section
variable {prog : Program} {w : World} {A : Around} {R : Result → Shared → Prop} {s : Shared} {elt t0 i0 t1 i1 : Expr} {ifs0 ifs1 : List Expr} {scope : Scope} {pos : Pos} {it acc : Value} {env : Env}
/-- the loop of the first clause -/
theorem scLoop2_out (hs : ∀ x, foldedSetIterable i1 env x = pure x) (I : Nat → Shared → Prop)
    (turn : ∀ n s, I n s → wpAny (model prog w) A (pyNext it) (fun r s₁ => match r with
      | none => R (.ok .next) s₁
      | some v => wpAny (model prog w) A (letOwnedTupleGo t0 it v) (fun _ s₁' => wpAny (model prog w) A (assign t0 env v) (fun _ s₂ =>
          wpAny (model prog w) A (forIn ifs0 true fun c r => if r = true then do let ok ← isTrue c env (eval c env); pure (ForInStep.yield ok) else pure (ForInStep.yield r)) (fun ok s₃ =>
            if ok = true then wpAny (model prog w) A (eval i1 env) (fun x s₄ => wpAny (model prog w) A (pyIter x) (fun it1 s₅ =>
              codeAny (model prog w) A (.compStart (.SetComp elt [⟨t0, i0, ifs0, 0⟩, ⟨t1, i1, ifs1, 0⟩] scope pos) 1 it1 acc env) (fun r s' => match r with
                | .ok _ => ∃ m, m < n ∧ I m s'
                | .error _ => False) s₅) (notedBy (model prog w) A env fun e s' => R (.error e) s') s₄) (notedBy (model prog w) A env fun e s' => R (.error e) s') s₃
            else ∃ m, m < n ∧ I m s₃) (notedBy (model prog w) A env fun e s' => R (.error e) s') s₂) (notedBy (model prog w) A env fun e s' => R (.error e) s') s₁') (notedBy (model prog w) A env fun e s' => R (.error e) s') s₁) (notedBy (model prog w) A env fun e s' => R (.error e) s') s)
    (n : Nat) (h : I n s) :
    codeAny (model prog w) A (.compLoop (.SetComp elt [⟨t0, i0, ifs0, 0⟩, ⟨t1, i1, ifs1, 0⟩] scope pos) 0 it acc env) R s := by
  refine codeAny_loop rfl I (fun n s hI => ?_) n h
  show wpAny _ A ((compTurn (.SetComp elt [⟨t0, i0, ifs0, 0⟩, ⟨t1, i1, ifs1, 0⟩] scope pos) 0 it acc env).onRaise (fun x => do noteFrame x env; theTreesLotGoes x)) _ _ s
  refine wpAny_noted ?_
  rw [scTurn2_out]
  refine wpAny_bind (wpAny_standAt (wpAny_bind (wpAny_mono (turn n s hI) (fun r s₁ h₁ => ?_) fun _ _ h' => h')))
  cases r with
  | none => exact wpAny_pure h₁
  | some v =>
    refine wpAny_bind (wpAny_mono h₁ (fun _ s₁' h₁' => ?_) fun _ _ h' => h')
    refine wpAny_bind (wpAny_mono h₁' (fun _ s₂ h₂ => wpAny_bind (wpAny_mono h₂ (fun ok s₃ h₃ => ?_) fun _ _ h' => h')) fun _ _ h' => h')
    cases ok with
    | false => exact wpAny_pure ⟨rfl, h₃⟩
    | true =>
      refine wpAny_bind (wpAny_mono h₃ (fun x s₄ h₄ => ?_) fun _ _ h' => h')
      refine wpAny_bind (wpAny_standAt (wpAny_bind (wpAny_of_eq (hs x) (wpAny_bind (wpAny_holding (wpAny_mono h₄ (fun it1 s₅ h₅ => ?_) fun _ _ h' => h'))))))
      refine wpAny_bind (wpAny_runOwn ?_)
      rw [Around.mark_none]
      refine codeAny_mono h₅ fun r s' hr => ?_
      cases r with
      | ok f =>
        first
          | exact wpAny_pure ⟨rfl, hr⟩
          | exact wpAny_bind (wpAny_pure (wpAny_pure ⟨rfl, hr⟩))
      | error e => exact hr.elim
/-- the loop of the second -/
theorem scLoop2_in (I : Nat → Shared → Prop)
    (turn : ∀ n s, I n s → wpAny (model prog w) A (pyNext it) (fun r s₁ => match r with
      | none => R (.ok .next) s₁
      | some v => wpAny (model prog w) A (letOwnedTupleGo t1 it v) (fun _ s₁' => wpAny (model prog w) A (assign t1 env v) (fun _ s₂ =>
          wpAny (model prog w) A (forIn ifs1 true fun c r => if r = true then do let ok ← isTrue c env (eval c env); pure (ForInStep.yield ok) else pure (ForInStep.yield r)) (fun ok s₃ =>
            if ok = true then wpAny (model prog w) A (eval elt env) (fun x s₄ =>
              wpAny (model prog w) A (call (.builtin "set.add") [acc, x]) (fun _ s₅ => ∃ m, m < n ∧ I m s₅) (notedBy (model prog w) A env fun e s' => R (.error e) s') s₄) (notedBy (model prog w) A env fun e s' => R (.error e) s') s₃
            else ∃ m, m < n ∧ I m s₃) (notedBy (model prog w) A env fun e s' => R (.error e) s') s₂) (notedBy (model prog w) A env fun e s' => R (.error e) s') s₁') (notedBy (model prog w) A env fun e s' => R (.error e) s') s₁) (notedBy (model prog w) A env fun e s' => R (.error e) s') s)
    (n : Nat) (h : I n s) :
    codeAny (model prog w) A (.compLoop (.SetComp elt [⟨t0, i0, ifs0, 0⟩, ⟨t1, i1, ifs1, 0⟩] scope pos) 1 it acc env) R s := by
  refine codeAny_loop rfl I (fun n s hI => ?_) n h
  show wpAny _ A ((compTurn (.SetComp elt [⟨t0, i0, ifs0, 0⟩, ⟨t1, i1, ifs1, 0⟩] scope pos) 1 it acc env).onRaise (fun x => do noteFrame x env; theTreesLotGoes x)) _ _ s
  refine wpAny_noted ?_
  rw [scTurn2_in]
  refine wpAny_bind (wpAny_standAt (wpAny_bind (wpAny_mono (turn n s hI) (fun r s₁ h₁ => ?_) fun _ _ h' => h')))
  cases r with
  | none => exact wpAny_pure h₁
  | some v =>
    refine wpAny_bind (wpAny_mono h₁ (fun _ s₁' h₁' => ?_) fun _ _ h' => h')
    refine wpAny_bind (wpAny_mono h₁' (fun _ s₂ h₂ => wpAny_bind (wpAny_mono h₂ (fun ok s₃ h₃ => ?_) fun _ _ h' => h')) fun _ _ h' => h')
    cases ok with
    | false => exact wpAny_pure ⟨rfl, h₃⟩
    | true =>
      exact wpAny_bind (wpAny_bind (wpAny_mono h₃ (fun x s₄ h₄ => wpAny_bind (wpAny_standAt (wpAny_bind (wpAny_mono h₄ (fun _ s₅ h₅ => wpAny_pure (wpAny_pure ⟨rfl, h₅⟩)) fun _ _ h' => h')))) fun _ _ h' => h'))
/-- the second clause's start -/
theorem scStart1_ok (h0 : codeAny (model prog w) A (.compLoop (.SetComp elt [⟨t0, i0, ifs0, 0⟩, ⟨t1, i1, ifs1, 0⟩] scope pos) 1 it acc env) R s)
    (h : wpAny (model prog w) A (pyIter it) (fun it' s' => codeAny (model prog w) A (.compLoop (.SetComp elt [⟨t0, i0, ifs0, 0⟩, ⟨t1, i1, ifs1, 0⟩] scope pos) 1 it' acc env) R s')
      (notedBy (model prog w) A env fun x s' => R (.error x) s') s) :
    codeAny (model prog w) A (.compStart (.SetComp elt [⟨t0, i0, ifs0, 0⟩, ⟨t1, i1, ifs1, 0⟩] scope pos) 1 it acc env) R s := by
  refine codeAny_of_tree ?_
  show wpAny _ _ ((compStart (.SetComp elt [⟨t0, i0, ifs0, 0⟩, ⟨t1, i1, ifs1, 0⟩] scope pos) 1 it acc env).onRaise (fun x => do noteFrame x env; standAt theWindowsPlace)) _ _ s
  refine wpAny_notedAt ?_
  unfold compStart
  show wpAny _ _ (ask >>= _) _ _ s
  refine wpAny_bind (wpAny_askSetting (wpAny_ite ?_))
  split
  · first
      | exact wpAny_bind (wpAny_pure (wpAny_pure (And.intro rfl h0)))
      | exact wpAny_pure (And.intro rfl h0)
  · first
      | exact wpAny_bind (wpAny_rule (wpAny_bind (wpAny_standAt (wpAny_bind (wpAny_mono h (fun it' s' h' => wpAny_pure (And.intro rfl h')) fun _ _ x => x)))))
      | (refine wpAny_bind (wpAny_rule ?_); show wpAny _ _ (standAt i1.pos >>= _) _ _ s; exact wpAny_bind (wpAny_standAt (wpAny_bind (wpAny_mono h (fun it' s' h' => wpAny_pure (And.intro rfl h')) fun _ _ x => x))))
end

section
variable {X : Cx}
/-- the same for a set of keys -/
def tSc2G (P : Program) (w : World) (wi : TI) (g : TG) (tt : TT) (wi1 : TI) (g1 : TG) (tt1 : TT) (te : TE) (vs vs1 : List Nat) : TE := fun σ H Q => wi σ H fun J H1 => ∀ D, H1 D = none → ∃ W : Nat → Nat → Hp → Prop, (∃ m, W 0 m (upd H1 D (SetGO P w D []))) ∧ ∀ i m H, W i m H →
  (J.stop i H ∧ Q (.ref D) H) ∨ (J.go i H ∧ ∃ Nx : Hp → Prop, (∀ H', Nx H' → ∃ m', m' < m ∧ W (i + 1) m' H') ∧ ∀ x H', J.yld i H x H' → g x (wipe σ vs) H' fun σ2 H2 => wipe σ2 vs = wipe σ vs ∧ tt σ2 H2 fun b H3 =>
    if b = true then wi1 σ2 H3 fun J1 H4 => ∃ W1 : Nat → Nat → Hp → Prop, (∃ m, W1 0 m H4) ∧ ∀ j k H, W1 j k H →
      (J1.stop j H ∧ Nx H) ∨ (J1.go j H ∧ ∃ Nx1 : Hp → Prop, (∀ H', Nx1 H' → ∃ k', k' < k ∧ W1 (j + 1) k' H') ∧ ∀ x H', J1.yld j H x H' → g1 x (wipe σ2 vs1) H' fun σ3 H5 => wipe σ3 vs1 = wipe σ2 vs1 ∧ tt1 σ3 H5 fun b H6 =>
        if b = true then te σ3 H6 fun y H7 => ∃ k ks, y = kV k ∧ H7 D = some (SetGO P w D ks) ∧ ks.length + 1 < scanBound ∧ Nx1 (upd H7 D (SetGO P w D (addKey ks k))) else Nx1 H6)
    else Nx H3)
theorem sc2_coreG {pins : List (Addr × Obj)} {s : Shared} {σ : L2.St} {H : Hp} {Q : VK} {elt tg iter tg1 iter1 : Expr} {ifs ifs1 : List Expr} {scope : Scope} {own : List (Str × Nat)} {vs1 : List Nat} {pos pos' : Pos} {wi wi1 : TI} {g g1 : TG} {tt tt1 : TT} {te : TE} {use : Option (Value → Sem Unit)} {Qf : Value → Shared → Prop}
    (hc : X.calm = true) (hN : X.N.Nodup) (I : Inv X pins σ H s) (hi : PI X tg iter wi) (ok : BlkOk X.N X.env.scope scope own) (hv : ∀ i ∈ vs1, i ∈ own.map (·.2))
    (hg : ∀ (s : Shared) (H : Hp) (C : Addr) (cl : List (Str × Addr)) (fp : List Addr), PG (X.blk s H scope (compEnvC scope cl C X.env) fp) tg g) (ht : ∀ (s : Shared) (H : Hp) (C : Addr) (cl : List (Str × Addr)) (fp : List Addr), PTs (X.blk s H scope (compEnvC scope cl C X.env) fp) ifs tt)
    (he : ∀ (s : Shared) (H : Hp) (C : Addr) (cl : List (Str × Addr)) (fp : List Addr), PE (X.blk s H scope (compEnvC scope cl C X.env) fp) elt te) (hs : ∀ x, foldedSetIterable iter X.env x = pure x)
    (hi1 : ∀ (s : Shared) (H : Hp) (C : Addr) (cl : List (Str × Addr)) (fp : List Addr), PI (X.blk s H scope (compEnvC scope cl C X.env) fp) tg1 iter1 wi1)
    (hg1 : ∀ (s : Shared) (H : Hp) (C : Addr) (cl : List (Str × Addr)) (fp : List Addr), PG (X.blk s H scope (compEnvC scope cl C X.env) fp) tg1 g1)
    (ht1 : ∀ (s : Shared) (H : Hp) (C : Addr) (cl : List (Str × Addr)) (fp : List Addr), PTs (X.blk s H scope (compEnvC scope cl C X.env) fp) ifs1 tt1)
    (hs1 : ∀ env x, foldedSetIterable iter1 env x = pure x)
    (h : tSc2G X.prog X.w wi g tt wi1 g1 tt1 te (own.map (·.2)) vs1 σ H Q)
    (hRR : ∀ D C s' m H', Inv X pins σ H' s' → Q (.ref D) H' → s'.heap.Ns C m → FpOk X pins H' C → compPost (model X.prog X.w) X.A X.xe use Qf (.ref D) C (.ok .next) s') :
    wpAny (model X.prog X.w) X.A (comprehension (.SetComp elt [⟨tg, iter, ifs, 0⟩, ⟨tg1, iter1, ifs1, 0⟩] scope pos) scope X.env pos' (newSet (.type "set")) false (eval iter X.env) use) Qf X.xe s := by
  have hfree : ∀ y ∈ scope.names, y.2 = .free → ∃ c, X.env.cells.lookup y.1 = some c := fun y hy e => by
    rcases ok.free y hy e with k | k
    · exact I.ok.has _ (.inl k)
    · exact I.ok.has _ (.inr k)
  refine wpAny_comprehension_free (use := use) rfl hs (closure_ok hfree) ok.kind (fun y hy e => by rw [ok.uniq y hy, e])
    (thn (hi.run pins s σ H _ I h) fun xv s1 hx => thn hx fun itv s2 h2 => ?_)
  obtain ⟨it, fp, tn, J, H2, e, I2, T, st2, f2, q⟩ := h2
  subst e
  refine PpSet.newSet_ok (newEnv_comp ?_)
  generalize hD : s2.heap.objs.size = D
  have hDn : H2 D = none := I2.hok.fresh (Nat.le_of_eq hD)
  obtain ⟨W, ⟨m0, w0⟩, turn⟩ := q D hDn
  -- the new list
  generalize hs3 : ({ s2 with heap := s2.heap.push { cls := .type "set", dict := none, data := .set #[] 0 (.fresh 0 0 (!X.w.params.followText "set-order")) } } : Shared) = s3
  have I3 : Inv X pins σ (upd H2 D (SetGO X.prog X.w D [])) s3 := by
    rw [← hs3]
    refine I2.laid (t' := s2.toks) (fun b o e => Heap.get?_push_of_some _ e) (Nat.le_of_eq hD) ?_
    rw [← hD]
    exact setG_new (setG_fresh (Heap.get?_push_size _ rfl))
  have h3 : s3.heap = s2.heap.push { cls := .type "set", dict := none, data := .set #[] 0 (.fresh 0 0 (!X.w.params.followText "set-order")) } := by rw [← hs3]
  have sz : ∀ b ∈ fp, b < s2.heap.objs.size := fun b hb => by
    obtain ⟨o, e, _⟩ := T.obj _ _ st2 b hb
    exact Heap.lt_size e
  have f3 : ∀ b ∈ fp, FpOk X pins (upd H2 D (SetGO X.prog X.w D [])) b ∧ b < s3.heap.objs.size := fun b hb => by
    have hlt := sz b hb
    refine ⟨⟨?_, (f2 b hb).2⟩, by rw [h3, Heap.size_push]; exact Nat.lt_succ_of_lt hlt⟩
    rw [upd_ne (by rw [← hD]; exact Nat.ne_of_lt hlt)]
    exact (f2 b hb).1
  have st3 : tn 0 s3.heap := T.keep _ _ _ st2 fun b _ o e => by rw [h3]; exact Heap.get?_push_of_some _ e
  have I4 := block_start I3 ok hN f3
  have pg := hg s3 (upd H2 D (SetGO X.prog X.w D [])) s3.heap.objs.size (cellsFrom (s3.heap.objs.size + 1) scope.names (cloFrom X.env.cells scope.names [])) fp
  have pt := ht s3 (upd H2 D (SetGO X.prog X.w D [])) s3.heap.objs.size (cellsFrom (s3.heap.objs.size + 1) scope.names (cloFrom X.env.cells scope.names [])) fp
  have pe := he s3 (upd H2 D (SetGO X.prog X.w D [])) s3.heap.objs.size (cellsFrom (s3.heap.objs.size + 1) scope.names (cloFrom X.env.cells scope.names [])) fp
  have pi1 := hi1 s3 (upd H2 D (SetGO X.prog X.w D [])) s3.heap.objs.size (cellsFrom (s3.heap.objs.size + 1) scope.names (cloFrom X.env.cells scope.names [])) fp
  have pg1 := hg1 s3 (upd H2 D (SetGO X.prog X.w D [])) s3.heap.objs.size (cellsFrom (s3.heap.objs.size + 1) scope.names (cloFrom X.env.cells scope.names [])) fp
  have pt1 := ht1 s3 (upd H2 D (SetGO X.prog X.w D [])) s3.heap.objs.size (cellsFrom (s3.heap.objs.size + 1) scope.names (cloFrom X.env.cells scope.names [])) fp
  show codeAny _ _ (.compStart (.SetComp elt [⟨tg, iter, ifs, 0⟩, ⟨tg1, iter1, ifs1, 0⟩] scope pos) 0 (.ref it) (.ref D) (compEnvC scope (cellsFrom (s3.heap.objs.size + 1) scope.names (cloFrom X.env.cells scope.names [])) s3.heap.objs.size X.env)) (compPost (model X.prog X.w) X.A X.xe use Qf (.ref D) s3.heap.objs.size) { s3 with heap := pushCells (s3.heap.push { cls := .type "dict", data := .dict #[] }) scope.names }
  have nfp : ∀ b ∈ fp, (upd H2 D (SetGO X.prog X.w D [])) b = none := fun b hb => (f3 b hb).1.1
  generalize hce : compEnvC scope (cellsFrom (s3.heap.objs.size + 1) scope.names (cloFrom X.env.cells scope.names [])) s3.heap.objs.size X.env = ce at I4 pg pt pe pi1 pg1 pt1 ⊢
  have cL : ce.locals = s3.heap.objs.size := by subst hce; rfl
  generalize hH3 : upd H2 D (SetGO X.prog X.w D []) = H3 at I3 I4 pg pt pe pi1 pg1 pt1 w0 nfp f3
  generalize hs4 : ({ s3 with heap := pushCells (s3.heap.push { cls := .type "dict", data := .dict #[] }) scope.names } : Shared) = s4 at I4 ⊢
  have st4 : tn 0 s4.heap := T.keep _ _ _ st3 fun b _ o e => by rw [← hs4]; exact pushCells_keeps _ _ _ _ (Heap.get?_push_of_some _ e)
  have stat : ∀ {σ' : L2.St} {H' : Hp} {s' : Shared}, Inv (X.blk s3 H3 scope ce fp) [] σ' H' s' → (∀ b ∈ fp, H' b = none) → ∀ b ∈ fp, FpOk (X.blk s3 H3 scope ce fp) [] H' b := fun {σ' H' s'} I' hn b hb =>
    ⟨hn b hb, (I'.ok.exf b hb).1, I'.ok.exfs b hb, .inl hb, fun x c e => (I'.ok.exf b hb).2 x c e, fun p hp => absurd (show p ∈ ([] : List (Addr × Obj)) ++ [] from hp) (by simp)⟩
  have loop : codeAny (model X.prog X.w) X.A (.compLoop (.SetComp elt [⟨tg, iter, ifs, 0⟩, ⟨tg1, iter1, ifs1, 0⟩] scope pos) 0 (.ref it) (.ref D) ce) (compPost (model X.prog X.w) X.A X.xe use Qf (.ref D) s3.heap.objs.size) s4 := by
    refine scLoop2_out (hs1 ce) (fun n s' => ∃ i H', Inv (X.blk s3 H3 scope ce fp) [] (wipe σ (own.map (·.2))) H' s' ∧ tn i s'.heap ∧ (∀ b ∈ fp, H' b = none) ∧ W i n H') ?_ m0 ⟨0, H3, I4, st4, nfp, w0⟩
    rintro n s5 ⟨i, H5, I5, st5, n5, w5⟩
    rcases turn i n H5 w5 with ⟨stop, qq⟩ | ⟨go, Nx, hNx, step⟩
    · have td := T.done (X.blk s3 H3 scope ce fp) rfl rfl rfl hc i [] s5 _ H5 (fun _ _ => False) I5 (stat I5 n5) st5 stop
      refine thnF td fun r s6 ⟨hr, I6⟩ => ?_
      subst hr
      -- back in the def's context
      have I7 : Inv X pins σ H5 s6 := I3.call' (ch := fp) I6.os I6.base I6.hok I6.bare fun b hb => ⟨(f3 b hb).1.2.2.2.1, (f3 b hb).1.2.1, (f3 b hb).1.2.2.2.2.1, (f3 b hb).1.2.2.2.2.2⟩
      have nC : H5 s3.heap.objs.size = none := by
        have z : H5 ce.locals = none := I6.free
        rw [cL] at z
        exact z
      obtain ⟨m, hn, _⟩ := I6.loc
      have hn : s6.heap.Ns ce.locals m := hn
      rw [cL] at hn
      exact hRR D s3.heap.objs.size s6 m H5 I7 qq hn (I3.fpOk (Nat.le_refl _) nC)
    · have ti := T.item (X.blk s3 H3 scope ce fp) rfl rfl rfl hc i [] s5 _ H5 (fun _ _ => False) I5 (stat I5 n5) st5 go
      refine thnF ti fun r s6 ⟨u, hr, h6⟩ => ?_
      subst hr
      refine thnF h6 fun _ s7 ⟨x, H7, I7, r7, y7, st7, n7⟩ => ?_
      have I7' := I7.pinned (stat I7 n7) (T.obj _ _ st7)
      refine thnF (pg.run _ s7 _ H7 x u _ I7' r7 (step x H7 y7)) fun _ s8 ⟨σ8, H8, I8, hw8, q8⟩ => ?_
      refine thnF (pt.run _ s8 σ8 H8 _ I8 q8) fun b s9 ⟨H9, I9, q9⟩ => ?_
      -- the turn's end, from any slots that know what the block knew at its start
      have fin : ∀ {σ9 : L2.St} {s' : Shared} {H' : Hp}, Inv (X.blk s3 H3 scope ce fp) ([] ++ pinsAt fp s7.heap) σ9 H' s' → (wipe σ (own.map (·.2))).length = σ9.length → (∀ (j : Nat) v, (wipe σ (own.map (·.2)))[j]? = some (some v) → σ9[j]? = some (some v)) → Nx H' →
          ∃ m, m < n ∧ ∃ i H', Inv (X.blk s3 H3 scope ce fp) [] (wipe σ (own.map (·.2))) H' s' ∧ tn i s'.heap ∧ (∀ b ∈ fp, H' b = none) ∧ W i m H' := fun {σ9 s' H'} I' hl hk nx => by
        obtain ⟨m', hm, w'⟩ := hNx H' nx
        have pin' : ∀ b ∈ fp, ∀ o, s7.heap.get? b = some o → s'.heap.get? b = some o ∧ H' b = none := fun b hb o e =>
          let z := I'.pin (b, o) (List.mem_append_right _ (List.mem_append_right _ (mem_pinsAt hb e)))
          ⟨z.1, z.2.1⟩
        refine ⟨m', hm, i + 1, H', (I'.unpinned (pins := [])).weak hl hk, T.keep _ _ _ st7 fun b hb o e => (pin' b hb o e).1, fun b hb => ?_, w'⟩
        obtain ⟨o, e, _⟩ := T.obj _ _ st7 b hb
        exact (pin' b hb o e).2
      have hl8 : (wipe σ (own.map (·.2))).length = σ8.length := by rw [← hw8, wipe_length]
      have hk8 : ∀ (j : Nat) v, (wipe σ (own.map (·.2)))[j]? = some (some v) → σ8[j]? = some (some v) := fun j v e => by
        rw [← hw8] at e
        exact (wipe_some e).1
      have hk9 : ∀ (j : Nat) v, (wipe σ (own.map (·.2)))[j]? = some (some v) → (wipe σ8 vs1)[j]? = some (some v) := fun j v e => by
        rw [← hw8] at e
        obtain ⟨e1, e2⟩ := wipe_some e
        rw [wipe_out fun z => e2 (hv j z)]
        exact e1
      cases b with
      | false =>
        simp only [Bool.false_eq_true, if_false] at q9 ⊢
        exact fin I9 hl8 hk8 q9
      | true =>
        simp only [if_true] at q9 ⊢
        refine thnF (pi1.run _ s9 σ8 H9 _ I9 q9) fun xv s10 hx => thnF hx fun itv s11 h11 => ?_
        obtain ⟨it1, fp1, tn1, J1, H11, e1, I11, T1, st11, f11, W1, ⟨m1, w1⟩, turn1⟩ := h11
        subst e1
        -- the inner loop
        have stat1 : ∀ {H' : Hp}, (∀ b ∈ fp1, H' b = none) → ∀ b ∈ fp1, FpOk (X.blk s3 H3 scope ce fp) ([] ++ pinsAt fp s7.heap) H' b := fun hn b hb => ⟨hn b hb, (f11 b hb).2⟩
        have loop1 : codeAny (model X.prog X.w) X.A (.compLoop (.SetComp elt [⟨tg, iter, ifs, 0⟩, ⟨tg1, iter1, ifs1, 0⟩] scope pos) 1 (.ref it1) (.ref D) ce)
            (fun r s' => match r with
              | .ok _ => ∃ m, m < n ∧ ∃ i H', Inv (X.blk s3 H3 scope ce fp) [] (wipe σ (own.map (·.2))) H' s' ∧ tn i s'.heap ∧ (∀ b ∈ fp, H' b = none) ∧ W i m H'
              | .error _ => False) s11 := by
          refine scLoop2_in (fun k s' => ∃ j H', Inv (X.blk s3 H3 scope ce fp) ([] ++ pinsAt fp s7.heap) (wipe σ8 vs1) H' s' ∧ tn1 j s'.heap ∧ (∀ b ∈ fp1, H' b = none) ∧ W1 j k H') ?_ m1 ⟨0, H11, I11.weak (wipe_length _ _) (fun j v e => (wipe_some e).1), st11, fun b hb => (f11 b hb).1, w1⟩
          rintro k s12 ⟨j, H12, I12, st12, n12, w12⟩
          rcases turn1 j k H12 w12 with ⟨stop1, nx1⟩ | ⟨go1, Nx1, hNx1, step1⟩
          · refine thnF (T1.done (X.blk s3 H3 scope ce fp) rfl rfl rfl hc j _ s12 (wipe σ8 vs1) H12 (fun _ _ => False) I12 (stat1 n12) st12 stop1) fun r s13 ⟨hr, I13⟩ => ?_
            subst hr
            exact fin I13 (hl8.trans (wipe_length σ8 vs1).symm) hk9 nx1
          · refine thnF (T1.item (X.blk s3 H3 scope ce fp) rfl rfl rfl hc j _ s12 (wipe σ8 vs1) H12 (fun _ _ => False) I12 (stat1 n12) st12 go1) fun r s13 ⟨u1, hr, h13⟩ => ?_
            subst hr
            refine thnF h13 fun _ s14 ⟨x1, H14, I14, r14, y14, st14, n14⟩ => ?_
            have I14' := I14.pinned (stat1 n14) (T1.obj _ _ st14)
            refine thnF (pg1.run _ s14 (wipe σ8 vs1) H14 x1 u1 _ I14' r14 (step1 x1 H14 y14)) fun _ s15 ⟨σ15, H15, I15, hw15, q15⟩ => ?_
            refine thnF (pt1.run _ s15 σ15 H15 _ I15 q15) fun b1 s16 ⟨H16, I16, q16⟩ => ?_
            have fin1 : ∀ {s' : Shared} {H' : Hp}, Inv (X.blk s3 H3 scope ce fp) (([] ++ pinsAt fp s7.heap) ++ pinsAt fp1 s14.heap) σ15 H' s' → Nx1 H' → ∃ m, m < k ∧ ∃ j H', Inv (X.blk s3 H3 scope ce fp) ([] ++ pinsAt fp s7.heap) (wipe σ8 vs1) H' s' ∧ tn1 j s'.heap ∧ (∀ b ∈ fp1, H' b = none) ∧ W1 j m H' := fun {s' H'} I' nx => by
              obtain ⟨m', hm, w'⟩ := hNx1 H' nx
              have pin' : ∀ b ∈ fp1, ∀ o, s14.heap.get? b = some o → s'.heap.get? b = some o ∧ H' b = none := fun b hb o e =>
                let z := I'.pin (b, o) (List.mem_append_right _ (List.mem_append_right _ (mem_pinsAt hb e)))
                ⟨z.1, z.2.1⟩
              refine ⟨m', hm, j + 1, H', I'.unpinned.weak (by rw [← hw15, wipe_length]) (fun j v e => by rw [← hw15] at e; exact (wipe_some e).1), T1.keep _ _ _ st14 fun b hb o e => (pin' b hb o e).1, fun b hb => ?_, w'⟩
              obtain ⟨o, e, _⟩ := T1.obj _ _ st14 b hb
              exact (pin' b hb o e).2
            cases b1 with
            | false =>
              simp only [Bool.false_eq_true, if_false] at q16 ⊢
              exact fin1 I16 q16
            | true =>
              simp only [if_true] at q16 ⊢
              refine thnF (pe.run _ s16 σ15 H16 _ I16 q16) fun z s17 ⟨yv, H17, I17, r17, kk, kks, ey, hD17, hz17, nx⟩ => ?_
              subst ey
              exact addG_ok (X := X.blk s3 H3 scope ce fp) I17 hD17 hz17 r17 fun s18 I18 => fin1 I18 nx
        exact scStart1_ok loop1 (T1.self X.A 0 _ _ _ st11 loop1)
  exact PpSet.codeAny_compStart_set loop (T.self X.A 0 _ _ _ st4 loop)
/-- as a value -/
theorem pe_sc2G {elt tg iter tg1 iter1 : Expr} {ifs ifs1 : List Expr} {scope : Scope} {own : List (Str × Nat)} {vs1 : List Nat} {pos : Pos} {wi wi1 : TI} {g g1 : TG} {tt tt1 : TT} {te : TE} (hc : X.calm = true) (hN : X.N.Nodup) (hi : PI X tg iter wi) (ok : BlkOk X.N X.env.scope scope own) (hv : ∀ i ∈ vs1, i ∈ own.map (·.2))
    (hg : ∀ (s : Shared) (H : Hp) (C : Addr) (cl : List (Str × Addr)) (fp : List Addr), PG (X.blk s H scope (compEnvC scope cl C X.env) fp) tg g) (ht : ∀ (s : Shared) (H : Hp) (C : Addr) (cl : List (Str × Addr)) (fp : List Addr), PTs (X.blk s H scope (compEnvC scope cl C X.env) fp) ifs tt)
    (hi1 : ∀ (s : Shared) (H : Hp) (C : Addr) (cl : List (Str × Addr)) (fp : List Addr), PI (X.blk s H scope (compEnvC scope cl C X.env) fp) tg1 iter1 wi1)
    (hg1 : ∀ (s : Shared) (H : Hp) (C : Addr) (cl : List (Str × Addr)) (fp : List Addr), PG (X.blk s H scope (compEnvC scope cl C X.env) fp) tg1 g1) (ht1 : ∀ (s : Shared) (H : Hp) (C : Addr) (cl : List (Str × Addr)) (fp : List Addr), PTs (X.blk s H scope (compEnvC scope cl C X.env) fp) ifs1 tt1)
    (he : ∀ (s : Shared) (H : Hp) (C : Addr) (cl : List (Str × Addr)) (fp : List Addr), PE (X.blk s H scope (compEnvC scope cl C X.env) fp) elt te) (hs : ∀ x, foldedSetIterable iter X.env x = pure x := by intro _; rfl) (hs1 : ∀ env x, foldedSetIterable iter1 env x = pure x := by intro _ _; rfl) :
    PE X (.SetComp elt [⟨tg, iter, ifs, 0⟩, ⟨tg1, iter1, ifs1, 0⟩] scope pos) (tSc2G X.prog X.w wi g tt wi1 g1 tt1 te (own.map (·.2)) vs1) := by
  refine ⟨fun pins s σ H Q I h => ?_⟩
  rw [PpSet.eval_SetComp]
  refine sc2_coreG hc hN I hi ok hv hg ht he hs hi1 hg1 ht1 hs1 h fun D C s' m H' I' q hn f => ⟨m, hn, fun h'' sb => ?_⟩
  obtain ⟨f0, f1, f2, f3, f4, f5⟩ := f
  exact ⟨.ref D, H', I'.turned (t' := s'.toks) (fun b o hb e => (sb.2 b hb).trans e) f0 f1 f3 f4 f5, rfl, q⟩
end
end SX

/-! B1: how trees lie on the abstract heap; slots; readings from the language of A1. -/
namespace S3
open PySem L2

abbrev LIM : Nat := 16777216
/-- a text as there can be -/
def sOk (x : Str) : Bool := decide (x.length ≤ LIM) && x.cps.all (· < 0x110000)
theorem sOk_len {x : Str} (h : sOk x = true) : x.length ≤ LIM := by unfold sOk at h; rw [Bool.and_eq_true] at h; exact of_decide_eq_true h.1
theorem sOk_cps {x : Str} (h : sOk x = true) : x.cps.all (· < 0x110000) = true := by unfold sOk at h; rw [Bool.and_eq_true] at h; exact h.2
theorem sOk_of {x : Str} (h1 : x.length ≤ LIM) (h2 : x.cps.all (· < 0x110000) = true) : sOk x = true := by unfold sOk; rw [decide_eq_true h1, h2]; rfl
/-- keys as there can be -/
def kOk (ks : List Key) : Prop := ∀ x : Str, Sum.inr x ∈ ks → sOk x = true
/-- what the trees hang on: the program, the world, the written part, the classes' places -/
structure Wd where
  P : Program
  w : World
  K : PySem.W.Frag
  ca : Str → Option Addr

mutual
/-- v is the tree d, by the frozen part F of the heap -/
inductive Rp (Z : Wd) (F : Hp) : V → D → Prop
  | non : Rp Z F .non .non
  | bl (b : Bool) : Rp Z F (.bl b) (.bl b)
  | int (i : Int) : Rp Z F (.int i) (.int i)
  | str (x : Str) : sOk x = true → Rp Z F (.str x) (.str x)
  | lst {a : Addr} {xs : List V} {ds : List D} : F a = some (.lst xs) → RpA Z F xs ds → Rp Z F (.ref a) (.lst ds)
  | scr {a : Addr} {xs : List V} {ds : List D} : SqL Z.K F a xs → RpA Z F xs ds → Rp Z F (.ref a) (.scr ds)
  | tup {a : Addr} {xs : List V} {ds : List D} : F a = some (.tup xs) → RpA Z F xs ds → Rp Z F (.ref a) (.tup ds)
  | kt {a : Addr} {xs : List V} {ds : List D} : SqT Z.K F a xs → RpA Z F xs ds → Rp Z F (.ref a) (.kt ds)
  | dk {a : Addr} {xs : List (Key × V)} {ds : List (Key × D)} : F a = some (.dK xs) → RpP Z F xs ds → Rp Z F (.ref a) (.dk ds)
  | dt {a : Addr} {xs : List (List Key × V)} {ds : List (List Key × D)} : F a = some (.dT xs) → RpP Z F xs ds → Rp Z F (.ref a) (.dt ds)
  | st {a : Addr} {xs : List Key} : F a = some (SetGO Z.P Z.w a xs) → kOk xs → Rp Z F (.ref a) (.st xs)
  | obj {a C dx : Addr} {c : Str} {xs : List (Str × V)} {ds : List (Str × D)} : Z.ca c = some C → F a = some (.ins C dx xs) → RpP Z F xs ds → Rp Z F (.ref a) (.obj c ds)
  | xn {a C : Addr} {c : Str} {xs : List (Str × V)} {ds : List (Str × D)} : Z.ca "" = some a → Z.ca "  " = some C → Z.ca c = some C → (c ≠ "" ∧ c ≠ " " ∧ c ≠ "  ") → ((ds = [] ∧ Z.ca " " = none) ∨ ∃ dd, Z.ca " " = some dd ∧ F dd = some (.xd xs)) → RpP Z F xs ds → Rp Z F (.ref a) (.xn c ds)
inductive RpA (Z : Wd) (F : Hp) : List V → List D → Prop
  | nil : RpA Z F [] []
  | cons {v : V} {vs : List V} {d : D} {ds : List D} : Rp Z F v d → RpA Z F vs ds → RpA Z F (v :: vs) (d :: ds)
inductive RpP (Z : Wd) (F : Hp) : {κ : Type} → List (κ × V) → List (κ × D) → Prop
  | nil {κ : Type} : RpP Z F ([] : List (κ × V)) []
  | cons {κ : Type} {k : κ} {v : V} {vs : List (κ × V)} {d : D} {ds : List (κ × D)} : Rp Z F v d → RpP Z F vs ds → RpP Z F ((k, v) :: vs) ((k, d) :: ds)
end

section
variable {Z : Wd} {F F' H H' : Hp}
theorem SqT.same {K : PySem.W.Frag} {H H' : Hp} {a : Addr} {xs : List V} (e : Same H H') (h : SqT K H a xs) : SqT K H' a xs := by
  rcases h with (h | ⟨o, h⟩) | h
  · exact .inl (.inl (e _ _ h))
  · exact .inl (.inr ⟨o, e _ _ h⟩)
  · exact .inr h
mutual
theorem Rp.mono (e : Same F F') : ∀ {v : V} {d : D}, Rp Z F v d → Rp Z F' v d
  | _, _, .non => .non
  | _, _, .bl b => .bl b
  | _, _, .int i => .int i
  | _, _, .str x h => .str x h
  | _, _, .lst h r => .lst (e _ _ h) (RpA.mono e r)
  | _, _, .scr h r => .scr (Same.seq e h) (RpA.mono e r)
  | _, _, .tup h r => .tup (e _ _ h) (RpA.mono e r)
  | _, _, .kt h r => .kt (SqT.same e h) (RpA.mono e r)
  | _, _, .dk h r => .dk (e _ _ h) (RpP.mono e r)
  | _, _, .dt h r => .dt (e _ _ h) (RpP.mono e r)
  | _, _, .st h n => .st (e _ _ h) n
  | _, _, .obj c h r => .obj c (e _ _ h) (RpP.mono e r)
  | _, _, .xn a b c k h r => .xn a b c k (h.imp id fun ⟨dd, x, y⟩ => ⟨dd, x, e _ _ y⟩) (RpP.mono e r)
theorem RpA.mono (e : Same F F') : ∀ {v : List V} {d : List D}, RpA Z F v d → RpA Z F' v d
  | _, _, .nil => .nil
  | _, _, .cons h r => .cons (Rp.mono e h) (RpA.mono e r)
theorem RpP.mono (e : Same F F') : ∀ {κ : Type} {v : List (κ × V)} {d : List (κ × D)}, RpP Z F v d → RpP Z F' v d
  | _, _, _, .nil => .nil
  | _, _, _, .cons h r => .cons (Rp.mono e h) (RpP.mono e r)
end

/-- the object at a is the top of the tree d, what it holds is frozen -/
def Top (Z : Wd) (F H : Hp) (a : Addr) : D → Prop
  | .lst ds => ∃ xs, H a = some (.lst xs) ∧ RpA Z F xs ds
  | .dk ds => ∃ xs, H a = some (.dK xs) ∧ RpP Z F xs ds
  | .dt ds => ∃ xs, H a = some (.dT xs) ∧ RpP Z F xs ds
  | .st xs => H a = some (SetGO Z.P Z.w a xs) ∧ kOk xs
  | .obj c ds => ∃ C dx xs, Z.ca c = some C ∧ H a = some (.ins C dx xs) ∧ RpP Z F xs ds
  | _ => False
theorem Top.there {a : Addr} {d : D} (h : Top Z F H a d) : ∃ o, H a = some o := by
  cases d <;> simp only [Top] at h
  case lst => obtain ⟨_, h, _⟩ := h; exact ⟨_, h⟩
  case dk => obtain ⟨_, h, _⟩ := h; exact ⟨_, h⟩
  case dt => obtain ⟨_, h, _⟩ := h; exact ⟨_, h⟩
  case st => exact ⟨_, h.1⟩
  case obj => obtain ⟨_, _, _, _, h, _⟩ := h; exact ⟨_, h⟩
/-- kept where the object stands as it stood -/
theorem Top.keep {a : Addr} {d : D} (h : Top Z F H a d) (e : Same F F') (k : ∀ o, H a = some o → H' a = some o) : Top Z F' H' a d := by
  cases d <;> simp only [Top] at h ⊢
  case lst => obtain ⟨_, h, r⟩ := h; exact ⟨_, k _ h, r.mono e⟩
  case dk => obtain ⟨_, h, r⟩ := h; exact ⟨_, k _ h, r.mono e⟩
  case dt => obtain ⟨_, h, r⟩ := h; exact ⟨_, k _ h, r.mono e⟩
  case st => exact ⟨k _ h.1, h.2⟩
  case obj => obtain ⟨_, _, _, c, h, r⟩ := h; exact ⟨_, _, _, c, k _ h, r.mono e⟩
/-- frozen -/
theorem Top.rp {a : Addr} {d : D} (h : Top Z F H a d) (e : Same F F') (k : ∀ o, H a = some o → F' a = some o) : Rp Z F' (.ref a) d := by
  cases d <;> simp only [Top] at h
  case lst => obtain ⟨_, h, r⟩ := h; exact .lst (k _ h) (r.mono e)
  case dk => obtain ⟨_, h, r⟩ := h; exact .dk (k _ h) (r.mono e)
  case dt => obtain ⟨_, h, r⟩ := h; exact .dt (k _ h) (r.mono e)
  case st => exact .st (k _ h.1) h.2
  case obj => obtain ⟨_, _, _, c, h, r⟩ := h; exact .obj c (k _ h) (r.mono e)

/-- v is read as d: frozen, or an object of its own -/
def RdV (Z : Wd) (F H : Hp) (v : V) (d : D) : Prop := Rp Z F v d ∨ ∃ a, v = .ref a ∧ F a = none ∧ Top Z F H a d

/-! ### the state of a frame -/
/-- the entry: the frozen part and the heap at the call; the places that may be changed -/
structure En where
  F : Hp
  H : Hp
  M : List Addr
  mi : Nat → Option Addr
def SlOk (Z : Wd) (N : En) (F H : Hp) (o : Option V) : Sl → Prop
  | .no => True
  | .fz d => ∃ v, o = some v ∧ Rp Z F v d
  | .ow d => ∃ a, o = some (.ref a) ∧ F a = none ∧ N.H a = none ∧ Top Z F H a d
  | .bo d => ∃ v, o = some v ∧ (Rp Z F v d ∨ ∃ a, v = .ref a ∧ F a = none ∧ (∃ u, N.H a = some u) ∧ a ∉ N.M ∧ Top Z F H a d)
  | .mu d => ∃ a, o = some (.ref a) ∧ F a = none ∧ a ∈ N.M ∧ Top Z F H a d
def Sl.own : Sl → Bool
  | .ow _ => true | .mu _ => true | _ => false
/-- the slot holds the object at a, and it is not frozen -/
def Live (Z : Wd) (F : Hp) (o : Option V) (s : Sl) (a : Addr) : Prop := match s with
  | .ow _ => o = some (.ref a)
  | .mu _ => o = some (.ref a)
  | .bo d => o = some (.ref a) ∧ ¬ Rp Z F (.ref a) d
  | _ => False
structure SOk (Z : Wd) (N : En) (F H : Hp) (σ : St) (e : Env) : Prop where
  le : Same F H
  f0 : Same N.F F
  h0 : ∀ b o, N.H b = some o → b ∉ N.M → H b = some o
  nf : ∀ b o, N.H b = some o → N.F b = none → F b = none
  len : σ.length = e.length
  slot : ∀ (i : Nat) (s : Sl), e[i]? = some s → ∃ o, σ[i]? = some o ∧ SlOk Z N F H o s
  sep : ∀ (i j : Nat) (s t : Sl) (a : Addr), e[i]? = some s → e[j]? = some t → i ≠ j → s.own = true → Live Z F ((σ[i]?).join) s a → Live Z F ((σ[j]?).join) t a → False
  mh : ∀ a ∈ N.M, F a = none ∧ (∃ o, H a = some o) ∧ ∃ o, N.H a = some o
  mus : ∀ (i : Nat) (d : D), e[i]? = some (.mu d) → ∃ a, σ[i]? = some (some (.ref a)) ∧ N.mi i = some a
/-- what an expression hands back -/
def RvOk (Z : Wd) (N : En) (F H : Hp) (σ : St) (e : Env) (v : V) : RV → Prop
  | .fz d => Rp Z F v d
  | .nw d => ∃ a, v = .ref a ∧ F a = none ∧ N.H a = none ∧ Top Z F H a d ∧ ∀ (i : Nat) (s : Sl), e[i]? = some s → ¬ Live Z F ((σ[i]?).join) s a
  | .at i => σ[i]? = some (some v) ∧ ∃ s, e[i]? = some s ∧ s ≠ .no

variable {N : En} {σ : St} {e e' : Env}

theorem Live.mono {o : Option V} {s : Sl} {a : Addr} (h : Live Z F' o s a) (f : Same F F') : Live Z F o s a := by
  cases s <;> simp only [Live] at h ⊢ <;> first | exact h | exact ⟨h.1, fun r => h.2 (r.mono f)⟩
theorem Live.there {o : Option V} {s : Sl} {a : Addr} (h : Live Z F o s a) (k : SlOk Z N F H o s) : F a = none ∧ ∃ u, H a = some u := by
  cases s <;> simp only [Live] at h
  case ow => obtain ⟨b, e, f, _, t⟩ := k; rw [h] at e; cases e; exact ⟨f, t.there⟩
  case mu => obtain ⟨b, e, f, _, t⟩ := k; rw [h] at e; cases e; exact ⟨f, t.there⟩
  case bo =>
    obtain ⟨v, e, r | ⟨b, rfl, f, _, _, t⟩⟩ := k
    · rw [h.1] at e; cases e; exact (h.2 r).elim
    · rw [h.1] at e; cases e; exact ⟨f, t.there⟩
theorem SOk.live (S : SOk Z N F H σ e) {i : Nat} {s : Sl} {a : Addr} (h : e[i]? = some s) (l : Live Z F ((σ[i]?).join) s a) : F a = none ∧ ∃ u, H a = some u := by
  obtain ⟨o, h1, h2⟩ := S.slot i s h
  rw [h1] at l
  exact l.there h2
theorem slot_get {e : Env} {i : Nat} {s : Sl} (h : S3.slot e i = s) (hs : s ≠ .no) : e[i]? = some s := by
  unfold S3.slot at h
  rw [List.getD_eq_getElem?_getD] at h
  cases q : e[i]? with
  | none => rw [q] at h; exact absurd h.symm hs
  | some t => rw [q] at h; exact congrArg some h
theorem slot_of {e : Env} {i : Nat} {s : Sl} (h : e[i]? = some s) : S3.slot e i = s := by
  unfold S3.slot
  rw [List.getD_eq_getElem?_getD, h]
  rfl
theorem SlOk.rd {o : Option V} {s : Sl} {d : D} (h : SlOk Z N F H o s) (hd : s.val = some d) : ∃ v, o = some v ∧ RdV Z F H v d := by
  cases s <;> simp only [Sl.val, Option.some.injEq] at hd
  case no => cases hd
  case fz => subst hd; obtain ⟨v, e, r⟩ := h; exact ⟨v, e, .inl r⟩
  case ow => subst hd; obtain ⟨a, e, f, _, t⟩ := h; exact ⟨_, e, .inr ⟨a, rfl, f, t⟩⟩
  case bo =>
    subst hd
    obtain ⟨v, e, r | ⟨a, rfl, f, _, _, t⟩⟩ := h
    · exact ⟨v, e, .inl r⟩
    · exact ⟨_, e, .inr ⟨a, rfl, f, t⟩⟩
  case mu => subst hd; obtain ⟨a, e, f, _, t⟩ := h; exact ⟨_, e, .inr ⟨a, rfl, f, t⟩⟩
/-- read -/
theorem RvOk.rd (S : SOk Z N F H σ e) {v : V} {r : RV} {d : D} (h : RvOk Z N F H σ e v r) (hd : rd r e = some d) : RdV Z F H v d := by
  cases r with
  | fz x => cases hd; exact .inl h
  | nw x => cases hd; obtain ⟨a, e, f, _, t, _⟩ := h; exact .inr ⟨a, e, f, t⟩
  | «at» i =>
    obtain ⟨h1, s, h2, h3⟩ := h
    have q : S3.slot e i = s := slot_of h2
    have hd : (S3.slot e i).val = some d := hd
    rw [q] at hd
    obtain ⟨o, ho, so⟩ := S.slot i s h2
    obtain ⟨v', e1, r⟩ := so.rd hd
    rw [h1] at ho
    cases ho
    cases e1
    exact r

/-- the heap grows -/
theorem SlOk.grow {o : Option V} {s : Sl} (h : SlOk Z N F H o s) (f : Same F F') (k : Same H H') (nf : ∀ b u, H b = some u → F b = none → F' b = none) : SlOk Z N F' H' o s := by
  cases s with
  | no => trivial
  | fz d => obtain ⟨v, e, r⟩ := h; exact ⟨v, e, r.mono f⟩
  | ow d => obtain ⟨a, e, x, y, t⟩ := h; obtain ⟨u, hu⟩ := t.there; exact ⟨a, e, nf _ _ hu x, y, t.keep f (k _)⟩
  | bo d =>
    obtain ⟨v, e, r | ⟨a, rfl, x, y, z, t⟩⟩ := h
    · exact ⟨v, e, .inl (r.mono f)⟩
    · obtain ⟨u, hu⟩ := t.there
      exact ⟨_, e, .inr ⟨a, rfl, nf _ _ hu x, y, z, t.keep f (k _)⟩⟩
  | mu d => obtain ⟨a, e, x, y, t⟩ := h; obtain ⟨u, hu⟩ := t.there; exact ⟨a, e, nf _ _ hu x, y, t.keep f (k _)⟩
theorem SOk.grow (S : SOk Z N F H σ e) (f : Same F F') (k : Same H H') (l : Same F' H') (nf : ∀ b u, H b = some u → F b = none → F' b = none) : SOk Z N F' H' σ e where
  le := l
  f0 := S.f0.trans f
  h0 := fun b o h m => k _ _ (S.h0 b o h m)
  nf := fun b o h n => by
    by_cases m : b ∈ N.M
    · obtain ⟨_, ⟨u, q⟩, _⟩ := S.mh b m
      exact nf b u q (S.nf b o h n)
    · exact nf b o (S.h0 b o h m) (S.nf b o h n)
  len := S.len
  slot := fun i s h => let ⟨o, h1, h2⟩ := S.slot i s h; ⟨o, h1, h2.grow f k nf⟩
  sep := fun i j s t a h1 h2 ne o l1 l2 => S.sep i j s t a h1 h2 ne o (l1.mono f) (l2.mono f)
  mh := fun a m => let ⟨x, ⟨u, y⟩, z⟩ := S.mh a m; ⟨nf a u y x, ⟨u, k a u y⟩, z⟩
  mus := S.mus

/-- slots forgotten -/
theorem get_set_no {e : Env} {i j : Nat} {s : Sl} (h : (e.set i .no)[j]? = some s) : s = .no ∨ e[j]? = some s := by
  by_cases q : i = j
  · subst q
    by_cases l : i < e.length
    · rw [List.getElem?_set_self l] at h
      exact .inl (Option.some.inj h).symm
    · rw [List.getElem?_eq_none (by rw [List.length_set]; omega)] at h
      cases h
  · rw [List.getElem?_set_ne q] at h
    exact .inr h
theorem SOk.forget (S : SOk Z N F H σ e) (i : Nat) : SOk Z N F H σ (e.set i .no) where
  le := S.le
  f0 := S.f0
  h0 := S.h0
  nf := S.nf
  len := by rw [List.length_set]; exact S.len
  slot := fun j s h => by
    rcases get_set_no h with q | q
    · subst q
      have l : j < σ.length := by
        have := (List.getElem?_eq_some_iff.mp h).1
        rw [List.length_set] at this
        rw [S.len]; exact this
      exact ⟨_, List.getElem?_eq_getElem l, trivial⟩
    · exact S.slot j s q
  sep := fun j k s t a h1 h2 ne o s1 s2 => by
    rcases get_set_no h1 with q | q
    · subst q; cases o
    · rcases get_set_no h2 with q2 | q2
      · subst q2; exact s2.elim
      · exact S.sep j k s t a q q2 ne o s1 s2
  mh := S.mh
  mus := fun j d h => by
    rcases get_set_no h with q | q
    · cases q
    · exact S.mus j d q
theorem SOk.wipe (S : SOk Z N F H σ e) : ∀ is : List Nat, SOk Z N F H σ (wipeE e is)
  | [] => S
  | i :: is => (S.wipe is).forget i

theorem get_set {α : Type} {e : List α} {i j : Nat} {x s : α} (h : (e.set i x)[j]? = some s) : (i = j ∧ s = x ∧ i < e.length) ∨ (i ≠ j ∧ e[j]? = some s) := by
  by_cases q : i = j
  · subst q
    by_cases l : i < e.length
    · rw [List.getElem?_set_self l] at h
      exact .inl ⟨rfl, (Option.some.inj h).symm, l⟩
    · rw [List.getElem?_eq_none (by rw [List.length_set]; omega)] at h
      cases h
  · rw [List.getElem?_set_ne q] at h
    exact .inr ⟨q, h⟩
/-- a slot is given a frozen value -/
theorem SOk.set (S : SOk Z N F H σ e) {i : Nat} {v : V} {d : D} (r : Rp Z F v d) : SOk Z N F H (σ.set i (some v)) (e.set i (.fz d)) where
  le := S.le
  f0 := S.f0
  h0 := S.h0
  nf := S.nf
  len := by rw [List.length_set, List.length_set]; exact S.len
  slot := fun j s h => by
    rcases get_set h with ⟨q, rfl, l⟩ | ⟨q, h'⟩
    · subst q
      exact ⟨some v, List.getElem?_set_self (by rw [S.len]; exact l), v, rfl, r⟩
    · rw [List.getElem?_set_ne q]
      exact S.slot j s h'
  sep := fun j k s t a h1 h2 ne o s1 s2 => by
    rcases get_set h1 with ⟨q, rfl, l⟩ | ⟨q, h1'⟩
    · cases o
    · rcases get_set h2 with ⟨q2, rfl, l2⟩ | ⟨q2, h2'⟩
      · exact s2.elim
      · rw [List.getElem?_set_ne q] at s1
        rw [List.getElem?_set_ne q2] at s2
        exact S.sep j k s t a h1' h2' ne o s1 s2
  mh := S.mh
  mus := fun j d h => by
    rcases get_set h with ⟨_, q, _⟩ | ⟨q, h'⟩
    · cases q
    · rw [List.getElem?_set_ne q]
      exact S.mus j d h'
/-- a slot is given a new object -/
theorem SOk.setOw (S : SOk Z N F H σ e) {i : Nat} {a : Addr} {d : D} (f : F a = none) (n : N.H a = none) (t : Top Z F H a d) (ap : ∀ (j : Nat) (s : Sl), e[j]? = some s → ¬ Live Z F ((σ[j]?).join) s a) :
    SOk Z N F H (σ.set i (some (.ref a))) (e.set i (.ow d)) where
  le := S.le
  f0 := S.f0
  h0 := S.h0
  nf := S.nf
  len := by rw [List.length_set, List.length_set]; exact S.len
  slot := fun j s h => by
    rcases get_set h with ⟨q, rfl, l⟩ | ⟨q, h'⟩
    · subst q
      exact ⟨_, List.getElem?_set_self (by rw [S.len]; exact l), a, rfl, f, n, t⟩
    · rw [List.getElem?_set_ne q]
      exact S.slot j s h'
  sep := fun j k s t' b h1 h2 ne o s1 s2 => by
    rcases get_set h1 with ⟨q, rfl, l1⟩ | ⟨q, h1'⟩
    · subst q
      rw [List.getElem?_set_self (by rw [S.len]; exact l1)] at s1
      cases s1
      rcases get_set h2 with ⟨q2, rfl, l2⟩ | ⟨q2, h2'⟩
      · exact ne q2
      · rw [List.getElem?_set_ne q2] at s2
        exact ap k t' h2' s2
    · rw [List.getElem?_set_ne q] at s1
      rcases get_set h2 with ⟨q2, rfl, l2⟩ | ⟨q2, h2'⟩
      · subst q2
        rw [List.getElem?_set_self (by rw [S.len]; exact l2)] at s2
        cases s2
        exact ap j s h1' s1
      · rw [List.getElem?_set_ne q2] at s2
        exact S.sep j k s t' b h1' h2' ne o s1 s2
  mh := S.mh
  mus := fun j d h => by
    rcases get_set h with ⟨_, q, _⟩ | ⟨q, h'⟩
    · cases q
    · rw [List.getElem?_set_ne q]
      exact S.mus j d h'

/-- what stands at a is laid into the frozen part -/
theorem same_upd {F : Hp} {a : Addr} {o : HO} (n : F a = none) : Same F (upd F a o) := fun b u h => by rw [upd_ne (ne_of_none h n)]; exact h
theorem upd_le {F H : Hp} {a : Addr} {o : HO} (l : Same F H) (h : H a = some o) : Same (upd F a o) H := fun b u q => by
  by_cases z : b = a
  · subst z; rw [upd_same] at q; cases q; exact h
  · rw [upd_ne z] at q; exact l _ _ q
/-- a fresh object that no slot holds is frozen -/
theorem SOk.freezeNew (S : SOk Z N F H σ e) {a : Addr} {o : HO} (f : F a = none) (n : N.H a = none) (h : H a = some o) (ap : ∀ (j : Nat) (s : Sl), e[j]? = some s → ¬ Live Z F ((σ[j]?).join) s a) : SOk Z N (upd F a o) H σ e where
  le := upd_le S.le h
  f0 := S.f0.trans (same_upd f)
  h0 := S.h0
  nf := fun b u hb nb => by
    rw [upd_ne (ne_of_none hb n)]
    exact S.nf b u hb nb
  len := S.len
  slot := fun j s hs => by
    obtain ⟨v, h1, h2⟩ := S.slot j s hs
    refine ⟨v, h1, ?_⟩
    have sm : Same F (upd F a o) := same_upd f
    cases s with
    | no => trivial
    | fz d => obtain ⟨v, e, r⟩ := h2; exact ⟨v, e, r.mono sm⟩
    | ow d =>
      obtain ⟨b, e, x, y, t⟩ := h2
      subst e
      have nb : b ≠ a := fun z => ap j _ hs (by rw [h1, ← z]; rfl)
      exact ⟨b, rfl, by rw [upd_ne nb]; exact x, y, t.keep sm fun _ q => q⟩
    | bo d =>
      obtain ⟨v, e, r⟩ := h2
      subst e
      by_cases rr : Rp Z F v d
      · exact ⟨v, rfl, .inl (rr.mono sm)⟩
      · rcases r with r | ⟨b, rfl, x, y, z, t⟩
        · exact (rr r).elim
        · have nb : b ≠ a := fun z => ap j _ hs (by rw [h1, ← z]; exact ⟨rfl, rr⟩)
          exact ⟨_, rfl, .inr ⟨b, rfl, by rw [upd_ne nb]; exact x, y, z, t.keep sm fun _ q => q⟩⟩
    | mu d =>
      obtain ⟨b, e, x, y, t⟩ := h2
      subst e
      have nb : b ≠ a := fun z => ap j _ hs (by rw [h1, ← z]; rfl)
      exact ⟨b, rfl, by rw [upd_ne nb]; exact x, y, t.keep sm fun _ q => q⟩
  sep := fun i j s t b h1 h2 ne o l1 l2 => S.sep i j s t b h1 h2 ne o (l1.mono (same_upd f)) (l2.mono (same_upd f))
  mh := fun b m => by
    obtain ⟨x, u, v, y⟩ := S.mh b m
    exact ⟨by rw [upd_ne (ne_of_none y n)]; exact x, u, v, y⟩
  mus := S.mus
end
end S3

/-! B2: freezing, changing, growing; the readings of A1's terms; the general rules. -/
namespace S3
open PySem L2
section
variable {Z : Wd} {F F' H H' : Hp} {N : En} {σ : St} {e e' : Env}

/-- an owned slot is frozen -/
theorem SOk.freeze (S : SOk Z N F H σ e) {i : Nat} {d : D} (h : e[i]? = some (.ow d)) : ∃ a F', σ[i]? = some (some (.ref a)) ∧ Same F F' ∧ Rp Z F' (.ref a) d ∧ SOk Z N F' H σ (e.set i (.fz d)) := by
  obtain ⟨o, h1, h2⟩ := S.slot i _ h
  obtain ⟨a, rfl, fa, na, t⟩ := id h2
  obtain ⟨u, hu⟩ := t.there
  have ap : ∀ (j : Nat) (s : Sl), (e.set i .no)[j]? = some s → ¬ Live Z F ((σ[j]?).join) s a := fun j s hj l => by
    rcases get_set hj with ⟨q, rfl, _⟩ | ⟨q, hj'⟩
    · exact l
    · exact S.sep i j _ s a h hj' q rfl (by rw [h1]; rfl) l
  have S1 := (S.forget i).freezeNew fa na hu ap
  have r : Rp Z (upd F a u) (.ref a) d := t.rp (same_upd fa) fun o ho => by rw [hu] at ho; cases ho; exact upd_same
  have S2 := S1.set (i := i) r
  have e1 : σ.set i (some (.ref a)) = σ := by
    apply List.ext_getElem? 
    intro j
    by_cases q : i = j
    · subst q
      rw [List.getElem?_set_self (List.getElem?_eq_some_iff.mp h1).1, h1]
    · rw [List.getElem?_set_ne q]
  rw [e1, List.set_set] at S2
  exact ⟨a, _, h1, same_upd fa, r, S2⟩

/-- a value is settled -/
theorem RvOk.stl (S : SOk Z N F H σ e) {v : V} {r : RV} {d : D} (R : RvOk Z N F H σ e v r) (h : stl r e = some (d, e')) : ∃ F', Same F F' ∧ SOk Z N F' H σ e' ∧ Rp Z F' v d := by
  cases r with
  | fz x => cases h; exact ⟨F, Same.refl _, S, R⟩
  | nw x =>
    cases h
    obtain ⟨a, rfl, fa, na, t, ap⟩ := R
    obtain ⟨u, hu⟩ := t.there
    exact ⟨_, same_upd fa, S.freezeNew fa na hu ap, t.rp (same_upd fa) fun o ho => by rw [hu] at ho; cases ho; exact upd_same⟩
  | «at» i =>
    obtain ⟨h1, s, h2, h3⟩ := R
    have q : S3.slot e i = s := slot_of h2
    unfold S3.stl at h
    dsimp only at h
    rw [q] at h
    cases s with
    | fz x =>
      cases h
      obtain ⟨o, ho, w, rfl, r⟩ := S.slot i _ h2
      rw [h1] at ho; cases ho
      exact ⟨F, Same.refl _, S, r⟩
    | ow x =>
      cases h
      obtain ⟨a, F', g1, g2, g3, g4⟩ := S.freeze h2
      rw [h1] at g1; cases g1
      exact ⟨F', g2, g4, g3⟩
    | no => cases h
    | bo x => cases h
    | mu x => cases h

/-- the object at an owned, or lent, slot is changed -/
theorem SOk.write (S : SOk Z N F H σ e) {i : Nat} {s : Sl} {a : Addr} {o : HO} {d' : D} (h : e[i]? = some s) (ho : s.own = true) (h1 : σ[i]? = some (some (.ref a))) (t : Top Z F (upd H a o) a d') :
    SOk Z N F (upd H a o) σ (e.set i (reown s d')) := by
  obtain ⟨ov, q1, q2⟩ := S.slot i s h
  rw [h1] at q1; cases q1
  have lv : Live Z F ((σ[i]?).join) s a := by rw [h1]; cases s <;> first | rfl | cases ho
  obtain ⟨fa, u, hu⟩ := S.live h lv
  have oth : ∀ (j : Nat) (s' : Sl), i ≠ j → e[j]? = some s' → ¬ Live Z F ((σ[j]?).join) s' a := fun j s' q hj l => S.sep i j s s' a h hj q ho lv l
  have il : i < e.length := (List.getElem?_eq_some_iff.mp h).1
  refine ⟨fun b x hb => by rw [upd_ne (ne_of_none hb fa)]; exact S.le _ _ hb, S.f0, fun b x hb m => ?_, S.nf, by rw [List.length_set]; exact S.len, fun j s' hj => ?_, fun j k s1 s2 b g1 g2 ne o1 l1 l2 => ?_, fun b m => ?_, fun j d2 hj => ?_⟩
  · have nb : b ≠ a := by
      rintro rfl
      cases s with
      | ow x => obtain ⟨c, e1, _, n, _⟩ := q2; cases e1; rw [n] at hb; cases hb
      | mu x => obtain ⟨c, e1, _, n, _⟩ := q2; cases e1; exact m n
      | no => cases ho
      | fz x => cases ho
      | bo x => cases ho
    rw [upd_ne nb]
    exact S.h0 b x hb m
  · rcases get_set hj with ⟨q, rfl, _⟩ | ⟨q, hj'⟩
    · subst q
      refine ⟨_, h1, ?_⟩
      cases s with
      | ow x => obtain ⟨c, e1, f, n, _⟩ := q2; cases e1; exact ⟨a, rfl, f, n, t⟩
      | mu x => obtain ⟨c, e1, f, n, _⟩ := q2; cases e1; exact ⟨a, rfl, f, n, t⟩
      | no => cases ho
      | fz x => cases ho
      | bo x => cases ho
    · obtain ⟨ov, g1, g2⟩ := S.slot j s' hj'
      refine ⟨ov, g1, ?_⟩
      have nl := oth j s' q hj'
      rw [g1] at nl
      have kp : ∀ b, b ≠ a → ∀ o', H b = some o' → upd H a o b = some o' := fun b nb o' hb => by rw [upd_ne nb]; exact hb
      cases s' with
      | no => trivial
      | fz x => exact g2
      | ow x => obtain ⟨b, rfl, f, n, t'⟩ := g2; exact ⟨b, rfl, f, n, t'.keep (Same.refl _) (kp b fun z => nl (by rw [← z]; rfl))⟩
      | mu x => obtain ⟨b, rfl, f, n, t'⟩ := g2; exact ⟨b, rfl, f, n, t'.keep (Same.refl _) (kp b fun z => nl (by rw [← z]; rfl))⟩
      | bo x =>
        obtain ⟨v, rfl, r⟩ := g2
        by_cases rr : Rp Z F v x
        · exact ⟨v, rfl, .inl rr⟩
        · rcases r with r | ⟨b, rfl, f, n, m, t'⟩
          · exact (rr r).elim
          · exact ⟨_, rfl, .inr ⟨b, rfl, f, n, m, t'.keep (Same.refl _) (kp b fun z => nl (by rw [← z]; exact ⟨rfl, rr⟩))⟩⟩
  · rcases get_set g1 with ⟨q, rfl, _⟩ | ⟨q, g1'⟩
    · subst q
      have eb : b = a := by
        rw [h1] at l1
        cases s <;> first | (simp only [Live] at l1; exact (Option.some.inj l1 |> fun z => by injection z with z; exact z.symm)) | cases ho
      subst eb
      rcases get_set g2 with ⟨q2, rfl, _⟩ | ⟨q2, g2'⟩
      · exact ne q2
      · exact oth k s2 q2 g2' l2
    · rcases get_set g2 with ⟨q2, rfl, _⟩ | ⟨q2, g2'⟩
      · subst q2
        have eb : b = a := by
          rw [h1] at l2
          cases s <;> first | (simp only [Live] at l2; exact (Option.some.inj l2 |> fun z => by injection z with z; exact z.symm)) | cases ho
        subst eb
        exact oth j s1 q g1' l1
      · exact S.sep j k s1 s2 b g1' g2' ne o1 l1 l2
  · obtain ⟨x, ⟨u', y⟩, z⟩ := S.mh b m
    refine ⟨x, ?_, z⟩
    by_cases q : b = a
    · subst q; exact ⟨_, upd_same⟩
    · exact ⟨u', by rw [upd_ne q]; exact y⟩
  · rcases get_set hj with ⟨q, e1, _⟩ | ⟨q, hj'⟩
    · subst q
      cases s <;> simp only [reown] at e1 <;> cases e1
      exact S.mus _ _ h
    · exact S.mus j d2 hj'

/-! ### growth -/
/-- the heap and its frozen part grow; nothing that stood changes -/
structure Gr (F H F' H' : Hp) : Prop where
  f : Same F F'
  h : Same H H'
  le : Same F' H'
  nf : ∀ b u, H b = some u → F b = none → F' b = none
theorem Gr.refl (l : Same F H) : Gr F H F H := ⟨Same.refl _, Same.refl _, l, fun _ _ _ h => h⟩
theorem Gr.trans {F2 H2 : Hp} (a : Gr F H F' H') (b : Gr F' H' F2 H2) : Gr F H F2 H2 := ⟨a.f.trans b.f, a.h.trans b.h, b.le, fun c u h n => b.nf c u (a.h _ _ h) (a.nf c u h n)⟩
/-- a new value -/
def NwOk (Z : Wd) (H F' H' : Hp) (v : V) : RV → Prop
  | .fz d => Rp Z F' v d
  | .nw d => ∃ a, v = .ref a ∧ H a = none ∧ F' a = none ∧ Top Z F' H' a d
  | .at _ => False
theorem SOk.gr (S : SOk Z N F H σ e) (g : Gr F H F' H') : SOk Z N F' H' σ e := S.grow g.f g.h g.le g.nf
theorem SOk.nohave (S : SOk Z N F H σ e) {a : Addr} (h : H a = none) : N.H a = none := by
  cases q : N.H a with
  | none => rfl
  | some o =>
    by_cases m : a ∈ N.M
    · obtain ⟨_, ⟨u, y⟩, _⟩ := S.mh a m
      rw [h] at y; cases y
    · have := S.h0 a o q m
      rw [h] at this; cases this
theorem SOk.rvok (S : SOk Z N F H σ e) (g : Gr F H F' H') {v : V} {r : RV} (n : NwOk Z H F' H' v r) : RvOk Z N F' H' σ e v r := by
  cases r with
  | fz d => exact n
  | nw d =>
    obtain ⟨a, rfl, h, f, t⟩ := n
    refine ⟨a, rfl, f, S.nohave h, t, fun j s hj l => ?_⟩
    obtain ⟨_, u, hu⟩ := S.live hj (l.mono g.f)
    rw [h] at hu; cases hu
  | «at» i => exact n.elim
/-- a new object laid -/
theorem Gr.lay (l : Same F H) {a : Addr} {o : HO} (n : H a = none) : Gr F H F (upd H a o) :=
  ⟨Same.refl _, same_upd n, fun b u h => by rw [upd_ne (ne_of_none (l _ _ h) n)]; exact l _ _ h, fun _ _ _ h => h⟩
theorem none_le (l : Same F H) {a : Addr} (n : H a = none) : F a = none := by
  cases q : F a with
  | none => rfl
  | some o => have := l _ _ q; rw [n] at this; cases this
/-- a new frozen object laid -/
theorem Gr.layF (l : Same F H) {a : Addr} {o : HO} (n : H a = none) : Gr F H (upd F a o) (upd H a o) := by
  have fa := none_le l n
  refine ⟨same_upd fa, same_upd n, fun b u h => ?_, fun b u hb h => ?_⟩
  · by_cases z : b = a
    · subst z; rw [upd_same] at h ⊢; exact h
    · rw [upd_ne z] at h ⊢; exact l _ _ h
  · have z : b ≠ a := ne_of_none hb n
    rw [upd_ne z]; exact h
end

/-! ### readings -/
/-- an exception's class, dict -/
def ExOk (Z : Wd) (F H : Hp) (x : Exn) (cls : Value) (d : Option Addr) : Prop :=
  ∃ C, Z.ca x.c = some C ∧ cls = .ref C ∧ (x.fs = [] → d = none) ∧
    (x.fs ≠ [] → ∃ dd vs, d = some dd ∧ F dd = some (.xd vs) ∧ RpP Z F vs x.fs)
def PostE (Z : Wd) (N : En) (F : Hp) (σ : St) (W : WX) (Q : VK) : RE → Prop
  | .no => False
  | .ok r e => ∀ v F' H', Same F F' → SOk Z N F' H' σ e → RvOk Z N F' H' σ e v r → Q v H'
  | .ex x e => ∀ cls d F' H', Same F F' → SOk Z N F' H' σ e → ExOk Z F' H' x cls d → W cls d σ H'
def tEv (Z : Wd) (W : WX) (f : EV) : TE := fun σ H Q => ∃ N F e, SOk Z N F H σ e ∧ PostE Z N F σ W Q (f e)
def PostT (Z : Wd) (N : En) (F : Hp) (σ : St) (W : WX) (Q : Bool → Hp → Prop) : RT → Prop
  | .no => False
  | .ok b e => ∀ F' H', Same F F' → SOk Z N F' H' σ e → Q b H'
  | .ex x e => ∀ cls d F' H', Same F F' → SOk Z N F' H' σ e → ExOk Z F' H' x cls d → W cls d σ H'
def tTv (Z : Wd) (W : WX) (f : TV) : TT := fun σ H Q => ∃ N F e, SOk Z N F H σ e ∧ PostT Z N F σ W Q (f e)
/-- held while other things are reckoned -/
def Held (Z : Wd) (F : Hp) (σ : St) (v : V) : RV → Prop
  | .fz d => Rp Z F v d
  | .nw d => Rp Z F v d
  | .at i => σ[i]? = some (some v)
/-- argument values -/
inductive Helds (Z : Wd) (F : Hp) (σ : St) : List V → List RV → Prop
  | nil : Helds Z F σ [] []
  | cons {v : V} {vs : List V} {r : RV} {rs : List RV} : Held Z F σ v r → Helds Z F σ vs rs → Helds Z F σ (v :: vs) (r :: rs)
def PostA (Z : Wd) (N : En) (F : Hp) (σ : St) (W : WX) (Q : List V → Hp → Prop) : RA → Prop
  | .no => False
  | .ok rs e => ∀ vs F' H', Same F F' → SOk Z N F' H' σ e → Helds Z F' σ vs rs → Q vs H'
  | .ex x e => ∀ cls d F' H', Same F F' → SOk Z N F' H' σ e → ExOk Z F' H' x cls d → W cls d σ H'
def tAv (Z : Wd) (W : WX) (f : AV) : TA := fun σ H Q => ∃ N F e, SOk Z N F H σ e ∧ PostA Z N F σ W Q (f e)
def PostS (Z : Wd) (N : En) (F : Hp) (W : WX) (E : Ends) : RS → Prop
  | .no => False
  | .nx e => ∀ F' H' σ', Same F F' → SOk Z N F' H' σ' e → E.nx σ' H'
  | .rt r e => ∀ v F' H' σ', Same F F' → SOk Z N F' H' σ' e → RvOk Z N F' H' σ' e v r → E.rt v H'
  | .bk e => ∀ F' H' σ', Same F F' → SOk Z N F' H' σ' e → E.bk σ' H'
  | .ct e => ∀ F' H' σ', Same F F' → SOk Z N F' H' σ' e → E.ct σ' H'
  | .ex x e => ∀ cls d F' H' σ', Same F F' → SOk Z N F' H' σ' e → ExOk Z F' H' x cls d → W cls d σ' H'
def tSv (Z : Wd) (W : WX) (f : SV) : TS := fun E σ H => ∃ N F e, SOk Z N F H σ e ∧ PostS Z N F W E (f e)

/-- the world of a context -/
abbrev zw (ca : Str → Option Addr) (X : Cx) : Wd := ⟨X.prog, X.w, X.K, ca⟩
/-- the text e says f; raises by the wish W -/
abbrev Ev (ca : Str → Option Addr) (W : WX) (X : Cx) (e : Expr) (f : EV) : Prop := PE X e (tEv (zw ca X) W f)
abbrev Tv (ca : Str → Option Addr) (W : WX) (X : Cx) (e : Expr) (f : TV) : Prop := PT X e (tTv (zw ca X) W f)
abbrev Av (ca : Str → Option Addr) (W : WX) (X : Cx) (es : List Expr) (f : AV) : Prop := PA X es (tAv (zw ca X) W f)
abbrev Sv (ca : Str → Option Addr) (W : WX) (X : Cx) (s : Stmt) (f : SV) : Prop := PS X s (tSv (zw ca X) W f)
abbrev Bv (ca : Str → Option Addr) (W : WX) (X : Cx) (s : List Stmt) (f : SV) : Prop := PSs X s (tSv (zw ca X) W f)

theorem PE_imp {X : Cx} {e : Expr} {t t' : TE} (h : PE X e t) (i : ∀ σ H Q, t' σ H Q → t σ H Q) : PE X e t' := ⟨fun p s σ H Q I q => h.run p s σ H Q I (i σ H Q q)⟩
theorem PT_imp {X : Cx} {e : Expr} {t t' : TT} (h : PT X e t) (i : ∀ σ H Q, t' σ H Q → t σ H Q) : PT X e t' := ⟨fun p s σ H Q I q => h.run p s σ H Q I (i σ H Q q)⟩
theorem PW_imp {X : Cx} {e : Expr} {t t' : TT} (h : PW X e t) (i : ∀ σ H Q, t' σ H Q → t σ H Q) : PW X e t' := ⟨fun w p s σ H Q I q => h.run w p s σ H Q I (i σ H Q q)⟩
theorem PA_imp {X : Cx} {e : List Expr} {t t' : TA} (h : PA X e t) (i : ∀ σ H Q, t' σ H Q → t σ H Q) : PA X e t' := ⟨fun w p s σ H Q I q => h.run w p s σ H Q I (i σ H Q q)⟩
theorem PS_imp {X : Cx} {e : Stmt} {t t' : TS} (h : PS X e t) (i : ∀ D σ H, t' D σ H → t D σ H) : PS X e t' := ⟨fun p s σ H D I q => h.run p s σ H D I (i D σ H q)⟩
theorem PSs_imp {X : Cx} {e : List Stmt} {t t' : TS} (h : PSs X e t) (i : ∀ D σ H, t' D σ H → t D σ H) : PSs X e t' := ⟨fun p s σ H D I q => h.run p s σ H D I (i D σ H q)⟩

section
variable {Z : Wd} {W : WX} {F F' H : Hp} {N : En} {σ : St}
theorem PostE.shift {Q : VK} {r : RE} (h : PostE Z N F σ W Q r) (s : Same F F') : PostE Z N F' σ W Q r := by
  cases r with
  | no => exact h
  | ok r e => exact fun v F2 H2 s2 => h v F2 H2 (s.trans s2)
  | ex x e => exact fun c d F2 H2 s2 => h c d F2 H2 (s.trans s2)
theorem PostT.shift {Q : Bool → Hp → Prop} {r : RT} (h : PostT Z N F σ W Q r) (s : Same F F') : PostT Z N F' σ W Q r := by
  cases r with
  | no => exact h
  | ok r e => exact fun F2 H2 s2 => h F2 H2 (s.trans s2)
  | ex x e => exact fun c d F2 H2 s2 => h c d F2 H2 (s.trans s2)
theorem PostA.shift {Q : List V → Hp → Prop} {r : RA} (h : PostA Z N F σ W Q r) (s : Same F F') : PostA Z N F' σ W Q r := by
  cases r with
  | no => exact h
  | ok r e => exact fun v F2 H2 s2 => h v F2 H2 (s.trans s2)
  | ex x e => exact fun c d F2 H2 s2 => h c d F2 H2 (s.trans s2)
theorem PostS.shift {E : Ends} {r : RS} (h : PostS Z N F W E r) (s : Same F F') : PostS Z N F' W E r := by
  cases r with
  | no => exact h
  | nx e => exact fun F2 H2 g s2 => h F2 H2 g (s.trans s2)
  | rt r e => exact fun v F2 H2 g s2 => h v F2 H2 g (s.trans s2)
  | bk e => exact fun F2 H2 g s2 => h F2 H2 g (s.trans s2)
  | ct e => exact fun F2 H2 g s2 => h F2 H2 g (s.trans s2)
  | ex x e => exact fun c d F2 H2 g s2 => h c d F2 H2 g (s.trans s2)

/-- an expression, then something -/
theorem tEv_bind {f : EV} {k : RV → EV} {Q : VK} (h : tEv Z W (eBind f k) σ H Q) :
    tEv Z W f σ H fun v H1 => ∃ N F e r, SOk Z N F H1 σ e ∧ RvOk Z N F H1 σ e v r ∧ PostE Z N F σ W Q (k r e) := by
  obtain ⟨N, F, e, S, P⟩ := h
  refine ⟨N, F, e, S, ?_⟩
  unfold eBind at P
  cases q : f e with
  | no => rw [q] at P; exact P
  | ex x e1 => rw [q] at P; exact P
  | ok r e1 => rw [q] at P; exact fun v F' H' s S' R => ⟨N, F', e1, r, S', R, P.shift s⟩
/-- in the middle -/
theorem post_bind {f : EV} {k : RV → EV} {Q : VK} {e : Env} (S : SOk Z N F H σ e) (P : PostE Z N F σ W Q (eBind f k e)) :
    tEv Z W f σ H fun v H1 => ∃ F' e r, Same F F' ∧ SOk Z N F' H1 σ e ∧ RvOk Z N F' H1 σ e v r ∧ PostE Z N F' σ W Q (k r e) := by
  refine ⟨N, F, e, S, ?_⟩
  unfold eBind at P
  cases q : f e with
  | no => rw [q] at P; exact P
  | ex x e1 => rw [q] at P; exact P
  | ok r e1 => rw [q] at P; exact fun v F' H' s S' R => ⟨F', e1, r, s, S', R, P.shift s⟩
end
end S3

/-! B3: expressions: names, constants, operators, built-ins. -/
namespace S3
open PySem L2
section
variable {Z : Wd} {F F' H H' : Hp} {N : En} {σ : St} {e e' : Env} {v x y : V} {W : WX}

theorem Held.mono {r : RV} (h : Held Z F σ v r) (f : Same F F') : Held Z F' σ v r := by
  cases r with
  | fz d => exact Rp.mono f h
  | nw d => exact Rp.mono f h
  | «at» i => exact h
theorem RvOk.hold (S : SOk Z N F H σ e) {r : RV} (R : RvOk Z N F H σ e v r) : ∃ F', Same F F' ∧ SOk Z N F' H σ e ∧ Held Z F' σ v r := by
  cases r with
  | fz d => exact ⟨F, Same.refl _, S, R⟩
  | nw d =>
    obtain ⟨F', f, S', r⟩ := RvOk.stl (e' := e) S R rfl
    exact ⟨F', f, S', r⟩
  | «at» i => exact ⟨F, Same.refl _, S, R.1⟩
theorem Held.rd (S : SOk Z N F H σ e) {r : RV} {d : D} (h : Held Z F σ v r) (hd : S3.rd r e = some d) : RdV Z F H v d := by
  cases r with
  | fz x => cases hd; exact .inl h
  | nw x => cases hd; exact .inl h
  | «at» i =>
    have hd' : (S3.slot e i).val = some d := hd
    have ne : S3.slot e i ≠ .no := fun z => by rw [z] at hd'; cases hd'
    exact RvOk.rd S (r := .at i) ⟨h, _, slot_get rfl ne, ne⟩ hd
theorem RvOk.held (S : SOk Z N F H σ e) {r : RV} {d : D} (R : RvOk Z N F H σ e v r) (hd : S3.rd r e = some d) : RdV Z F H v d := RvOk.rd S R hd

/-! what a read value is -/
theorem RdV.non (h : RdV Z F H v .non) : v = .non := by
  rcases h with h | ⟨a, _, _, t⟩
  · cases h; rfl
  · exact t.elim
theorem RdV.bl {b : Bool} (h : RdV Z F H v (.bl b)) : v = .bl b := by
  rcases h with h | ⟨a, _, _, t⟩
  · cases h; rfl
  · exact t.elim
theorem RdV.int {i : Int} (h : RdV Z F H v (.int i)) : v = .int i := by
  rcases h with h | ⟨a, _, _, t⟩
  · cases h; rfl
  · exact t.elim
theorem RdV.str {s : Str} (h : RdV Z F H v (.str s)) : v = .str s ∧ s.length ≤ sizeLine ∧ sOk s = true := by
  rcases h with h | ⟨a, _, _, t⟩
  · cases h with
    | str _ z => exact ⟨rfl, by rw [sizeLine_eq]; exact sOk_len z, z⟩
  · exact t.elim
theorem RdV.lst {ds : List D} (l : Same F H) (h : RdV Z F H v (.lst ds)) : ∃ a xs, v = .ref a ∧ H a = some (.lst xs) ∧ RpA Z F xs ds := by
  rcases h with h | ⟨a, rfl, _, xs, t, r⟩
  · cases h with
    | lst k r => exact ⟨_, _, rfl, l _ _ k, r⟩
  · exact ⟨a, xs, rfl, t, r⟩
theorem RdV.tup {ds : List D} (l : Same F H) (h : RdV Z F H v (.tup ds)) : ∃ a xs, v = .ref a ∧ H a = some (.tup xs) ∧ RpA Z F xs ds := by
  rcases h with h | ⟨a, _, _, t⟩
  · cases h with
    | tup k r => exact ⟨_, _, rfl, l _ _ k, r⟩
  · exact t.elim
theorem RdV.dk {ds : List (Key × D)} (l : Same F H) (h : RdV Z F H v (.dk ds)) : ∃ a xs, v = .ref a ∧ H a = some (.dK xs) ∧ RpP Z F xs ds := by
  rcases h with h | ⟨a, rfl, _, xs, t, r⟩
  · cases h with
    | dk k r => exact ⟨_, _, rfl, l _ _ k, r⟩
  · exact ⟨a, xs, rfl, t, r⟩
theorem RdV.dt {ds : List (List Key × D)} (l : Same F H) (h : RdV Z F H v (.dt ds)) : ∃ a xs, v = .ref a ∧ H a = some (.dT xs) ∧ RpP Z F xs ds := by
  rcases h with h | ⟨a, rfl, _, xs, t, r⟩
  · cases h with
    | dt k r => exact ⟨_, _, rfl, l _ _ k, r⟩
  · exact ⟨a, xs, rfl, t, r⟩
theorem RdV.st {ks : List Key} (l : Same F H) (h : RdV Z F H v (.st ks)) : ∃ a, v = .ref a ∧ H a = some (SetGO Z.P Z.w a ks) ∧ kOk ks := by
  rcases h with h | ⟨a, rfl, _, t, r⟩
  · cases h with
    | st k r => exact ⟨_, rfl, l _ _ k, r⟩
  · exact ⟨a, rfl, t, r⟩
theorem RdV.obj {c : Str} {ds : List (Str × D)} (l : Same F H) (h : RdV Z F H v (.obj c ds)) : ∃ a C dx xs, v = .ref a ∧ Z.ca c = some C ∧ H a = some (.ins C dx xs) ∧ RpP Z F xs ds := by
  rcases h with h | ⟨a, rfl, _, C, dx, xs, c, t, r⟩
  · cases h with
    | obj c k r => exact ⟨_, _, _, _, rfl, c, l _ _ k, r⟩
  · exact ⟨a, C, dx, xs, rfl, c, t, r⟩
theorem RpA.length : ∀ {vs : List V} {ds : List D}, RpA Z F vs ds → vs.length = ds.length
  | _, _, .nil => rfl
  | _, _, .cons _ r => congrArg Nat.succ r.length
theorem RpA.get : ∀ {vs : List V} {ds : List D} {i : Nat} {d : D}, RpA Z F vs ds → ds[i]? = some d → ∃ v, vs[i]? = some v ∧ Rp Z F v d
  | _, _, _, _, .nil, h => by simp at h
  | _, _, 0, _, .cons h _, q => by simp at q; subst q; exact ⟨_, rfl, h⟩
  | _, _, i + 1, _, .cons _ r, q => by
    obtain ⟨v, h1, h2⟩ := RpA.get (i := i) r (by simpa using q)
    exact ⟨v, by simpa using h1, h2⟩
theorem RpA.append : ∀ {vs ws : List V} {ds es : List D}, RpA Z F vs ds → RpA Z F ws es → RpA Z F (vs ++ ws) (ds ++ es)
  | _, _, _, _, .nil, s => s
  | _, _, _, _, .cons h r, s => .cons h (r.append s)
theorem RpA.drop : ∀ {vs : List V} {ds : List D} (n : Nat), RpA Z F vs ds → RpA Z F (vs.drop n) (ds.drop n)
  | _, _, 0, r => r
  | _, _, _ + 1, .nil => .nil
  | _, _, n + 1, .cons _ r => r.drop n
theorem RpA.take : ∀ {vs : List V} {ds : List D} (n : Nat), RpA Z F vs ds → RpA Z F (vs.take n) (ds.take n)
  | _, _, 0, _ => .nil
  | _, _, _ + 1, .nil => .nil
  | _, _, n + 1, .cons h r => .cons h (r.take n)
theorem RpA.reverse : ∀ {vs : List V} {ds : List D}, RpA Z F vs ds → RpA Z F vs.reverse ds.reverse
  | _, _, .nil => .nil
  | _, _, .cons h r => by rw [List.reverse_cons, List.reverse_cons]; exact r.reverse.append (.cons h .nil)
theorem RpA.set : ∀ {vs : List V} {ds : List D} (i : Nat) {v : V} {d : D}, RpA Z F vs ds → Rp Z F v d → RpA Z F (vs.set i v) (ds.set i d)
  | _, _, _, _, _, .nil, _ => .nil
  | _, _, 0, _, _, .cons _ r, h => .cons h r
  | _, _, i + 1, _, _, .cons h r, q => .cons h (r.set i q)
theorem RpA.dropLast {vs : List V} {ds : List D} (r : RpA Z F vs ds) : RpA Z F vs.dropLast ds.dropLast := by
  rw [List.dropLast_eq_take, List.dropLast_eq_take, r.length]
  exact r.take _
theorem RpA.atI {vs : List V} {ds : List D} {i : Int} {d : D} (r : RpA Z F vs ds) (h : atI ds i = some d) : ∃ v, atI vs i = some v ∧ Rp Z F v d := by
  unfold L2.atI at h ⊢
  rw [r.length]
  cases q : ixN ds.length i with
  | none => rw [q] at h; cases h
  | some j => rw [q] at h; exact r.get (i := j) h

/-! ### readings of two values, of one -/
abbrev R1 := V → Hp → VK → Prop
def Sound2 (Z : Wd) (r : V → V → Hp → VK → Prop) (op : D → D → Option RV) : Prop :=
  ∀ F H x y dx dy rr Q, Same F H → RdV Z F H x dx → RdV Z F H y dy → op dx dy = some rr → (∀ v F' H', Gr F H F' H' → NwOk Z H F' H' v rr → Q v H') → r x y H Q
def Sound1 (Z : Wd) (r : V → Hp → VK → Prop) (op : D → Option RV) : Prop :=
  ∀ F H x dx rr Q, Same F H → RdV Z F H x dx → op dx = some rr → (∀ v F' H', Gr F H F' H' → NwOk Z H F' H' v rr → Q v H') → r x H Q
/-- the end of an operation -/
theorem op_end {rr : RV} {Q : VK} (S : SOk Z N F H σ e) (P : PostE Z N F σ W Q (.ok rr e)) (v : V) (F' H' : Hp) (g : Gr F H F' H') (n : NwOk Z H F' H' v rr) : Q v H' :=
  P v F' H' g.f (S.gr g) (S.rvok g n)
/-- a first expression, then what the rest asks -/
theorem bindL {f : EV} {k : RV → EV} {Q R : VK} (S : SOk Z N F H σ e) (P : PostE Z N F σ W Q (eBind f k e))
    (K : ∀ x F1 H1 e1 r, Same F F1 → SOk Z N F1 H1 σ e1 → RvOk Z N F1 H1 σ e1 x r → PostE Z N F1 σ W Q (k r e1) → R x H1) : tEv Z W f σ H R := by
  unfold eBind at P
  refine ⟨N, F, e, S, ?_⟩
  cases q : f e with
  | no => rw [q] at P; exact P
  | ex z e1 => rw [q] at P; exact P
  | ok r e1 => rw [q] at P; exact fun x F1 H1 f1 S1 R1 => K x F1 H1 e1 r f1 S1 R1 (PostE.shift (r := k r e1) P f1)
/-- an int, then what the rest asks -/
theorem bindI {f : EV} {k : RV → EV} {Q R : VK} (S : SOk Z N F H σ e) (P : PostE Z N F σ W Q (eBind (eI f) k e))
    (K : ∀ i F1 H1 e1, Same F F1 → SOk Z N F1 H1 σ e1 → PostE Z N F1 σ W Q (k (.fz (.int i)) e1) → R (.int i) H1) : tEv Z W f σ H R := by
  unfold eI eBind at P
  refine ⟨N, F, e, S, ?_⟩
  cases q : f e with
  | no => rw [q] at P; exact P
  | ex z e1 => rw [q] at P; exact P
  | ok r e1 =>
    rw [q] at P
    cases r with
    | fz d =>
      cases d with
      | int i =>
        intro x F1 H1 f1 S1 R1
        have ex : x = .int i := RdV.int (H := H1) (.inl R1)
        subst ex
        exact K i F1 H1 e1 f1 S1 (PostE.shift (r := k (.fz (.int i)) e1) P f1)
      | _ => exact P.elim
    | _ => exact P.elim
theorem two {r : V → V → Hp → VK → Prop} {op : D → D → Option RV} (hs : Sound2 Z r op) {fa fb : EV} {Q : VK} (h : tEv Z W (eOp2 op fa fb) σ H Q) :
    tEv Z W fa σ H fun x H1 => tEv Z W fb σ H1 fun y H2 => r x y H2 Q := by
  obtain ⟨N, F, e, S, P⟩ := h
  refine bindL S P fun x F1 H1 e1 ra f1 S1 R1 P1 => ?_
  obtain ⟨F2, f2, S2, h2⟩ := RvOk.hold S1 R1
  refine bindL S2 (PostE.shift P1 f2) fun y F3 H3 e3 rb f3 T3 R3 P3 => ?_
  obtain ⟨F4, f4, S4, h4⟩ := RvOk.hold T3 R3
  have P4 := PostE.shift P3 f4
  have g2 := (h2.mono f3).mono f4
  cases d1 : S3.rd ra e3 with
  | none => rw [d1] at P4; exact P4.elim
  | some dx =>
    cases d2 : S3.rd rb e3 with
    | none => rw [d1, d2] at P4; exact P4.elim
    | some dy =>
      rw [d1, d2] at P4
      dsimp only at P4
      cases d3 : op dx dy with
      | none => rw [d3] at P4; exact P4.elim
      | some rr =>
        rw [d3] at P4
        exact hs F4 H3 x y dx dy rr Q S4.le (g2.rd S4 d1) (h4.rd S4 d2) d3 (op_end S4 P4)
theorem one {r : V → Hp → VK → Prop} {op : D → Option RV} (hs : Sound1 Z r op) {fa : EV} {Q : VK} (h : tEv Z W (eOp1 op fa) σ H Q) :
    tEv Z W fa σ H fun x H1 => r x H1 Q := by
  obtain ⟨N, F, e, S, P⟩ := h
  refine bindL S P fun x F1 H1 e1 ra f1 S1 R1 P1 => ?_
  obtain ⟨F2, f2, S2, h2⟩ := RvOk.hold S1 R1
  have P2 := PostE.shift P1 f2
  cases d1 : S3.rd ra e1 with
  | none => rw [d1] at P2; exact P2.elim
  | some dx =>
    rw [d1] at P2
    dsimp only at P2
    cases d3 : op dx with
    | none => rw [d3] at P2; exact P2.elim
    | some rr =>
      rw [d3] at P2
      exact hs F2 H1 x dx rr Q S2.le (h2.rd S2 d1) d3 (op_end S2 P2)
end
end S3

/-! B4: expressions: names, constants, operators. -/
namespace S3
open PySem L2
section
variable {Z : Wd} {F F' H H' : Hp} {N : En} {σ : St} {e e' : Env} {v x y : V} {W : WX}
theorem slot_rd {i : Nat} {Q : VK} (h : tEv Z W (eSlot i) σ H Q) : tVar i σ H Q := by
  obtain ⟨N, F, e, S, P⟩ := h
  unfold eSlot at P
  have key : ∀ s, S3.slot e i = s → s ≠ .no → ∃ v, σ[i]? = some (some v) ∧ RvOk Z N F H σ e v (.at i) ∧ SlOk Z N F H (some v) s := fun s hs hn => by
    have g := slot_get hs hn
    obtain ⟨o, h1, h2⟩ := S.slot i s g
    have : ∃ v, o = some v := by
      cases s with
      | no => exact (hn rfl).elim
      | fz d => obtain ⟨v, e, _⟩ := h2; exact ⟨v, e⟩
      | ow d => obtain ⟨v, e, _⟩ := h2; exact ⟨_, e⟩
      | bo d => obtain ⟨v, e, _⟩ := h2; exact ⟨v, e⟩
      | mu d => obtain ⟨v, e, _⟩ := h2; exact ⟨_, e⟩
    obtain ⟨v, rfl⟩ := this
    exact ⟨v, h1, ⟨h1, s, g, hn⟩, h2⟩
  cases q : S3.slot e i with
  | no => rw [q] at P; exact P.elim
  | fz d =>
    obtain ⟨v, h1, _, w, e1, r⟩ := key _ q (by intro z; cases z)
    cases e1
    rw [q] at P
    exact ⟨v, h1, P v F H (Same.refl _) S r⟩
  | ow d =>
    obtain ⟨v, h1, h2, _⟩ := key _ q (by intro z; cases z)
    rw [q] at P
    exact ⟨v, h1, P v F H (Same.refl _) S h2⟩
  | bo d =>
    obtain ⟨v, h1, h2, _⟩ := key _ q (by intro z; cases z)
    rw [q] at P
    exact ⟨v, h1, P v F H (Same.refl _) S h2⟩
  | mu d =>
    obtain ⟨v, h1, h2, _⟩ := key _ q (by intro z; cases z)
    rw [q] at P
    exact ⟨v, h1, P v F H (Same.refl _) S h2⟩
theorem const_rd {d : D} {v : V} {Q : VK} (r : ∀ F, Rp Z F v d) (h : tEv Z W (eC d) σ H Q) : tC v σ H Q := by
  obtain ⟨N, F, e, S, P⟩ := h
  exact P v F H (Same.refl _) S (r F)
end

section
variable {ca : Str → Option Addr} {W : WX} {X : Cx} {a b c : Expr} {fa fb fc : EV} {pos : Pos}
/-! ### names and constants -/
theorem ev_slot (i : Nat) {x : Str} {pos : Pos} (hN : X.N[i]? = some x := by rfl) (hv : Vis X.env.scope x := by first | exact Or.inl rfl | exact Or.inr (Or.inl rfl) | exact Or.inr (Or.inr rfl)) (hd : (x == ("__debug__" : Str)) = false := by decide)
    (hcd : (x == ("__classdict__" : Str)) = false := by decide) : Ev ca W X (.Name x pos) (eSlot i) := PE_imp (pe_var hN hv hd hcd) fun _ _ _ => slot_rd
theorem ev_int {i : Int} {j : Nat} : Ev ca W X (.Constant (.int i) j pos) (eC (.int i)) := PE_imp pe_int fun _ _ _ => const_rd fun _ => .int i
theorem ev_bl {b : Bool} {j : Nat} : Ev ca W X (.Constant (.bool b) j pos) (eC (.bl b)) := PE_imp pe_bl fun _ _ _ => const_rd fun _ => .bl b
theorem ev_non {j : Nat} : Ev ca W X (.Constant .none j pos) (eC .non) := PE_imp pe_non fun _ _ _ => const_rd fun _ => .non
theorem ev_str {x : Str} {j : Nat} (hz : sOk x = true := by decide +kernel) : Ev ca W X (.Constant (.str x) j pos) (eC (.str x)) := PE_imp pe_str fun _ _ _ => const_rd fun _ => .str x hz
/-- a constant of the module -/
theorem ev_glob {x : Str} {v : V} {u : Value} {d : D} (hg : Gl X x) (hm : X.mg x = some u) (r : RelV v u) (rp : ∀ F, Rp (zw ca X) F v d) (hd : (x == ("__debug__" : Str)) = false := by decide) : Ev ca W X (.Name x pos) (eC d) :=
  PE_imp (pe_glob hg hm r hd) fun _ _ _ => const_rd rp

/-! ### operators -/
theorem ev_bin {op : Operator} {r : V → V → Hp → VK → Prop} {o : D → D → Option RV} (ho : OpR X (binaryOp op) r) (hs : Sound2 (zw ca X) r o) (ha : Ev ca W X a fa) (hb : Ev ca W X b fb) : Ev ca W X (.BinOp a op b pos) (eOp2 o fa fb) :=
  PE_imp (pe_op ho ha hb) fun _ _ _ => two hs
theorem ev_cmp {op : CmpOp} {r : V → V → Hp → VK → Prop} {o : D → D → Option RV} (ho : OpR X (compareOp op) r) (hs : Sound2 (zw ca X) r o) (ha : Ev ca W X a fa) (hb : Ev ca W X b fb) (hm : behindInMarks op b = false) : Ev ca W X (.Compare a [op] [b] pos) (eOp2 o fa fb) :=
  PE_imp (pe_cmpR ho ha hb hm) fun _ _ _ => two hs
theorem ev_un {op : UnaryOp} {r : V → Hp → VK → Prop} {o : D → Option RV} (ho : UnR X (unaryOp op) r) (hs : Sound1 (zw ca X) r o) (ha : Ev ca W X a fa) : Ev ca W X (.UnaryOp op a pos) (eOp1 o fa) :=
  PE_imp (pe_un ho ha) fun _ _ _ => one hs
end

/-! ### what the operators give -/
section
variable {Z : Wd} {r r' : V → V → Hp → VK → Prop}
/-- a frozen value at the heap as it is -/
theorem fin_fz {F H : Hp} {Q : VK} {d : D} {v : V} (l : Same F H) (q : ∀ v F' H', Gr F H F' H' → NwOk Z H F' H' v (.fz d) → Q v H') (r : Rp Z F v d) : Q v H := q v F H (Gr.refl l) r
theorem fin_int {F H : Hp} {Q : VK} {i : Int} (l : Same F H) (q : ∀ v F' H', Gr F H F' H' → NwOk Z H F' H' v (.fz (.int i)) → Q v H') : Q (.int i) H := fin_fz l q (.int i)
theorem fin_bl {F H : Hp} {Q : VK} {i : Bool} (l : Same F H) (q : ∀ v F' H', Gr F H F' H' → NwOk Z H F' H' v (.fz (.bl i)) → Q v H') : Q (.bl i) H := fin_fz l q (.bl i)
/-- a new list -/
theorem fin_lst {F H : Hp} {Q : VK} {ds : List D} {xs : List V} (l : Same F H) (q : ∀ v F' H', Gr F H F' H' → NwOk Z H F' H' v (.nw (.lst ds)) → Q v H') (r : RpA Z F xs ds) : ∀ p, H p = none → Q (.ref p) (upd H p (.lst xs)) := fun p hp =>
  q (.ref p) F _ (Gr.lay l hp) ⟨p, rfl, hp, none_le l hp, xs, upd_same, r⟩
theorem fin_tup {F H : Hp} {Q : VK} {ds : List D} {xs : List V} (l : Same F H) (q : ∀ v F' H', Gr F H F' H' → NwOk Z H F' H' v (.fz (.tup ds)) → Q v H') (r : RpA Z F xs ds) : ∀ p, H p = none → Q (.ref p) (upd H p (.tup xs)) := fun p hp =>
  q (.ref p) (upd F p (.tup xs)) _ (Gr.layF l hp) (.tup upd_same (r.mono (same_upd (none_le l hp))))
theorem some_inj {α : Type} {x y : α} (h : some x = some y) : x = y := Option.some.inj h

theorem s_intop {g : Int → Int → Int} {C : Int → Int → Prop} {op : D → D → Option RV} (h : ∀ i j rr, op (.int i) (.int j) = some rr → C i j ∧ rr = .fz (.int (g i j))) :
    ∀ F H x y i j rr Q, Same F H → RdV Z F H x (.int i) → RdV Z F H y (.int j) → op (.int i) (.int j) = some rr → (∀ v F' H', Gr F H F' H' → NwOk Z H F' H' v rr → Q v H') → rI C (fun i j => .int (g i j)) x y H Q := by
  intro F H x y i j rr Q l hx hy ho q
  obtain ⟨c, rfl⟩ := h i j rr ho
  exact ⟨i, j, hx.int, hy.int, c, fin_int l q⟩
theorem op_case {op : D → D → Option RV} {dx dy : D} {rr : RV} {P : Prop} (h : op dx dy = some rr) (k : ∀ i j, dx = .int i → dy = .int j → P) (n : (∀ i j, ¬ (dx = .int i ∧ dy = .int j)) → op dx dy = none) : P := by
  by_cases c : ∃ i j, dx = .int i ∧ dy = .int j
  · obtain ⟨i, j, e1, e2⟩ := c
    exact k i j e1 e2
  · rw [n fun i j z => c ⟨i, j, z⟩] at h
    cases h

theorem s_sub : Sound2 Z (rI0 fun i j => .int (i - j)) opSub := by
  intro F H x y dx dy rr Q l hx hy ho q
  cases dx <;> cases dy <;> simp only [opSub] at ho <;> try cases ho
  exact ⟨_, _, hx.int, hy.int, fin_int l q⟩
theorem s_mod : Sound2 Z (rI (fun _ j => 0 < j) fun i j => .int (i % j)) opMod := by
  intro F H x y dx dy rr Q l hx hy ho q
  cases dx <;> cases dy <;> simp only [opMod] at ho <;> try cases ho
  split at ho
  · cases ho; exact ⟨_, _, hx.int, hy.int, by assumption, fin_int l q⟩
  · cases ho
theorem s_div : Sound2 Z (rI CDiv fun i j => .int (i / j)) opDiv := by
  intro F H x y dx dy rr Q l hx hy ho q
  cases dx <;> cases dy <;> simp only [opDiv] at ho <;> try cases ho
  split at ho
  · cases ho; exact ⟨_, _, hx.int, hy.int, by assumption, fin_int l q⟩
  · cases ho
theorem s_pow : Sound2 Z (rI CPow fun i j => .int (i ^ j.toNat)) opPow := by
  intro F H x y dx dy rr Q l hx hy ho q
  cases dx <;> cases dy <;> simp only [opPow] at ho <;> try cases ho
  split at ho
  · cases ho; exact ⟨_, _, hx.int, hy.int, by assumption, fin_int l q⟩
  · cases ho
theorem s_shr : Sound2 Z (rI (fun _ j => 0 ≤ j) fun i j => .int (i / 2 ^ j.toNat)) opShr := by
  intro F H x y dx dy rr Q l hx hy ho q
  cases dx <;> cases dy <;> simp only [opShr] at ho <;> try cases ho
  split at ho
  · cases ho; exact ⟨_, _, hx.int, hy.int, by assumption, fin_int l q⟩
  · cases ho
/-- a comparison of two ints, or of two strings -/
def rCmpA (f : Int → Int → Bool) (g : Str → Str → Bool) : V → V → Hp → VK → Prop := fun x y H Q => rI0 (fun i j => .bl (f i j)) x y H Q ∨ ∃ i j, x = .str i ∧ y = .str j ∧ Q (.bl (g i j)) H
theorem op_ltA {X : Cx} : OpR X (compareOp .Lt) (rCmpA (fun i j => decide (i < j)) fun i j => decide (i.cps.toList < j.cps.toList)) := op_lt.or op_lt_str
theorem op_leA {X : Cx} : OpR X (compareOp .LtE) (rCmpA (fun i j => decide (i ≤ j)) fun i j => !decide (j.cps.toList < i.cps.toList)) := op_le.or op_le_str
theorem op_gtA {X : Cx} : OpR X (compareOp .Gt) (rCmpA (fun i j => decide (j < i)) fun i j => decide (j.cps.toList < i.cps.toList)) := op_gt.or op_gt_str
theorem op_geA {X : Cx} : OpR X (compareOp .GtE) (rCmpA (fun i j => decide (j ≤ i)) fun i j => !decide (i.cps.toList < j.cps.toList)) := op_ge.or op_ge_str
theorem s_lt : Sound2 Z (rCmpA (fun i j => decide (i < j)) fun i j => decide (i.cps.toList < j.cps.toList)) opLt := by
  intro F H x y dx dy rr Q l hx hy ho q
  cases dx <;> cases dy <;> simp only [opLt] at ho <;> cases ho
  · exact .inl ⟨_, _, hx.int, hy.int, fin_bl l q⟩
  · exact .inr ⟨_, _, hx.str.1, hy.str.1, fin_bl l q⟩
theorem s_le : Sound2 Z (rCmpA (fun i j => decide (i ≤ j)) fun i j => !decide (j.cps.toList < i.cps.toList)) opLe := by
  intro F H x y dx dy rr Q l hx hy ho q
  cases dx <;> cases dy <;> simp only [opLe] at ho <;> cases ho
  · exact .inl ⟨_, _, hx.int, hy.int, fin_bl l q⟩
  · exact .inr ⟨_, _, hx.str.1, hy.str.1, fin_bl l q⟩
theorem s_gt : Sound2 Z (rCmpA (fun i j => decide (j < i)) fun i j => decide (j.cps.toList < i.cps.toList)) opGt := by
  intro F H x y dx dy rr Q l hx hy ho q
  cases dx <;> cases dy <;> simp only [opGt] at ho <;> cases ho
  · exact .inl ⟨_, _, hx.int, hy.int, fin_bl l q⟩
  · exact .inr ⟨_, _, hx.str.1, hy.str.1, fin_bl l q⟩
theorem s_ge : Sound2 Z (rCmpA (fun i j => decide (j ≤ i)) fun i j => !decide (i.cps.toList < j.cps.toList)) opGe := by
  intro F H x y dx dy rr Q l hx hy ho q
  cases dx <;> cases dy <;> simp only [opGe] at ho <;> cases ho
  · exact .inl ⟨_, _, hx.int, hy.int, fin_bl l q⟩
  · exact .inr ⟨_, _, hx.str.1, hy.str.1, fin_bl l q⟩
theorem s_neg : Sound1 Z (rU fun i => .int (-i)) opNeg := by
  intro F H x dx rr Q l hx ho q
  cases dx <;> simp only [opNeg] at ho <;> cases ho
  exact ⟨_, hx.int, fin_int l q⟩
/-! a + b -/
def rAddA (K : PySem.W.Frag) : V → V → Hp → VK → Prop := fun x y H Q => rI0 (fun i j => .int (i + j)) x y H Q ∨ (∃ i j, x = .str i ∧ y = .str j ∧ i.length + j.length ≤ sizeLine ∧ Q (.str (i ++ j)) H) ∨ rCat x y H Q ∨ rCatA K x y H Q
theorem op_addA {X : Cx} : OpR X (binaryOp .Add) (rAddA X.K) := op_add.or (op_add_str.or (op_cat.or op_catA))
theorem str_len (x y : Str) : (x ++ y).length = x.length + y.length := by
  show (x.cps ++ y.cps).size = _
  rw [Array.size_append]
  rfl
theorem s_add : Sound2 Z (rAddA Z.K) opAdd := by
  intro F H x y dx dy rr Q l hx hy ho q
  cases dx <;> cases dy <;> simp only [opAdd] at ho <;> try (cases ho; done)
  · cases ho; exact .inl ⟨_, _, hx.int, hy.int, fin_int l q⟩
  · split at ho
    · rename_i h
      cases ho
      refine .inr (.inl ⟨_, _, hx.str.1, hy.str.1, by rw [sizeLine_eq]; exact h, ?_⟩)
      exact fin_fz l q (.str _ (sOk_of (by rw [str_len]; exact h) (by show (_ ++ _ : Array Nat).all _ = true; rw [Array.all_append, sOk_cps hx.str.2.2, sOk_cps hy.str.2.2]; rfl)))
    · cases ho
  · split at ho
    · rename_i h
      cases ho
      obtain ⟨a, xs, rfl, ha, ra⟩ := hx.lst l
      obtain ⟨b, ys, rfl, hb, rb⟩ := hy.lst l
      exact .inr (.inr (.inl ⟨a, b, xs, ys, rfl, rfl, ha, hb, by rw [sizeLine_eq, ra.length, rb.length]; exact h, fin_lst l q (ra.append rb)⟩))
    · cases ho
  · split at ho
    · rename_i h
      cases ho
      have hx' : Rp Z F x (.tup _) := hx.elim id fun ⟨_, _, _, t⟩ => t.elim
      have hy' : Rp Z F y (.tup _) := hy.elim id fun ⟨_, _, _, t⟩ => t.elim
      obtain ⟨a, xs, rfl, ha, ra⟩ := hx.tup l
      obtain ⟨b, ys, rfl, hb, rb⟩ := hy.tup l
      refine .inr (.inr (.inr ⟨a, b, xs, ys, rfl, rfl, SqT.of ha, SqT.of hb, by rw [sizeLine_eq, ra.length, rb.length]; exact h, fun z => ?_, fun _ z => ?_, fun _ _ p hp => ?_⟩))
      · subst z; cases ra; exact fin_fz l q hy'
      · subst z; cases rb
        rw [List.append_nil] at q
        exact fin_fz l q hx'
      · exact q (.ref p) _ _ (Gr.layF l hp) (.tup upd_same ((ra.append rb).mono (same_upd (none_le l hp))))
    · cases ho
theorem notLongS {n : Nat} (h : n ≤ 1000000) : PySem.Builtin.Str.tooLong n = false := by
  unfold PySem.Builtin.Str.tooLong
  rw [decide_eq_false]
  rw [sizeLine_eq]
  omega
theorem fold_rep (x : Array Nat) : ∀ (k : Nat) (acc : Array Nat), (List.replicate k x).foldl (· ++ ·) acc = acc ++ (List.replicate k x.toList).flatten.toArray
  | 0, acc => by simp
  | k + 1, acc => by
    rw [List.replicate_succ, List.foldl_cons, fold_rep x k, List.replicate_succ, List.flatten_cons]
    apply Array.ext'
    simp
theorem strRep_zero {x : Str} {n : Int} (h : n < 1) : strRep x n = Str.empty := by
  unfold strRep
  rw [show n.toNat = 0 by omega]
  rfl
theorem strRep_one {x : Str} : strRep x 1 = x := by
  unfold strRep
  obtain ⟨c⟩ := x
  simp
theorem strRep_nil {x : Str} {n : Int} (h : x.length = 0) : strRep x n = x := by
  obtain ⟨c⟩ := x
  have e : c = #[] := Array.eq_empty_of_size_eq_zero h
  subst e
  unfold strRep
  have : ∀ k : Nat, (List.replicate k ([] : List Nat)).flatten = [] := fun k => by induction k with
    | zero => rfl
    | succ k ih => rw [List.replicate_succ, List.flatten_cons, ih]; rfl
  simp [this]
theorem strRep_len (x : Str) (n : Int) : (strRep x n).length = n.toNat * x.length := by
  unfold strRep
  show (List.flatten _).toArray.size = _
  rw [List.size_toArray, List.length_flatten, List.map_replicate, List.sum_replicate_nat]
  rfl
theorem strRep_ok {x : Str} {n : Int} (h : sOk x = true) (h1 : n ≤ 1000) (h2 : x.length ≤ 1000) : sOk (strRep x n) = true := by
  refine sOk_of ?_ ?_
  · rw [strRep_len]
    have : n.toNat ≤ 1000 := by omega
    exact Nat.le_trans (Nat.mul_le_mul this h2) (by decide)
  · have q := sOk_cps h
    unfold strRep
    simp only [List.all_toArray]
    rw [List.all_eq_true] 
    intro c hc
    obtain ⟨l, hl, hcl⟩ := List.mem_flatten.mp hc
    have := List.eq_of_mem_replicate hl
    subst this
    exact Array.all_eq_true_iff_forall_mem.mp q c (Array.mem_toList_iff.mp hcl)
theorem op_mulS {X : Cx} : OpR X (binaryOp .Mult) (fun x y H Q => ∃ i n, x = .str i ∧ y = .int n ∧ (-1000 ≤ n ∧ n ≤ 1000 ∧ i.length ≤ 1000) ∧ Q (.str (strRep i n)) H) := by
  intro pins s σ H x y v u Q I rx ry h
  obtain ⟨i, n, rfl, rfl, ⟨h1, h2, h3⟩, q⟩ := h
  obtain ⟨t, rfl⟩ := rx
  obtain ⟨t', rfl⟩ := ry
  have fin : ∀ (tk : Tok) (s' : Shared), Inv X pins σ H s' → EP X pins σ Q (.str (strRep i n) tk) s' := fun tk s' I' => ⟨.str (strRep i n), H, I', ⟨tk, rfl⟩, q⟩
  have z1 : i.length * n.toNat ≤ 1000000 := Nat.mul_le_mul h3 (show n.toNat ≤ 1000 by omega)
  refine PySem.P.mul_str (by rw [decide_eq_false (by omega), decide_eq_false (by omega)]; rfl) (fun h4 _ => ?_) (fun h4 _ => ?_) ?_
  · have : (1000 : Int) ≤ (2 ^ 63 - 1) / n := by
      rw [Int.le_ediv_iff_mul_le (by omega)]
      omega
    omega
  · exact notLongS z1
  · by_cases c1 : n < 1
    · rw [if_pos c1]
      have e := strRep_zero (x := i) c1
      refine ⟨by decide, ?_⟩
      rw [← e]
      exact fin _ _ (I.tok _)
    · rw [if_neg c1]
      by_cases c2 : (n == 1 || i.length == 0) = true
      · rw [if_pos c2]
        have e : strRep i n = i := by
          rw [Bool.or_eq_true, beq_iff_eq, beq_iff_eq] at c2
          rcases c2 with rfl | c2
          · exact strRep_one
          · exact strRep_nil c2
        have f := fin t s I
        rw [e] at f
        exact f
      · rw [if_neg c2]
        have e : (⟨(List.replicate n.toNat i.cps).foldl (· ++ ·) #[]⟩ : Str) = strRep i n := by
          unfold strRep
          rw [fold_rep]
          simp
        rw [e]
        refine ⟨?_, fin _ _ (I.tok _)⟩
        rw [strRep_len, Nat.mul_comm, sizeLine_eq]
        omega
def rMulA : V → V → Hp → VK → Prop := fun x y H Q => rI CMul (fun i j => .int (i * j)) x y H Q ∨ ∃ i n, x = .str i ∧ y = .int n ∧ (-1000 ≤ n ∧ n ≤ 1000 ∧ i.length ≤ 1000) ∧ Q (.str (strRep i n)) H
theorem op_mulA {X : Cx} : OpR X (binaryOp .Mult) rMulA := op_mul.or op_mulS
theorem s_mul : Sound2 Z rMulA opMul := by
  intro F H x y dx dy rr Q l hx hy ho q
  cases dx <;> cases dy <;> simp only [opMul] at ho <;> try (cases ho; done)
  · split at ho
    · cases ho; exact .inl ⟨_, _, hx.int, hy.int, by assumption, fin_int l q⟩
    · cases ho
  · split at ho
    · rename_i h
      cases ho
      exact .inr ⟨_, _, hx.str.1, hy.int, h, fin_fz l q (.str _ (strRep_ok hx.str.2.2 h.2.1 h.2.2))⟩
    · cases ho

/-! plain data -/
theorem okD_flat {n : Nat} : ∀ {d : D}, okD 0 d = true → okD n d = true := by
  intro d h
  cases d <;> simp [okD] at h <;> cases n <;> rfl
theorem dp_of {K : PySem.W.Frag} {H : Hp} (hK : Z.K = K) : ∀ (n : Nat) {F : Hp} {v : V} {d : D}, Same F H → okD n d = true → RdV Z F H v d → Dp K H v (py n d) := by
  subst hK
  intro n
  induction n with
  | zero =>
    intro F v d l o h
    cases d <;> simp [okD] at o
    · rw [h.non]; exact .non
    · rw [h.bl]; exact .bl _
    · rw [h.int]; exact .int _
    · rw [h.str.1]; exact .str _
  | succ n ih =>
    intro F v d l o h
    have all : ∀ {vs : List V} {ds : List D}, RpA Z F vs ds → ds.all (okD n) = true → DpAll Z.K H vs (ds.map (py n)) := by
      intro vs ds r
      induction ds generalizing vs with
      | nil => intro _; cases r; exact .nil
      | cons d ds ihd =>
        intro q
        cases r with
        | cons r1 r2 =>
          rw [List.all_cons, Bool.and_eq_true] at q
          exact .cons (ih l q.1 (.inl r1)) (ihd r2 q.2)
    cases d <;> simp only [okD] at o <;> try (cases o; done)
    · rw [h.non]; exact .non
    · rw [h.bl]; exact .bl _
    · rw [h.int]; exact .int _
    · rw [h.str.1]; exact .str _
    · obtain ⟨a, xs, rfl, ha, ra⟩ := h.lst l
      exact .lst (SqL.of ha) (all ra o)
    · obtain ⟨a, xs, rfl, ha, ra⟩ := h.tup l
      exact .tup (SqT.of ha) (all ra o)
theorem py_depth : ∀ (n : Nat) (d : D), okD n d = true → (py n d).depth ≤ n := by
  intro n
  induction n with
  | zero => intro d o; cases d <;> simp [okD] at o <;> simp [py, PyData.depth]
  | succ n ih =>
    intro d o
    have all : ∀ ds : List D, ds.all (okD n) = true → PyData.depthAll (ds.map (py n)) ≤ n := by
      intro ds
      induction ds with
      | nil => intro _; simp [PyData.depthAll]
      | cons d ds ihd =>
        intro q
        rw [List.all_cons, Bool.and_eq_true] at q
        have h2 := ih d q.1
        have h4 := ihd q.2
        simp only [List.map_cons, PyData.depthAll]
        omega
    cases d <;> simp only [okD] at o <;> try (cases o; done)
    case lst xs => have h2 := all _ o; simp only [py, PyData.depth]; omega
    case tup xs => have h2 := all _ o; simp only [py, PyData.depth]; omega
    all_goals simp [py, PyData.depth]
theorem py_lay {F H : Hp} (l : Same F H) : ∀ (n : Nat) {v : V} {d : D}, okD n d = true → RdV Z F H v d → (py n d).canLay0 = true := by
  intro n
  induction n with
  | zero =>
    intro v d o h
    cases d <;> simp [okD] at o <;> simp [py, PyData.canLay0]
    exact sOk_cps h.str.2.2
  | succ n ih =>
    intro v d o h
    have all : ∀ {vs : List V} {ds : List D}, RpA Z F vs ds → ds.all (okD n) = true → PyData.canLayAll0 (ds.map (py n)) = true := by
      intro vs ds r
      induction ds generalizing vs with
      | nil => intro _; simp [PyData.canLayAll0]
      | cons d ds ihd =>
        intro q
        cases r with
        | cons r1 r2 =>
          rw [List.all_cons, Bool.and_eq_true] at q
          simp only [List.map_cons, PyData.canLayAll0, ih q.1 (.inl r1), ihd r2 q.2, Bool.and_self]
    cases d <;> simp only [okD] at o <;> try (cases o; done)
    case lst xs => obtain ⟨a, xs, rfl, ha, ra⟩ := h.lst l; simp only [py, PyData.canLay0]; exact all ra o
    case tup xs => obtain ⟨a, xs, rfl, ha, ra⟩ := h.tup l; simp only [py, PyData.canLay0]; exact all ra o
    case str x => simp only [py, PyData.canLay0]; exact sOk_cps h.str.2.2
    all_goals simp [py, PyData.canLay0]
theorem shaped_py {F H : Hp} (l : Same F H) {n : Nat} (hn : n ≤ 64) {v : V} {d : D} (h : okD n d = true) (r : RdV Z F H v d) : SeqAt.shaped (py n d) = true := by
  show ((py n d).canLay0 && decide ((py n d).depth ≤ 64)) = true
  rw [py_lay l n h r, Bool.true_and]
  exact decide_eq_true (Nat.le_trans (py_depth n d h) hn)
theorem bRV_some {o : Option Bool} {rr : RV} (h : bRV o = some rr) : ∃ b, o = some b ∧ rr = .fz (.bl b) := by
  unfold bRV at h
  cases o with
  | none => cases h
  | some b => cases h; exact ⟨b, rfl, rfl⟩
theorem dEq_some {x y : D} {b : Bool} (h : dEq x y = some b) : okD 6 x = true ∧ okD 6 y = true ∧ b = PyData.eqv (py 6 x) (py 6 y) := by
  unfold dEq at h
  split at h
  · rename_i q
    rw [Bool.and_eq_true] at q
    cases h
    exact ⟨q.1, q.2, rfl⟩
  · cases h
theorem s_eq : Sound2 Z (rEqD Z.K) opEq := by
  intro F H x y dx dy rr Q l hx hy ho q
  obtain ⟨b, h, rfl⟩ := bRV_some ho
  obtain ⟨h1, h2, rfl⟩ := dEq_some h
  exact ⟨_, _, dp_of rfl 6 l h1 hx, dp_of rfl 6 l h2 hy, shaped_py l (by decide) h1 hx, shaped_py l (by decide) h2 hy, fin_bl l q⟩
theorem s_ne : Sound2 Z (rNeD Z.K) opNe := by
  intro F H x y dx dy rr Q l hx hy ho q
  obtain ⟨b, h, rfl⟩ := bRV_some ho
  rw [Option.map_eq_some_iff] at h
  obtain ⟨b, h, rfl⟩ := h
  obtain ⟨h1, h2, rfl⟩ := dEq_some h
  exact ⟨_, _, dp_of rfl 6 l h1 hx, dp_of rfl 6 l h2 hy, shaped_py l (by decide) h1 hx, shaped_py l (by decide) h2 hy, fin_bl l q⟩
/-! is -/
def rIsA : V → V → Hp → VK → Prop := fun x y H Q => (y = .non ∧ Q (.bl (decide (x = .non))) H) ∨ rIsB x y H Q
def rIsNA : V → V → Hp → VK → Prop := fun x y H Q => (y = .non ∧ Q (.bl (!decide (x = .non))) H) ∨ rNotB x y H Q
theorem op_isA {X : Cx} : OpR X (compareOp .Is) rIsA := op_isN.or op_isBl
theorem op_isNA {X : Cx} : OpR X (compareOp .IsNot) rIsNA := op_notN.or op_notBl
theorem RdV.notNon {F H : Hp} {v : V} {d : D} (h : RdV Z F H v d) (n : d ≠ .non) : v ≠ .non := by
  rcases h with h | ⟨a, rfl, _⟩
  · cases h <;> first | (exact (n rfl).elim) | (intro z; cases z)
  · intro z; cases z
theorem dIs_none {F H : Hp} {x y : V} {dx : D} {b : Bool} (hx : RdV Z F H x dx) (h : dIs dx .non = some b) : b = decide (x = .non) := by
  unfold dIs at h
  cases dx <;> simp at h <;> subst h
  · rw [hx.non]; rfl
  all_goals exact (decide_eq_false (hx.notNon (by intro z; cases z))).symm
theorem s_is : Sound2 Z rIsA opIs := by
  intro F H x y dx dy rr Q l hx hy ho q
  obtain ⟨b, h, rfl⟩ := bRV_some ho
  cases dy with
  | non => rw [dIs_none (y := y) hx h] at q; exact .inl ⟨hy.non, fin_bl l q⟩
  | bl c => cases dx <;> simp only [dIs] at h <;> cases h; exact .inr ⟨_, _, hx.bl, hy.bl, fin_bl l q⟩
  | _ => cases dx <;> simp only [dIs] at h <;> cases h
theorem s_isN : Sound2 Z rIsNA opIsNot := by
  intro F H x y dx dy rr Q l hx hy ho q
  obtain ⟨b, h, rfl⟩ := bRV_some ho
  rw [Option.map_eq_some_iff] at h
  obtain ⟨b, h, rfl⟩ := h
  cases dy with
  | non => rw [dIs_none (y := y) hx h] at q; exact .inl ⟨hy.non, fin_bl l q⟩
  | bl c => cases dx <;> simp only [dIs] at h <;> cases h; exact .inr ⟨_, _, hx.bl, hy.bl, fin_bl l q⟩
  | _ => cases dx <;> simp only [dIs] at h <;> cases h
end
end S3

/-! B5: subscripts, in, built-ins by name, methods of built-in types, displays, tests. -/
namespace S3
open PySem L2
section
variable {Z : Wd} {F F' H H' : Hp} {N : En} {σ : St} {e e' : Env} {v x y : V} {W : WX}
/-! ### subscripts -/
theorem toKey_rd {F H : Hp} {y : V} {dy : D} {k : Key} (h : RdV Z F H y dy) (e : toKey dy = some k) : y = kV k := by
  cases dy <;> simp only [toKey] at e <;> cases e
  · exact h.int
  · exact h.str.1
theorem toKeys_rd {F : Hp} : ∀ {ds : List D} {vs : List V} {ks : List Key}, RpA Z F vs ds → toKeys ds = some ks → vs = ks.map kV
  | [], _, _, .nil, e => by simp only [toKeys] at e; cases e; rfl
  | d :: ds, _, _, .cons h r, e => by
    simp only [toKeys] at e
    cases q1 : toKey d with
    | none => rw [q1] at e; cases e
    | some k =>
      cases q2 : toKeys ds with
      | none => rw [q1, q2] at e; cases e
      | some ks =>
        rw [q1, q2] at e
        cases e
        rw [toKey_rd (H := fun _ => none) (.inl h) q1, toKeys_rd r q2]
        rfl
theorem RpP.any {κ : Type} [DecidableEq κ] (k : κ) : ∀ {vs : List (κ × V)} {ds : List (κ × D)}, RpP Z F vs ds → (vs.any fun kv => decide (kv.1 = k)) = ds.any fun kv => decide (kv.1 = k)
  | _, _, .nil => rfl
  | _, _, .cons _ r => by rw [List.any_cons, List.any_cons, RpP.any k r]
theorem RpP.val {κ : Type} [DecidableEq κ] (k : κ) : ∀ {vs : List (κ × V)} {ds : List (κ × D)}, RpP Z F vs ds → (∀ d, dVal ds k = some d → ∃ v, valV vs k = some v ∧ Rp Z F v d) ∧ (dVal ds k = none → valV vs k = none)
  | _, _, .nil => ⟨fun d h => by simp [dVal] at h, fun _ => rfl⟩
  | _, _, @RpP.cons _ _ _ j v vs d ds h r => by
    obtain ⟨i1, i2⟩ := RpP.val k r
    by_cases q : j = k
    · have e1 : dVal ((j, d) :: ds) k = some d := by simp [dVal, q]
      have e2 : valV ((j, v) :: vs) k = some v := by simp [valV, q]
      exact ⟨fun d' h' => by rw [e1] at h'; cases h'; exact ⟨v, e2, h⟩, fun h' => by rw [e1] at h'; cases h'⟩
    · have e1 : dVal ((j, d) :: ds) k = dVal ds k := by simp [dVal, q]
      have e2 : valV ((j, v) :: vs) k = valV vs k := by simp [valV, q]
      rw [e1, e2]
      exact ⟨i1, i2⟩
theorem RpP.length {κ : Type} : ∀ {vs : List (κ × V)} {ds : List (κ × D)}, RpP Z F vs ds → vs.length = ds.length
  | _, _, .nil => rfl
  | _, _, .cons _ r => congrArg Nat.succ r.length
/-- a dict asked -/
theorem dGet_rd {F H : Hp} {x y : V} {dx dy : D} {o : Option D} (l : Same F H) (hx : RdV Z F H x dx) (hy : RdV Z F H y dy) (e : dGet dx dy = some o) :
    ∃ a r, x = .ref a ∧ DGet H a y r ∧ r.isSome = o.isSome ∧ ∀ d, o = some d → ∃ v, r = some v ∧ Rp Z F v d := by
  cases dx <;> simp only [dGet] at e <;> try (cases e; done)
  · rename_i kvs
    rw [Option.map_eq_some_iff] at e
    obtain ⟨k, hk, rfl⟩ := e
    obtain ⟨a, xs, rfl, ha, r⟩ := hx.dk l
    obtain ⟨i1, i2⟩ := r.val k
    have ey := toKey_rd hy hk
    subst ey
    refine ⟨a, valV xs k, rfl, DGet.k ha, ?_, i1⟩
    cases q : dVal kvs k with
    | none => rw [i2 q]; rfl
    | some d => obtain ⟨v, h1, _⟩ := i1 d q; rw [h1]; rfl
  · rename_i kvs
    cases dy <;> simp only at e <;> try (cases e; done)
    rw [Option.map_eq_some_iff] at e
    obtain ⟨k, hk, rfl⟩ := e
    obtain ⟨a, xs, rfl, ha, r⟩ := hx.dt l
    obtain ⟨b, ys, rfl, hb, rb⟩ := hy.tup l
    obtain ⟨i1, i2⟩ := r.val k
    have ey := toKeys_rd rb hk
    subst ey
    refine ⟨a, valV xs k, rfl, DGet.t ha hb, ?_, i1⟩
    cases q : dVal kvs k with
    | none => rw [i2 q]; rfl
    | some d => obtain ⟨v, h1, _⟩ := i1 d q; rw [h1]; rfl
/-! x[i] -/
def rIxA (K : PySem.W.Frag) : V → V → Hp → VK → Prop := fun x y H Q => rIx K x y H Q ∨ ∃ a v, x = .ref a ∧ DGet H a y (some v) ∧ Q v H
theorem ix_dict {X : Cx} (hu : X.A.units + 1 < cLine) : IxR X (fun x y H Q => ∃ a v, x = .ref a ∧ DGet H a y (some v) ∧ Q v H) := by
  intro value slice pins s σ H x y v u Q I rx ry q hs
  obtain ⟨a, w, rfl, g, q⟩ := q
  cases rx
  exact PyProof.Rows.tail_any (dict_typeIs I g) slot_dict_getitem.lookup (d_getItem hu I g ry fun w' s' I' rw' => ⟨w, H, I', rw', q⟩) hs
theorem ix_all {X : Cx} (hu : X.A.units + 1 < cLine) : IxR X (rIxA X.K) := ix_seq.or (ix_dict hu)
theorem sOk_one {z : Str} {c : Nat} {i : Int} (h : sOk z = true) (q : atI z.cps.toList i = some c) : sOk ⟨#[c]⟩ = true := by
  obtain ⟨j, _, h2, _⟩ := atI_get q
  have hm : c ∈ z.cps.toList := List.mem_of_getElem? h2
  have h3 := Array.all_eq_true_iff_forall_mem.mp (sOk_cps h) c (Array.mem_toList_iff.mp hm)
  refine sOk_of (by show 1 ≤ LIM; decide) ?_
  simpa using h3
theorem s_ix : Sound2 Z (rIxA Z.K) opIx := by
  intro F H x y dx dy rr Q l hx hy ho q
  have dict : ∀ (o : Option D), dGet dx dy = some o → o.map RV.fz = some rr → rIxA Z.K x y H Q := fun o h1 h2 => by
    obtain ⟨a, r, rfl, g, _, k⟩ := dGet_rd l hx hy h1
    rw [Option.map_eq_some_iff] at h2
    obtain ⟨d, rfl, rfl⟩ := h2
    obtain ⟨v, rfl, rv⟩ := k d rfl
    exact .inr ⟨a, v, rfl, g, fin_fz l q rv⟩
  have dict' : (dGet dx dy).join.map RV.fz = some rr → rIxA Z.K x y H Q := fun h => by
    cases e : dGet dx dy with
    | none => rw [e] at h; cases h
    | some o => rw [e] at h; exact dict o e h
  cases dx with
  | lst xs =>
    cases dy with
    | int i =>
      simp only [opIx, Option.map_eq_some_iff] at ho
      obtain ⟨d, h1, rfl⟩ := ho
      obtain ⟨a, vs, rfl, ha, ra⟩ := hx.lst l
      obtain ⟨v, h2, rv⟩ := ra.atI h1
      exact .inl (.inl ⟨a, vs, i, v, rfl, hy.int, SqL.of ha, h2, fin_fz l q rv⟩)
    | _ => exact dict' ho
  | tup xs =>
    cases dy with
    | int i =>
      simp only [opIx, Option.map_eq_some_iff] at ho
      obtain ⟨d, h1, rfl⟩ := ho
      obtain ⟨a, vs, rfl, ha, ra⟩ := hx.tup l
      obtain ⟨v, h2, rv⟩ := ra.atI h1
      exact .inl (.inr (.inl ⟨a, vs, i, v, rfl, hy.int, SqT.of ha, h2, fin_fz l q rv⟩))
    | _ => exact dict' ho
  | str z =>
    cases dy with
    | int i =>
      simp only [opIx, Option.map_eq_some_iff] at ho
      obtain ⟨c, h1, rfl⟩ := ho
      exact .inl (.inr (.inr ⟨z, i, c, hx.str.1, hy.int, hx.str.2.1, h1, fin_fz l q (.str _ (sOk_one hx.str.2.2 h1))⟩))
    | _ => exact dict' ho
  | _ => exact dict' ho
/-! slices -/
def rSlA (K : PySem.W.Frag) : V → Option Int → Option Int → Hp → VK → Prop := fun x lo hi H Q => rSlL K x lo hi H Q ∨ rSlS x lo hi H Q ∨ L2.rSlA K x lo hi H Q
theorem sl_all {X : Cx} : SlR X (rSlA X.K) := sl_list.or (sl_str.or sl_tupA)
theorem sOk_cut {z : Str} {lo hi : Option Int} (h : sOk z = true) : sOk (cutS z lo hi) = true := by
  refine sOk_of (Nat.le_trans (cutS_length z lo hi) (sOk_len h)) ?_
  rw [Array.all_eq_true_iff_forall_mem]
  intro c hc
  have hc' : c ∈ (cutS z lo hi).cps.toList := Array.mem_toList_iff.mpr hc
  have h2 : c ∈ z.cps.toList := List.mem_of_mem_drop (List.mem_of_mem_take (show c ∈ ((z.cps.toList.drop (HT.sIx z.length 0 lo)).take (HT.sIx z.length z.length hi - HT.sIx z.length 0 lo)) from hc'))
  exact Array.all_eq_true_iff_forall_mem.mp (sOk_cps h) c (Array.mem_toList_iff.mp h2)
theorem s_dCut {F H : Hp} {x : V} {dx : D} {lo hi : Option Int} {rr : RV} {Q : VK} (l : Same F H) (hx : RdV Z F H x dx) (ho : dCut dx lo hi = some rr) (q : ∀ v F' H', Gr F H F' H' → NwOk Z H F' H' v rr → Q v H') : rSlA Z.K x lo hi H Q := by
  cases dx <;> simp only [dCut] at ho <;> cases ho
  · exact .inr (.inl ⟨_, hx.str.1, hx.str.2.1, fin_fz l q (.str _ (sOk_cut hx.str.2.2))⟩)
  · obtain ⟨a, vs, rfl, ha, ra⟩ := hx.lst l
    refine .inl ⟨a, vs, rfl, SqL.of ha, fin_lst l q ?_⟩
    unfold cutV cutD
    rw [ra.length]
    exact (ra.drop _).take _
  · have hx' : Rp Z F x (.tup _) := hx.elim id fun ⟨_, _, _, t⟩ => t.elim
    obtain ⟨a, vs, rfl, ha, ra⟩ := hx.tup l
    rename_i dd
    have rc : RpA Z F (cutV vs lo hi) (cutD dd lo hi) := by
      unfold cutV cutD
      rw [ra.length]
      exact (ra.drop _).take _
    refine .inr (.inr ⟨a, vs, rfl, SqT.of ha, fun w => ?_, fun _ p hp => q (.ref p) _ _ (Gr.layF l hp) (.tup upd_same (rc.mono (same_upd (none_le l hp))))⟩)
    have e : ∀ ds : List D, ds.length = vs.length → cutD ds lo hi = ds := fun ds hl => by
      unfold cutD
      rw [hl, w.1, w.2, List.drop_zero, Nat.sub_zero, ← hl, List.take_length]
    rw [e _ ra.length.symm] at q
    exact fin_fz l q hx'
end

section
variable {ca : Str → Option Addr} {W : WX} {X : Cx} {a b c : Expr} {fa fb fc : EV} {pos p2 : Pos}
theorem ev_ix (ha : Ev ca W X a fa) (hb : Ev ca W X b fb) (hu : X.A.units + 1 < cLine) (hs : PlainIx b := by intro _ _; rfl) : Ev ca W X (.Subscript a b pos) (eOp2 opIx fa fb) := PE_imp (pe_ix (ix_all hu) ha hb hs) fun _ _ _ => two s_ix
theorem ev_cut (ha : Ev ca W X a fa) (hb : Ev ca W X b fb) (hc : Ev ca W X c fc) : Ev ca W X (.Subscript a (.Slice (some b) (some c) none p2) pos) (eOp3 opCut fa (eI fb) (eI fc)) :=
  PE_imp (pe_slice sl_all ha (po_some hb) (po_some hc)) fun σ H Q ⟨N, F, e, S, P⟩ => by
    refine bindL S P fun x F1 H1 e1 ra f1 S1 R1 P1 => ?_
    obtain ⟨F2, f2, S2, h2⟩ := RvOk.hold S1 R1
    refine bindI S2 (PostE.shift P1 f2) fun i F3 H3 e3 f3 T3 P3 => ⟨i, rfl, ?_⟩
    refine bindI T3 P3 fun j F4 H4 e4 f4 S4 P4 => ⟨j, rfl, ?_⟩
    cases d1 : S3.rd ra e4 with
    | none => rw [d1] at P4; exact P4.elim
    | some dx =>
      rw [d1] at P4
      dsimp only [S3.rd] at P4
      cases d3 : opCut dx (.int i) (.int j) with
      | none => rw [d3] at P4; exact P4.elim
      | some rr =>
        rw [d3] at P4
        exact s_dCut (Z := zw ca X) S4.le (((h2.mono f3).mono f4).rd S4 d1) d3 (op_end S4 P4)
theorem ev_cutLo (ha : Ev ca W X a fa) (hb : Ev ca W X b fb) : Ev ca W X (.Subscript a (.Slice (some b) none none p2) pos) (eOp2 opCutLo fa (eI fb)) :=
  PE_imp (pe_slice sl_all ha (po_some hb) po_none) fun σ H Q ⟨N, F, e, S, P⟩ => by
    refine bindL S P fun x F1 H1 e1 ra f1 S1 R1 P1 => ?_
    obtain ⟨F2, f2, S2, h2⟩ := RvOk.hold S1 R1
    refine bindI S2 (PostE.shift P1 f2) fun i F3 H3 e3 f3 T3 P3 => ⟨i, rfl, ?_⟩
    cases d1 : S3.rd ra e3 with
    | none => rw [d1] at P3; exact P3.elim
    | some dx =>
      rw [d1] at P3
      dsimp only [S3.rd] at P3
      cases d3 : opCutLo dx (.int i) with
      | none => rw [d3] at P3; exact P3.elim
      | some rr =>
        rw [d3] at P3
        exact s_dCut (Z := zw ca X) T3.le ((h2.mono f3).rd T3 d1) d3 (op_end T3 P3)
theorem ev_cutHi (ha : Ev ca W X a fa) (hb : Ev ca W X b fb) : Ev ca W X (.Subscript a (.Slice none (some b) none p2) pos) (eOp2 opCutHi fa (eI fb)) :=
  PE_imp (pe_slice sl_all ha po_none (po_some hb)) fun σ H Q ⟨N, F, e, S, P⟩ => by
    refine bindL S P fun x F1 H1 e1 ra f1 S1 R1 P1 => ?_
    obtain ⟨F2, f2, S2, h2⟩ := RvOk.hold S1 R1
    refine bindI S2 (PostE.shift P1 f2) fun i F3 H3 e3 f3 T3 P3 => ⟨i, rfl, ?_⟩
    cases d1 : S3.rd ra e3 with
    | none => rw [d1] at P3; exact P3.elim
    | some dx =>
      rw [d1] at P3
      dsimp only [S3.rd] at P3
      cases d3 : opCutHi dx (.int i) with
      | none => rw [d3] at P3; exact P3.elim
      | some rr =>
        rw [d3] at P3
        exact s_dCut (Z := zw ca X) T3.le ((h2.mono f3).rd T3 d1) d3 (op_end T3 P3)
end
end S3

/-! B6: in, built-ins by name, methods of built-in types, displays, tests. -/
namespace S3
open PySem L2
/-! ### in, not in -/
section
variable {Z : Wd}
theorem flat_eqv {x y : V} {dx dy : D} {F H : Hp} (hx : RdV Z F H x dx) (hy : RdV Z F H y dy) (ox : okD 0 dx = true) (oy : okD 0 dy = true) : flatV x = true ∧ flatV y = true ∧ eqV y x = PyData.eqv (py 0 dy) (py 0 dx) := by
  cases dx <;> simp [okD] at ox <;> cases dy <;> simp [okD] at oy
  all_goals (first | rw [hx.non] | rw [hx.bl] | rw [hx.int] | rw [hx.str.1])
  all_goals (first | rw [hy.non] | rw [hy.bl] | rw [hy.int] | rw [hy.str.1])
  all_goals (refine ⟨rfl, rfl, ?_⟩; simp [eqV, py, PyData.eqv])
theorem flat_any {x : V} {dx : D} {F H : Hp} (hx : RdV Z F H x dx) (ox : okD 0 dx = true) : ∀ {ys : List V} {ds : List D}, RpA Z F ys ds → ds.all (okD 0) = true → ys.all flatV = true ∧ inV x ys = ds.any fun z => PyData.eqv (py 0 z) (py 0 dx)
  | _, _, .nil, _ => ⟨rfl, rfl⟩
  | _, _, @RpA.cons _ _ v vs d ds h r, q => by
    rw [List.all_cons, Bool.and_eq_true] at q
    obtain ⟨i1, i2⟩ := flat_any hx ox r q.2
    obtain ⟨_, j1, j2⟩ := flat_eqv hx (y := v) (dy := d) (F := F) (H := H) (.inl h) ox q.1
    refine ⟨by rw [List.all_cons, j1, i1]; rfl, ?_⟩
    unfold inV at i2 ⊢
    rw [List.any_cons, List.any_cons, j2, i2]
def rInA (K : PySem.W.Frag) (P : Program) (w : World) : V → V → Hp → VK → Prop := fun x y H Q => rInD K x y H Q ∨ rIn K false x y H Q ∨
  (∃ (c : Nat) (z : Str), x = .str ⟨#[c]⟩ ∧ y = .str z ∧ Q (.bl (decide (c ∈ z.cps.toList))) H) ∨ rSInG P w false x y H Q ∨ ∃ a o, y = .ref a ∧ DGet H a x o ∧ Q (.bl o.isSome) H
def rNInA (K : PySem.W.Frag) (P : Program) (w : World) : V → V → Hp → VK → Prop := fun x y H Q => rNotInD K x y H Q ∨ rIn K true x y H Q ∨
  (∃ (c : Nat) (z : Str), x = .str ⟨#[c]⟩ ∧ y = .str z ∧ Q (.bl (!decide (c ∈ z.cps.toList))) H) ∨ rSInG P w true x y H Q ∨ ∃ a o, y = .ref a ∧ DGet H a x o ∧ Q (.bl (!o.isSome)) H
theorem op_inDict {X : Cx} (hu : X.A.units + 1 < cLine) : OpR X (compareOp .In) (fun x y H Q => ∃ a o, y = .ref a ∧ DGet H a x o ∧ Q (.bl o.isSome) H) := by
  intro pins s σ H x y v u Q I rx ry q
  obtain ⟨a, o, rfl, g, q⟩ := q
  cases ry
  exact d_in hu I g rx fun s' I' => ⟨.bl _, H, I', rfl, q⟩
theorem op_ninDict {X : Cx} (hu : X.A.units + 1 < cLine) : OpR X (compareOp .NotIn) (fun x y H Q => ∃ a o, y = .ref a ∧ DGet H a x o ∧ Q (.bl (!o.isSome)) H) := by
  intro pins s σ H x y v u Q I rx ry q
  obtain ⟨a, o, rfl, g, q⟩ := q
  cases ry
  exact d_notIn hu I g rx fun s' I' => ⟨.bl _, H, I', rfl, q⟩
theorem op_inA {X : Cx} (hu : X.A.units + 65 < cLine) : OpR X (compareOp .In) (rInA X.K X.prog X.w) :=
  (op_inD hu).or (op_in_seq.or (op_in_sign.or (or_sinG.or (op_inDict (by omega)))))
theorem op_ninA {X : Cx} (hu : X.A.units + 65 < cLine) : OpR X (compareOp .NotIn) (rNInA X.K X.prog X.w) :=
  (op_notInD hu).or (op_notIn_seq.or (op_notIn_sign.or (or_snotinG.or (op_ninDict (by omega)))))
/-- the cases of in -/
theorem in_cases {F H : Hp} {x y : V} {dx dy : D} {b : Bool} (l : Same F H) (hx : RdV Z F H x dx) (hy : RdV Z F H y dy) (h : dIn dx dy = some b) :
    (∃ d ds, Dp Z.K H x d ∧ Dp Z.K H y (.list ds) ∧ SeqAt.shaped d = true ∧ SeqAt.shaped (.list ds) = true ∧ b = ds.any fun z => PyData.eqv z d) ∨
    (∃ p xs, y = .ref p ∧ (SqL Z.K H p xs ∨ SqT Z.K H p xs) ∧ flatV x = true ∧ xs.all flatV = true ∧ b = inV x xs) ∨
    (∃ (c : Nat) (z : Str), x = .str ⟨#[c]⟩ ∧ y = .str z ∧ b = decide (c ∈ z.cps.toList)) ∨
    (∃ (k : Key) (a : Addr) (ks : List Key), x = kV k ∧ y = V.ref a ∧ H a = some (SetGO Z.P Z.w a ks) ∧ b = kIn k ks) ∨ ∃ a o, y = .ref a ∧ DGet H a x o ∧ b = o.isSome := by
  have dict : (dGet dy dx).map (·.isSome) = some b → ∃ a o, y = .ref a ∧ DGet H a x o ∧ b = o.isSome := fun h => by
    rw [Option.map_eq_some_iff] at h
    obtain ⟨o, h1, rfl⟩ := h
    obtain ⟨a, r, rfl, g, e, _⟩ := dGet_rd l hy hx h1
    exact ⟨a, r, rfl, g, e.symm⟩
  unfold dIn at h
  split at h
  · rename_i ys
    split at h
    · rename_i q
      rw [Bool.and_eq_true] at q
      cases h
      have oy : okD 6 (.lst ys) = true := q.2
      have s2 := shaped_py l (n := 6) (by decide) oy hy
      have d2 := dp_of rfl 6 l oy hy
      have e6 : ∀ d : D, okD 5 d = true → py 6 d = py 5 d := by
        have gen : ∀ (n : Nat) (d : D), okD n d = true → py (n + 1) d = py n d := by
          intro n
          induction n with
          | zero => intro d o; cases d <;> simp [okD] at o <;> rfl
          | succ n ih =>
            intro d o
            cases d <;> simp only [okD] at o <;> try (cases o; done)
            all_goals try rfl
            all_goals (simp only [py]; congr 1; exact List.map_congr_left fun z hz => ih z (List.all_eq_true.mp o z hz))
        exact gen 5
      refine .inl ⟨_, ys.map (py 5), dp_of rfl 6 l q.1 hx, d2, shaped_py l (by decide) q.1 hx, s2, ?_⟩
      rw [List.any_map]
      have q2 := q.2
      clear d2 s2 hy oy q dict
      induction ys with
      | nil => rfl
      | cons d ds ih =>
        rw [List.all_cons, Bool.and_eq_true] at q2
        rw [List.any_cons, List.any_cons, ih q2.2, e6 d q2.1]
        rfl
    · cases h
  · rename_i ys
    split at h
    · rename_i q
      rw [Bool.and_eq_true] at q
      cases h
      obtain ⟨a, xs, rfl, ha, ra⟩ := hy.tup l
      obtain ⟨j1, j2⟩ := flat_any hx q.1 ra q.2
      have j3 : flatV x = true := (flat_eqv hx hx q.1 q.1).1
      exact .inr (.inl ⟨a, xs, rfl, .inr (SqT.of ha), j3, j1, j2.symm⟩)
    · cases h
  · rename_i z
    split at h
    · rename_i c
      split at h
      · rename_i hc
        cases h
        have ec : c = ⟨#[c.cps.getD 0 0]⟩ := by
          obtain ⟨cs⟩ := c
          obtain ⟨l⟩ := cs
          cases l with
          | nil => cases hc
          | cons k r =>
            cases r with
            | nil => rfl
            | cons k2 r => cases hc
        refine .inr (.inr (.inl ⟨c.cps.getD 0 0, z, ?_, hy.str.1, rfl⟩))
        rw [hx.str.1, ← ec]
      · cases h
    · cases h
  · rename_i ks
    rw [Option.map_eq_some_iff] at h
    obtain ⟨k, hk, rfl⟩ := h
    obtain ⟨a, rfl, ha, _⟩ := hy.st l
    exact .inr (.inr (.inr (.inl ⟨k, a, _, toKey_rd hx hk, rfl, ha, rfl⟩)))
  · exact .inr (.inr (.inr (.inr (dict h))))
theorem s_in : Sound2 Z (rInA Z.K Z.P Z.w) opIn := by
  intro F H x y dx dy rr Q l hx hy ho q
  obtain ⟨b, h, rfl⟩ := bRV_some ho
  rcases in_cases l hx hy h with ⟨d, ds, h1, h2, h3, h4, rfl⟩ | ⟨p, xs, h1, h2, h3, h4, rfl⟩ | ⟨c, z, h1, h2, rfl⟩ | ⟨k, a, ks, h1, h2, h3, rfl⟩ | ⟨a, o, h1, h2, rfl⟩
  · exact .inl ⟨d, ds, h1, h2, h3, h4, fin_bl l q⟩
  · exact .inr (.inl ⟨p, xs, h1, h2, h3, h4, fin_bl l q⟩)
  · exact .inr (.inr (.inl ⟨c, z, h1, h2, fin_bl l q⟩))
  · exact .inr (.inr (.inr (.inl ⟨k, a, ks, h1, h2, h3, fin_bl l q⟩)))
  · exact .inr (.inr (.inr (.inr ⟨a, o, h1, h2, fin_bl l q⟩)))
theorem s_nin : Sound2 Z (rNInA Z.K Z.P Z.w) opNotIn := by
  intro F H x y dx dy rr Q l hx hy ho q
  obtain ⟨b, h, rfl⟩ := bRV_some ho
  rw [Option.map_eq_some_iff] at h
  obtain ⟨b, h, rfl⟩ := h
  rcases in_cases l hx hy h with ⟨d, ds, h1, h2, h3, h4, rfl⟩ | ⟨p, xs, h1, h2, h3, h4, rfl⟩ | ⟨c, z, h1, h2, rfl⟩ | ⟨k, a, ks, h1, h2, h3, rfl⟩ | ⟨a, o, h1, h2, rfl⟩
  · exact .inl ⟨d, ds, h1, h2, h3, h4, fin_bl l q⟩
  · exact .inr (.inl ⟨p, xs, h1, h2, h3, h4, fin_bl l q⟩)
  · exact .inr (.inr (.inl ⟨c, z, h1, h2, fin_bl l q⟩))
  · exact .inr (.inr (.inr (.inl ⟨k, a, ks, h1, h2, h3, fin_bl l q⟩)))
  · exact .inr (.inr (.inr (.inr ⟨a, o, h1, h2, fin_bl l q⟩)))

/-! ### built-ins, by what they give -/
theorem s_int : Sound1 Z (fun x H Q => (∃ i, [x] = [V.int i] ∧ Q (.int i) H) ∨ ∃ k, [x] = [V.bl k] ∧ Q (.int (if k then 1 else 0)) H) opInt := by
  intro F H x dx rr Q l hx ho q
  cases dx <;> simp only [opInt] at ho <;> cases ho
  · exact .inr ⟨_, by rw [hx.bl], fin_int l q⟩
  · exact .inl ⟨_, by rw [hx.int], fin_int l q⟩
theorem s_abs : Sound1 Z (fun x H Q => ∃ i, [x] = [V.int i] ∧ Q (.int (if i < 0 then -i else i)) H) opAbs := by
  intro F H x dx rr Q l hx ho q
  cases dx <;> simp only [opAbs] at ho <;> cases ho
  exact ⟨_, by rw [hx.int], fin_int l q⟩
def rLenA (K : PySem.W.Frag) (P : Program) (w : World) : List V → Hp → VK → Prop := fun xs H Q => (∃ x n, xs = [x] ∧ LenV K x H n ∧ Q (.int n) H) ∨ (∃ a kvs, xs = [V.ref a] ∧ H a = some (.dK kvs) ∧ Q (.int kvs.length) H) ∨
  ∃ a ks, xs = [V.ref a] ∧ H a = some (SetGO P w a ks) ∧ Q (.int ks.length) H
theorem call_lenA {X : Cx} : CallR X (.builtin "len") (rLenA X.K X.prog X.w) := call_len.or (call_lenD.or call_lenSetG)
theorem s_len : Sound1 Z (fun x => rLenA Z.K Z.P Z.w [x]) opLen := by
  intro F H x dx rr Q l hx ho q
  cases dx <;> simp only [opLen] at ho <;> try (cases ho; done)
  · cases ho
    rw [hx.str.1]
    exact .inl ⟨_, _, rfl, ⟨hx.str.2.1, rfl⟩, fin_int l q⟩
  · cases ho
    obtain ⟨a, xs, rfl, ha, ra⟩ := hx.lst l
    refine .inl ⟨_, _, rfl, .inl ⟨xs, SqL.of ha, rfl⟩, ?_⟩
    rw [ra.length]
    exact fin_int l q
  · cases ho
    obtain ⟨a, xs, rfl, ha, ra⟩ := hx.tup l
    refine .inl ⟨_, _, rfl, .inr ⟨xs, SqT.of ha, rfl⟩, ?_⟩
    rw [ra.length]
    exact fin_int l q
  · cases ho
    obtain ⟨a, xs, rfl, ha, ra⟩ := hx.dk l
    refine .inr (.inl ⟨_, _, rfl, ha, ?_⟩)
    rw [ra.length]
    exact fin_int l q
  · cases ho
    obtain ⟨a, rfl, ha, _⟩ := hx.st l
    exact .inr (.inr ⟨_, _, rfl, ha, fin_int l q⟩)
theorem toBools_rd {F : Hp} : ∀ {ds : List D} {vs : List V} {bs : List Bool}, RpA Z F vs ds → toBools ds = some bs → vs = bs.map V.bl
  | [], _, _, .nil, e => by simp only [toBools] at e; cases e; rfl
  | d :: ds, _, _, .cons h r, e => by
    cases d <;> simp only [toBools] at e <;> try (cases e; done)
    rw [Option.map_eq_some_iff] at e
    obtain ⟨bs, h1, rfl⟩ := e
    rw [toBools_rd r h1, RdV.bl (H := fun _ => none) (.inl h)]
    rfl
theorem s_all : Sound1 Z (fun x => rAll Z.K [x]) opAll := by
  intro F H x dx rr Q l hx ho q
  cases dx <;> simp only [opAll] at ho <;> try (cases ho; done)
  rw [Option.map_eq_some_iff] at ho
  obtain ⟨bs, h1, rfl⟩ := ho
  obtain ⟨a, xs, rfl, ha, ra⟩ := hx.lst l
  have e := toBools_rd ra h1
  subst e
  exact ⟨a, bs, rfl, SqL.of ha, fin_bl l q⟩
theorem s_any : Sound1 Z (fun x => rAny Z.K [x]) opAny := by
  intro F H x dx rr Q l hx ho q
  cases dx <;> simp only [opAny] at ho <;> try (cases ho; done)
  rw [Option.map_eq_some_iff] at ho
  obtain ⟨bs, h1, rfl⟩ := ho
  obtain ⟨a, xs, rfl, ha, ra⟩ := hx.lst l
  have e := toBools_rd ra h1
  subst e
  exact ⟨a, bs, rfl, SqL.of ha, fin_bl l q⟩
theorem s_list : Sound1 Z (fun x H Q => ∃ p ys, [x] = [V.ref p] ∧ (SqL Z.K H p ys ∨ SqT Z.K H p ys) ∧ ∀ l, H l = none → Q (.ref l) (upd H l (.lst ys))) opList := by
  intro F H x dx rr Q l hx ho q
  cases dx <;> simp only [opList] at ho <;> cases ho
  · obtain ⟨a, xs, rfl, ha, ra⟩ := hx.lst l
    exact ⟨a, xs, rfl, .inl (SqL.of ha), fin_lst l q ra⟩
  · obtain ⟨a, xs, rfl, ha, ra⟩ := hx.tup l
    exact ⟨a, xs, rfl, .inr (SqT.of ha), fin_lst l q ra⟩
theorem s_tuple : Sound1 Z (fun x H Q => ∃ p ys, [x] = [V.ref p] ∧ ((SqL Z.K H p ys ∧ ∀ l, H l = none → Q (.ref l) (upd H l (.tup ys))) ∨ (SqT Z.K H p ys ∧ Q (.ref p) H))) opTuple := by
  intro F H x dx rr Q l hx ho q
  cases dx <;> simp only [opTuple] at ho <;> cases ho
  · obtain ⟨a, xs, rfl, ha, ra⟩ := hx.lst l
    exact ⟨a, xs, rfl, .inl ⟨SqL.of ha, fin_tup l q ra⟩⟩
  · rcases hx with hx | ⟨_, _, _, t⟩
    · obtain ⟨a, xs, rfl, ha, ra⟩ := RdV.tup (H := H) l (.inl hx)
      exact ⟨a, xs, rfl, .inr ⟨SqT.of ha, fin_fz l q hx⟩⟩
    · exact t.elim
theorem s_isty {T : String} (k1 : kitB "NoneType" T = some (subT "NoneType" T)) (k2 : kitB "bool" T = some (subT "bool" T)) (k3 : kitB "int" T = some (subT "int" T)) (k4 : kitB "str" T = some (subT "str" T))
    (k5 : kitB "list" T = some (subT "list" T)) (k6 : kitB "tuple" T = some (subT "tuple" T)) (k7 : kitB "dict" T = some (subT "dict" T)) : Sound1 Z (fun x => rIsi Z.K [x, .ty T]) (opIsTy T) := by
  intro F H x dx rr Q l hx ho q
  obtain ⟨b, h, rfl⟩ := bRV_some ho
  unfold isTy at h
  cases dx <;> simp only [tyN, Option.map_some, Option.map_none] at h <;> cases h
  · rw [hx.non]; exact ⟨_, _, _, _, _, rfl, .ty T, .base .non, kit_ty k1, fin_bl l q⟩
  · rw [hx.bl]; exact ⟨_, _, _, _, _, rfl, .ty T, .base (.bl _), kit_ty k2, fin_bl l q⟩
  · rw [hx.int]; exact ⟨_, _, _, _, _, rfl, .ty T, .base (.int _), kit_ty k3, fin_bl l q⟩
  · rw [hx.str.1]; exact ⟨_, _, _, _, _, rfl, .ty T, .base (.str _), kit_ty k4, fin_bl l q⟩
  · obtain ⟨a, xs, rfl, ha, _⟩ := hx.lst l; exact ⟨_, _, _, _, _, rfl, .ty T, .base (.lst ha), kit_ty k5, fin_bl l q⟩
  · obtain ⟨a, xs, rfl, ha, _⟩ := hx.tup l; exact ⟨_, _, _, _, _, rfl, .ty T, .base (.tup ha), kit_ty k6, fin_bl l q⟩
  · obtain ⟨a, xs, rfl, ha, _⟩ := hx.dk l; exact ⟨_, _, _, _, _, rfl, .ty T, .base (.dK ha), kit_ty k7, fin_bl l q⟩
  · obtain ⟨a, xs, rfl, ha, _⟩ := hx.dt l; exact ⟨_, _, _, _, _, rfl, .ty T, .base (.dT ha), kit_ty k7, fin_bl l q⟩
theorem sOk_int (i : Int) (h : i.natAbs.log2 < 1900) : sOk ((toString i : String) : Str) = true := by
  refine sOk_of (Nat.le_trans (PyProof.Rows.int_text_len_1921 (by omega)) (by decide)) ?_
  rw [Array.all_eq_true_iff_forall_mem]
  intro c hc
  have hc' : c ∈ (Str.ofString (toString i)).cps.toList := Array.mem_toList_iff.mpr hc
  rw [PyProof.Rows.signs_ofString] at hc'
  obtain ⟨ch, _, rfl⟩ := List.mem_map.mp hc'
  have := ch.valid
  simp only [decide_eq_true_eq]
  have h2 : ch.toNat < 1114112 := by
    have h3 := ch.valid
    simp only [UInt32.isValidChar, Nat.isValidChar] at h3
    show ch.val.toNat < _
    omega
  exact h2
theorem s_str : Sound1 Z (fun x H Q => (∃ a, [x] = [V.str a] ∧ Q (.str a) H) ∨ ∃ i, [x] = [V.int i] ∧ i.natAbs.log2 < 1920 ∧ Q (.str (toString i)) H) opStr := by
  intro F H x dx rr Q l hx ho q
  cases dx <;> simp only [opStr] at ho <;> try (cases ho; done)
  · split at ho
    · rename_i h
      cases ho
      exact .inr ⟨_, by rw [hx.int], by omega, fin_fz l q (.str _ (sOk_int _ h))⟩
    · cases ho
  · cases ho
    exact .inl ⟨_, by rw [hx.str.1], fin_fz l q (.str _ hx.str.2.2)⟩
end

section
variable {ca : Str → Option Addr} {W : WX} {X : Cx} {a b : Expr} {fa fb : EV} {pos p : Pos}
/-- f(a), f a built-in function, type -/
theorem ev_call1 {id : String} {n : Str} {r : List V → Hp → VK → Prop} {o : D → Option RV} (hc : CallR X (.builtin id) r) (hs : Sound1 (zw ca X) (fun x => r [x]) o) (hm : X.mg n = none) (ha : Ev ca W X a fa) (hg : Gl X n := by rfl)
    (hv : bootBuiltins n = some (.builtin id) := by decide +kernel) (hn : n ≠ "__name__" := by decide) (hdb : (n == ("__debug__" : Str)) = false := by decide)
    (he : starEach [a] X.env = (false, eval a X.env) :: starEach [] X.env := by rfl) : Ev ca W X (.Call (.Name n p) [a] [] pos) (eOp1 o fa) :=
  PE_imp (pe_callB hc hg hm hv (pa_cons ha pa_nil he) hn hdb he (by rfl)) fun _ _ _ => one hs
theorem ev_type1 {T : String} {n : Str} {r : List V → Hp → VK → Prop} {o : D → Option RV} (hc : CallR X (.type T) r) (hs : Sound1 (zw ca X) (fun x => r [x]) o) (hm : X.mg n = none) (ha : Ev ca W X a fa) (hg : Gl X n := by rfl)
    (hv : bootBuiltins n = some (.type T) := by decide +kernel) (hn : n ≠ "__name__" := by decide) (hdb : (n == ("__debug__" : Str)) = false := by decide)
    (he : starEach [a] X.env = (false, eval a X.env) :: starEach [] X.env := by rfl) : Ev ca W X (.Call (.Name n p) [a] [] pos) (eOp1 o fa) :=
  PE_imp (pe_callTy hc hg hm hv (pa_cons ha pa_nil he) hn hdb he (by rfl)) fun _ _ _ => one hs
/-- isinstance(a, T) -/
theorem ev_isty {T : String} {n : Str} {p2 : Pos} {o : D → Option RV} (hs : Sound1 (zw ca X) (fun x => rIsi X.K [x, .ty T]) o) (hm : X.mg "isinstance" = none) (hmT : X.mg n = none) (ha : Ev ca W X a fa) (hg : Gl X "isinstance" := by rfl) (hgT : Gl X n := by rfl)
    (hvT : bootBuiltins n = some (.type T) := by decide +kernel) (hn : n ≠ "__name__" := by decide) (hdb : (n == ("__debug__" : Str)) = false := by decide)
    (he : starEach [a, .Name n p2] X.env = (false, eval a X.env) :: starEach [.Name n p2] X.env := by rfl) : Ev ca W X (.Call (.Name "isinstance" p) [a, .Name n p2] [] pos) (eOp1 o fa) :=
  PE_imp (pe_callB call_isi hg hm (by decide +kernel) (pa_cons ha (pa_cons (pe_bltn (v := .ty T) hgT hmT hvT rfl hn hdb) pa_nil) he) (by decide) (by decide) he (by rfl)) fun _ _ _ => one hs
end
end S3

/-! B7: argument lists, displays, changes of one's own lists, tests. -/
namespace S3
open PySem L2
section
variable {Z : Wd} {F F' H H' : Hp} {N : En} {σ : St} {e e' : Env} {v x y : V} {W : WX}
/-! ### argument lists -/
theorem tAv_nil {Q : List V → Hp → Prop} (h : tAv Z W aNil σ H Q) : tNil σ H Q := by
  obtain ⟨N, F, e, S, P⟩ := h
  exact P [] F H (Same.refl _) S .nil
theorem tAv_keep {f : EV} {g : AV} {Q : List V → Hp → Prop} (h : tAv Z W (aKeep f g) σ H Q) : tCons (tEv Z W f) (tAv Z W g) σ H Q := by
  obtain ⟨N, F, e, S, P⟩ := h
  unfold aKeep at P
  refine ⟨N, F, e, S, ?_⟩
  cases q : f e with
  | no => rw [q] at P; exact P
  | ex z e1 => rw [q] at P; exact P
  | ok r e1 =>
    rw [q] at P
    dsimp only at P
    intro x F1 H1 f1 S1 R1
    cases q1 : stl r e1 with
    | none => rw [q1] at P; exact P.elim
    | some p =>
      obtain ⟨d, e2⟩ := p
      rw [q1] at P
      dsimp only at P
      obtain ⟨F2, f2, S2, r2⟩ := RvOk.stl S1 R1 q1
      refine ⟨N, F2, e2, S2, ?_⟩
      cases q2 : g e2 with
      | no => rw [q2] at P; exact P
      | ex z e3 => rw [q2] at P; exact PostA.shift P (f1.trans f2)
      | ok rs e3 =>
        rw [q2] at P
        exact fun vs F3 H3 f3 S3 h3 => P (x :: vs) F3 H3 ((f1.trans f2).trans f3) S3 (.cons (r := .fz d) (r2.mono f3) h3)
theorem Held.monoL {vs : List V} {rs : List RV} (h : Helds Z F σ vs rs) (f : Same F F') : Helds Z F' σ vs rs := by
  induction h with
  | nil => exact .nil
  | cons a _ ih => exact .cons (a.mono f) ih
theorem tAv_cons {f : EV} {g : AV} {Q : List V → Hp → Prop} (h : tAv Z W (aCons f g) σ H Q) : tCons (tEv Z W f) (tAv Z W g) σ H Q := by
  obtain ⟨N, F, e, S, P⟩ := h
  unfold aCons at P
  refine ⟨N, F, e, S, ?_⟩
  cases q : f e with
  | no => rw [q] at P; exact P
  | ex z e1 => rw [q] at P; exact P
  | ok r e1 =>
    rw [q] at P
    dsimp only at P
    intro x F1 H1 f1 S1 R1
    obtain ⟨F2, f2, S2, r2⟩ := RvOk.hold S1 R1
    refine ⟨N, F2, e1, S2, ?_⟩
    cases q2 : g e1 with
    | no => rw [q2] at P; exact P
    | ex z e3 => rw [q2] at P; exact PostA.shift P (f1.trans f2)
    | ok rs e3 =>
      rw [q2] at P
      exact fun vs F3 H3 f3 S3 h3 => P (x :: vs) F3 H3 ((f1.trans f2).trans f3) S3 (.cons (r2.mono f3) h3)
theorem fzs_rd : ∀ {rs : List RV} {vs : List V} {ds : List D}, Helds Z F σ vs rs → fzs rs = some ds → RpA Z F vs ds
  | [], _, _, .nil, h => by simp only [fzs] at h; cases h; exact .nil
  | r :: rs, _, _, .cons a k, h => by
    cases r <;> simp only [fzs] at h <;> try (cases h; done)
    rw [Option.map_eq_some_iff] at h
    obtain ⟨ds, h1, rfl⟩ := h
    exact .cons a (fzs_rd k h1)
/-- a display -/
theorem tEv_disp {mk : List D → RV} {a : AV} {Q : VK} {R : List V → Hp → Prop}
    (hR : ∀ F H vs ds, Same F H → RpA Z F vs ds → vs.length ≤ sizeLine → (∀ v F' H', Gr F H F' H' → NwOk Z H F' H' v (mk ds) → Q v H') → R vs H) (h : tEv Z W (eDisp mk a) σ H Q) : tAv Z W a σ H R := by
  obtain ⟨N, F, e, S, P⟩ := h
  unfold eDisp at P
  refine ⟨N, F, e, S, ?_⟩
  cases q : a e with
  | no => rw [q] at P; exact P
  | ex z e1 => rw [q] at P; exact P
  | ok rs e1 =>
    rw [q] at P
    dsimp only at P
    intro vs F1 H1 f1 S1 h1
    cases q1 : fzs rs with
    | none => rw [q1] at P; exact P.elim
    | some ds =>
      rw [q1] at P
      dsimp only at P
      split at P
      · rename_i hz
        have r := fzs_rd h1 q1
        exact hR F1 H1 vs ds S1.le r (by rw [sizeLine_eq, r.length]; exact hz) (op_end S1 (PostE.shift P f1))
      · exact P.elim
theorem disp_lst {a : AV} {Q : VK} (h : tEv Z W (eDisp mkLst a) σ H Q) : tLst (tAv Z W a) σ H Q := tEv_disp (fun F H vs ds l r z q => ⟨z, fin_lst l q r⟩) h
theorem disp_tup {a : AV} {Q : VK} (h : tEv Z W (eDisp mkTup a) σ H Q) : tTup (tAv Z W a) σ H Q := tEv_disp (fun F H vs ds l r z q => ⟨z, fin_tup l q r⟩) h

/-! ### one's own object at a slot is changed -/
theorem mine_own {k : D → Bool} {s : Sl} (h : mine k s = true) : s.own = true ∧ ∃ d, s.val = some d ∧ k d = true := by
  cases s <;> simp only [mine] at h <;> first | exact ⟨rfl, _, rfl, h⟩ | cases h
theorem own_at (S : SOk Z N F H σ e) {i : Nat} {s : Sl} {d : D} (h : S3.slot e i = s) (ho : s.own = true) (hd : s.val = some d) : ∃ a, σ[i]? = some (some (.ref a)) ∧ F a = none ∧ Top Z F H a d ∧ e[i]? = some s := by
  have ne : s ≠ .no := fun z => by rw [z] at ho; cases ho
  have g := slot_get h ne
  obtain ⟨o, h1, h2⟩ := S.slot i s g
  cases s <;> simp only [Sl.own] at ho <;> try (cases ho; done)
  all_goals (simp only [Sl.val, Option.some.injEq] at hd; subst hd; obtain ⟨a, rfl, f, _, t⟩ := h2; exact ⟨a, h1, f, t, g⟩)
/-- a change: it reads the kept arguments, and lays another object at a -/
def SoundM (Z : Wd) (r : V → List V → Hp → VK → Prop) (k : D → Bool) (op : D → List D → Option (D × RV)) : Prop :=
  ∀ F H a vs d ds d' rr Q, Same F H → F a = none → Top Z F H a d → RpA Z F vs ds → k d = true → op d ds = some (d', rr) →
    (∀ v F' o, Same F F' → Same F' H → (∀ b u, H b = some u → F b = none → F' b = none) → Top Z F' (upd H a o) a d' → (∃ d, rr = .fz d ∧ Rp Z F' v d) → Q v (upd H a o)) → r (.ref a) vs H Q
theorem tEv_mut {i : Nat} {k : D → Bool} {op : D → List D → Option (D × RV)} {a : AV} {Q : VK} {r : V → List V → Hp → VK → Prop} {ty : V → Hp → Prop} (hs : SoundM Z r k op)
    (hty : ∀ F H p d, Top Z F H p d → k d = true → ty (.ref p) H) (h : tEv Z W (eMut i k op a) σ H Q) : tVar i σ H fun x H1 => ty x H1 ∧ tAv Z W a σ H1 fun vs H2 => r x vs H2 Q := by
  obtain ⟨N, F, e, S, P⟩ := h
  unfold eMut at P
  split at P
  · rename_i hm
    obtain ⟨ho, d0, hd0, hk0⟩ := mine_own hm
    obtain ⟨p, h1, f0, t0, g0⟩ := own_at S rfl ho hd0
    refine ⟨.ref p, h1, hty F H p d0 t0 hk0, N, F, e, S, ?_⟩
    cases q : a e with
    | no => rw [q] at P; exact P
    | ex z e1 => rw [q] at P; exact P
    | ok rs e1 =>
      rw [q] at P
      dsimp only at P
      intro vs F1 H1 f1 S1 hl
      cases q1 : fzs rs with
      | none => rw [q1] at P; exact P.elim
      | some ds =>
        rw [q1] at P
        dsimp only at P
        split at P
        · rename_i hm1
          obtain ⟨ho1, d1, hd1, hk1⟩ := mine_own hm1
          obtain ⟨p1, h2, f2, t2, g2⟩ := own_at S1 rfl ho1 hd1
          rw [h1] at h2
          cases h2
          rw [hd1] at P
          dsimp only at P
          cases q3 : op d1 ds with
          | none => rw [q3] at P; exact P.elim
          | some pr =>
            obtain ⟨d', rr⟩ := pr
            rw [q3] at P
            dsimp only at P
            refine hs F1 H1 p vs d1 ds d' rr Q S1.le f2 t2 (fzs_rd hl q1) hk1 q3 fun v F' o f' l' nf t' ⟨d2, er, rv⟩ => ?_
            subst er
            have S2 : SOk Z N F' H1 σ e1 := S1.grow f' (Same.refl _) l' nf
            have S3' := S2.write g2 ho1 h1 t'
            exact P v F' _ (f1.trans f') S3' rv
        · exact P.elim
  · exact P.elim
theorem m_append : SoundM Z rAppend isLst mAppend := by
  intro F H a vs d ds d' rr Q l fa t r hk ho q
  cases d <;> simp only [isLst] at hk <;> try (cases hk; done)
  rename_i xs
  obtain ⟨ys, ha, ra⟩ := t
  cases r with
  | nil => simp only [mAppend] at ho; cases ho
  | cons h1 h2 =>
    cases h2 with
    | cons _ _ => simp only [mAppend] at ho; cases ho
    | nil =>
      simp only [mAppend] at ho
      split at ho
      · rename_i hz
        cases ho
        refine ⟨a, ys, _, rfl, rfl, ha, by rw [sizeLine_eq, ra.length]; exact hz, ?_⟩
        exact q .non F _ (Same.refl _) l (fun _ _ _ h => h) ⟨_, upd_same, ra.append (.cons h1 .nil)⟩ ⟨_, rfl, .non⟩
      · cases ho
theorem last_of {α : Type} {xs : List α} {x : α} (h : xs.getLast? = some x) : xs[xs.length - 1]? = some x := by rw [← List.getLast?_eq_getElem?]; exact h
theorem m_pop : SoundM Z rPop isLst mPop := by
  intro F H a vs d ds d' rr Q l fa t r hk ho q
  cases d <;> simp only [isLst] at hk <;> try (cases hk; done)
  rename_i xs
  obtain ⟨ys, ha, ra⟩ := t
  cases r with
  | cons h1 h2 => simp only [mPop] at ho; cases ho
  | nil =>
    simp only [mPop] at ho
    cases q1 : xs.getLast? with
    | none => rw [q1] at ho; cases ho
    | some y =>
      rw [q1] at ho
      cases ho
      have q2 := last_of q1
      obtain ⟨v, h3, h4⟩ := ra.get q2
      rw [← ra.length] at h3
      exact ⟨a, ys, v, rfl, rfl, ha, h3, q v F _ (Same.refl _) l (fun _ _ _ h => h) ⟨_, upd_same, ra.dropLast⟩ ⟨_, rfl, h4⟩⟩
theorem ty_lst {K : PySem.W.Frag} : ∀ F H p d, Top Z F H p d → isLst d = true → tyV K "list" (.ref p) H := by
  intro F H p d t k
  cases d <;> simp only [isLst] at k <;> try (cases k; done)
  obtain ⟨xs, h, _⟩ := t
  exact .inl ⟨rfl, xs, SqL.of h⟩

/-! ### tests -/
theorem tTv_rd {p : D → Option Bool} {f : EV} {Q : Bool → Hp → Prop} {R : VK} (h : tTv Z W (tRd p f) σ H Q) (hR : ∀ F H v d b, Same F H → RdV Z F H v d → p d = some b → Q b H → R v H) : tEv Z W f σ H R := by
  obtain ⟨N, F, e, S, P⟩ := h
  unfold tRd at P
  refine ⟨N, F, e, S, ?_⟩
  cases q : f e with
  | no => rw [q] at P; exact P
  | ex z e1 => rw [q] at P; exact P
  | ok r e1 =>
    rw [q] at P
    dsimp only at P
    intro x F1 H1 f1 S1 R1
    obtain ⟨F2, f2, S2, r2⟩ := RvOk.hold S1 R1
    cases d1 : S3.rd r e1 with
    | none => rw [d1] at P; exact P.elim
    | some d =>
      rw [d1] at P
      dsimp only at P
      cases d2 : p d with
      | none => rw [d2] at P; exact P.elim
      | some b =>
        rw [d2] at P
        exact hR F2 H1 x d b S2.le (r2.rd S2 d1) d2 (P F2 H1 (f1.trans f2) S2)
theorem test_val {f : EV} {Q : Bool → Hp → Prop} (h : tTv Z W (tVal f) σ H Q) : tB (tEv Z W f) σ H Q :=
  tTv_rd h fun F H v d b l r hp q => by
    cases d <;> simp only [asBool] at hp <;> cases hp
    exact ⟨_, r.bl, q⟩
theorem tru_rd {K : PySem.W.Frag} (hK : Z.K = K) {F H : Hp} {v : V} {d : D} {b : Bool} (l : Same F H) (r : RdV Z F H v d) (h : truth d = some b) : TruV K v H b := by
  cases d <;> simp only [truth] at h <;> cases h
  · rw [r.non]; rfl
  · rw [r.bl]; rfl
  · rw [r.int]; rfl
  · rw [r.str.1]
    refine ⟨r.str.2.1, ?_⟩
    rename_i x
    by_cases c : x.length = 0
    · rw [c]; rfl
    · rw [bne_iff_ne.mpr c, bne_iff_ne.mpr (by omega)]
  · obtain ⟨a, xs, rfl, ha, ra⟩ := r.lst l
    refine .inl ⟨xs, SqL.of ha, ?_⟩
    cases ra <;> rfl
  · obtain ⟨a, xs, rfl, ha, ra⟩ := r.tup l
    refine .inr (.inl ⟨xs, SqT.of ha, ?_⟩)
    cases ra <;> rfl
  · obtain ⟨a, xs, rfl, ha, ra⟩ := r.dk l
    refine .inr (.inr ⟨xs, ha, ?_⟩)
    cases ra <;> rfl
theorem test_tru {K : PySem.W.Frag} (hK : Z.K = K) {f : EV} {Q : Bool → Hp → Prop} (h : tTv Z W (tTru f) σ H Q) : tEv Z W f σ H fun x H1 => ∃ k, TruV K x H1 k ∧ Q k H1 :=
  tTv_rd h fun F H v d b l r hp q => ⟨b, tru_rd hK l r hp, q⟩
/-- a first test, then what the rest asks -/
theorem bindT {f : TV} {g : Bool → TV} {Q R : Bool → Hp → Prop} {h0 : Env → RT} (S : SOk Z N F H σ e) (e0 : h0 e = match f e with | .ok b e1 => g b e1 | .ex x e1 => .ex x e1 | .no => .no) (P : PostT Z N F σ W Q (h0 e))
    (K : ∀ b F1 H1 e1, Same F F1 → SOk Z N F1 H1 σ e1 → PostT Z N F1 σ W Q (g b e1) → R b H1) : tTv Z W f σ H R := by
  rw [e0] at P
  refine ⟨N, F, e, S, ?_⟩
  cases q : f e with
  | no => rw [q] at P; exact P
  | ex z e1 => rw [q] at P; exact P
  | ok b e1 => rw [q] at P; exact fun F1 H1 f1 S1 => K b F1 H1 e1 f1 S1 (PostT.shift (r := g b e1) P f1)
theorem test_and {f g : TV} {Q : Bool → Hp → Prop} (h : tTv Z W (tAndS f g) σ H Q) : tAnd (tTv Z W f) (tTv Z W g) σ H Q := by
  obtain ⟨N, F, e, S, P⟩ := h
  refine bindT (g := fun b => if b then g else fun e => .ok false e) S (by unfold tAndS; cases f e with | ok b e1 => cases b <;> rfl | ex x e1 => rfl | no => rfl) P fun b F1 H1 e1 f1 S1 P1 => ?_
  cases b with
  | true => exact iteT ⟨N, F1, e1, S1, P1⟩
  | false => exact iteF (P1 F1 H1 (Same.refl _) S1)
theorem test_or {f g : TV} {Q : Bool → Hp → Prop} (h : tTv Z W (tOrS f g) σ H Q) : tOr (tTv Z W f) (tTv Z W g) σ H Q := by
  obtain ⟨N, F, e, S, P⟩ := h
  refine bindT (g := fun b => if b then fun e => .ok true e else g) S (by unfold tOrS; cases f e with | ok b e1 => cases b <;> rfl | ex x e1 => rfl | no => rfl) P fun b F1 H1 e1 f1 S1 P1 => ?_
  cases b with
  | true => exact iteT (P1 F1 H1 (Same.refl _) S1)
  | false => exact iteF ⟨N, F1, e1, S1, P1⟩
theorem test_not {f : TV} {Q : Bool → Hp → Prop} (h : tTv Z W (tNotS f) σ H Q) : tNot (tTv Z W f) σ H Q := by
  obtain ⟨N, F, e, S, P⟩ := h
  exact bindT (g := fun b e => .ok (!b) e) S (by unfold tNotS; cases f e with | ok b e1 => rfl | ex x e1 => rfl | no => rfl) P fun b F1 H1 e1 f1 S1 P1 => P1 F1 H1 (Same.refl _) S1
/-- a if c else b -/
theorem ev_if_rd {c : TV} {f g : EV} {Q : VK} (h : tEv Z W (eIf c f g) σ H Q) : tIf (tTv Z W c) (tEv Z W f) (tEv Z W g) σ H Q := by
  obtain ⟨N, F, e, S, P⟩ := h
  unfold eIf at P
  refine ⟨N, F, e, S, ?_⟩
  cases q : c e with
  | no => rw [q] at P; exact P
  | ex z e1 => rw [q] at P; exact P
  | ok b e1 =>
    rw [q] at P
    cases b with
    | true => exact fun F1 H1 f1 S1 => iteT ⟨N, F1, e1, S1, PostE.shift P f1⟩
    | false => exact fun F1 H1 f1 S1 => iteF ⟨N, F1, e1, S1, PostE.shift P f1⟩
/-- x and y, x or y, not x as values -/
theorem and_rd {K : PySem.W.Frag} (hK : Z.K = K) {f g : EV} {Q : VK} (h : tEv Z W (eAnd f g) σ H Q) : tAndT K (tEv Z W f) (tEv Z W g) σ H Q := by
  obtain ⟨N, F, e, S, P⟩ := h
  refine bindL S P fun x F1 H1 e1 r f1 S1 R1 P1 => ?_
  have rr := fun d => RvOk.rd (d := d) S1 R1
  cases d1 : S3.rd r e1 with
  | none => rw [d1] at P1; exact P1.elim
  | some d =>
    rw [d1] at P1
    dsimp only at P1
    cases d2 : truth d with
    | none => rw [d2] at P1; exact P1.elim
    | some b =>
      rw [d2] at P1
      refine ⟨b, tru_rd hK S1.le (rr d d1) d2, ?_⟩
      cases b with
      | true => exact iteT ⟨N, F1, e1, S1, P1⟩
      | false => exact iteF (P1 x F1 H1 (Same.refl _) S1 R1)
theorem or_rd {K : PySem.W.Frag} (hK : Z.K = K) {f g : EV} {Q : VK} (h : tEv Z W (eOr f g) σ H Q) : tOrT K (tEv Z W f) (tEv Z W g) σ H Q := by
  obtain ⟨N, F, e, S, P⟩ := h
  refine bindL S P fun x F1 H1 e1 r f1 S1 R1 P1 => ?_
  have rr := fun d => RvOk.rd (d := d) S1 R1
  cases d1 : S3.rd r e1 with
  | none => rw [d1] at P1; exact P1.elim
  | some d =>
    rw [d1] at P1
    dsimp only at P1
    cases d2 : truth d with
    | none => rw [d2] at P1; exact P1.elim
    | some b =>
      rw [d2] at P1
      refine ⟨b, tru_rd hK S1.le (rr d d1) d2, ?_⟩
      cases b with
      | true => exact iteT (P1 x F1 H1 (Same.refl _) S1 R1)
      | false => exact iteF ⟨N, F1, e1, S1, P1⟩
theorem not_rd {K : PySem.W.Frag} (hK : Z.K = K) {f : EV} {Q : VK} (h : tEv Z W (eNot f) σ H Q) : tNotT K (tEv Z W f) σ H Q :=
  one (r := fun x H1 Q => ∃ k, TruV K x H1 k ∧ Q (.bl (!k)) H1) (fun F H x dx rr Q l hx ho q => by
    rw [Option.map_eq_some_iff] at ho
    obtain ⟨b, h1, rfl⟩ := ho
    exact ⟨b, tru_rd hK l hx h1, fin_bl l q⟩) h
end

section
variable {ca : Str → Option Addr} {W : WX} {X : Cx} {a b c : Expr} {es rest : List Expr} {fa fb fc : EV} {ga : AV} {ta tb : TV} {pos p : Pos}
theorem av_nil : Av ca W X [] aNil := PA_imp pa_nil fun _ _ _ => tAv_nil
theorem av_keep (ha : Ev ca W X a fa) (hr : Av ca W X es ga) (hs : starEach (a :: es) X.env = (false, eval a X.env) :: starEach es X.env := by rfl) : Av ca W X (a :: es) (aKeep fa ga) := PA_imp (pa_cons ha hr hs) fun _ _ _ => tAv_keep
theorem av_cons (ha : Ev ca W X a fa) (hr : Av ca W X es ga) (hs : starEach (a :: es) X.env = (false, eval a X.env) :: starEach es X.env := by rfl) : Av ca W X (a :: es) (aCons fa ga) := PA_imp (pa_cons ha hr hs) fun _ _ _ => tAv_cons
theorem ev_lst (h : Av ca W X es ga) : Ev ca W X (.List es pos) (eDisp mkLst ga) := PE_imp (pe_lst h) fun _ _ _ => disp_lst
theorem ev_tup {k : Nat} (h : Av ca W X es ga) : Ev ca W X (.Tuple es k pos) (eDisp mkTup ga) := PE_imp (pe_tup h) fun _ _ _ => disp_tup
/-- x.append(a), x a slot -/
theorem ev_append {i : Nat} {x : Str} {px apos : Pos} (hx : PE X (.Name x px) (tVar i)) (ha : Av ca W X [a] ga)
    (hbase : attributeBase (.Name x px) "append" X.env (eval (.Name x px) X.env) = eval (.Name x px) X.env := by rfl)
    (hline : (apos.endLine == pos.line) = true := by rfl) (hs : starEach [a] X.env = (false, eval a X.env) :: starEach [] X.env := by rfl) : Ev ca W X (.Call (.Attribute (.Name x px) "append" apos) [a] [] pos) (eMut i isLst mAppend ga) :=
  PE_imp (pe_bm PySem.F.plainAttrs_list PySem.F.slot_list_append PySem.F.type_list_append mt_append hx ha hbase (by rw [hs]; rfl) hline hs (by rfl)) fun _ _ _ => tEv_mut m_append ty_lst
theorem ev_pop {i : Nat} {x : Str} {px apos : Pos} (hx : PE X (.Name x px) (tVar i))
    (hbase : attributeBase (.Name x px) "pop" X.env (eval (.Name x px) X.env) = eval (.Name x px) X.env := by rfl)
    (hline : (apos.endLine == pos.line) = true := by rfl) : Ev ca W X (.Call (.Attribute (.Name x px) "pop" apos) [] [] pos) (eMut i isLst mPop aNil) :=
  PE_imp (pe_bm0 PySem.F.plainAttrs_list PySem.F.slot_list_pop PySem.F.type_list_pop mt_pop hx hbase hline) fun σ H Q h => by
    obtain ⟨v, h1, h2, h3⟩ := tEv_mut m_pop ty_lst h
    exact ⟨v, h1, h2, tAv_nil h3⟩
/-! tests -/
theorem tv_val (h : Ev ca W X a fa) (he : ∀ whole, isTrue a X.env whole = (do let v ← whole; standAt a.pos; holding [v] (truthy v)) := by intro _; rfl) : Tv ca W X a (tVal fa) := PT_imp (pt_val h he) fun _ _ _ => test_val
theorem tv_tru (h : Ev ca W X a fa) (he : ∀ whole, isTrue a X.env whole = (do let v ← whole; standAt a.pos; holding [v] (truthy v)) := by intro _; rfl) : Tv ca W X a (tTru fa) := PT_imp (pt_truth h he) fun _ _ _ => test_tru rfl
theorem tv_cmp {op : CmpOp} {r : V → V → Hp → VK → Prop} {o : D → D → Option RV} (ho : OpR X (compareOp op) r) (hs : Sound2 (zw ca X) r o) (ha : Ev ca W X a fa) (hb : Ev ca W X b fb) (hm : behindInMarks op b = false) : Tv ca W X (.Compare a [op] [b] pos) (tVal (eOp2 o fa fb)) :=
  PT_imp (pt_cmpR ho ha hb hm) fun σ H Q h => two hs (Q := fun x H' => ∃ k, x = .bl k ∧ Q k H') (test_val h)
theorem tv_not (h : Tv ca W X a ta) : Tv ca W X (.UnaryOp .Not a pos) (tNotS ta) := PT_imp (pt_not h) fun _ _ _ => test_not
theorem wv_and1 (h : Tv ca W X a ta) : PW X (.BoolOp .And [a] pos) (tTv (zw ca X) W ta) := pw_and1 h
theorem wv_or1 (h : Tv ca W X a ta) : PW X (.BoolOp .Or [a] pos) (tTv (zw ca X) W ta) := pw_or1 h
theorem wv_and (ha : Tv ca W X a ta) (hb : PW X (.BoolOp .And (b :: rest) pos) (tTv (zw ca X) W tb)) : PW X (.BoolOp .And (a :: b :: rest) pos) (tTv (zw ca X) W (tAndS ta tb)) := PW_imp (pw_and ha hb) fun _ _ _ => test_and
theorem wv_or (ha : Tv ca W X a ta) (hb : PW X (.BoolOp .Or (b :: rest) pos) (tTv (zw ca X) W tb)) : PW X (.BoolOp .Or (a :: b :: rest) pos) (tTv (zw ca X) W (tOrS ta tb)) := PW_imp (pw_or ha hb) fun _ _ _ => test_or
theorem tv_w {e : Expr} (h : PW X e (tTv (zw ca X) W ta)) : Tv ca W X e ta := h.pt
theorem ev_if (hc : Tv ca W X c ta) (ha : Ev ca W X a fa) (hb : Ev ca W X b fb) : Ev ca W X (.IfExp c a b pos) (eIf ta fa fb) := PE_imp (pe_ifExp hc ha hb) fun _ _ _ => ev_if_rd
theorem ev_one {op : BoolOp} (ha : Ev ca W X a fa) : Ev ca W X (.BoolOp op [a] pos) fa := pe_one ha
theorem ev_and (ha : Ev ca W X a fa) (hb : Ev ca W X (.BoolOp .And (b :: rest) pos) fb) : Ev ca W X (.BoolOp .And (a :: b :: rest) pos) (eAnd fa fb) := PE_imp (pe_andT ha hb) fun _ _ _ => and_rd rfl
theorem ev_or (ha : Ev ca W X a fa) (hb : Ev ca W X (.BoolOp .Or (b :: rest) pos) fb) : Ev ca W X (.BoolOp .Or (a :: b :: rest) pos) (eOr fa fb) := PE_imp (pe_orT ha hb) fun _ _ _ => or_rd rfl
theorem ev_not (ha : Ev ca W X a fa) : Ev ca W X (.UnaryOp .Not a pos) (eNot fa) := PE_imp (pe_notT ha) fun _ _ _ => not_rd rfl
end
end S3

/-! B8: statements. -/
namespace S3
open PySem L2
section
variable {Z : Wd} {F F' H H' : Hp} {N : En} {σ : St} {e e' : Env} {v x y : V} {W : WX} {E : Ends}
/-- an expression, then what the rest of the statement asks -/
theorem bindS {f : EV} {k : RV → SV} {R : VK} (S : SOk Z N F H σ e) (P : PostS Z N F W E (sE f k e))
    (K : ∀ x F1 H1 e1 r, Same F F1 → SOk Z N F1 H1 σ e1 → RvOk Z N F1 H1 σ e1 x r → PostS Z N F1 W E (k r e1) → R x H1) : tEv Z W f σ H R := by
  unfold sE at P
  refine ⟨N, F, e, S, ?_⟩
  cases q : f e with
  | no => rw [q] at P; exact P
  | ex z e1 => rw [q] at P; exact fun cls d F1 H1 f1 S1 x => P cls d F1 H1 σ f1 S1 x
  | ok r e1 => rw [q] at P; exact fun x F1 H1 f1 S1 R1 => K x F1 H1 e1 r f1 S1 R1 (PostS.shift (r := k r e1) P f1)
theorem bindSI {f : EV} {k : RV → SV} {R : VK} (S : SOk Z N F H σ e) (P : PostS Z N F W E (sE (eI f) k e))
    (K : ∀ i F1 H1 e1, Same F F1 → SOk Z N F1 H1 σ e1 → PostS Z N F1 W E (k (.fz (.int i)) e1) → R (.int i) H1) : tEv Z W f σ H R := by
  unfold sE eI eBind at P
  refine ⟨N, F, e, S, ?_⟩
  cases q : f e with
  | no => rw [q] at P; exact P
  | ex z e1 => rw [q] at P; exact fun cls d F1 H1 f1 S1 x => P cls d F1 H1 σ f1 S1 x
  | ok r e1 =>
    rw [q] at P
    cases r with
    | fz d =>
      cases d with
      | int i =>
        intro x F1 H1 f1 S1 R1
        have ex : x = .int i := RdV.int (H := H1) (.inl R1)
        subst ex
        exact K i F1 H1 e1 f1 S1 (PostS.shift (r := k (.fz (.int i)) e1) P f1)
      | _ => exact P.elim
    | _ => exact P.elim
theorem bindST {f : TV} {g : Bool → SV} {R : Bool → Hp → Prop} {h0 : RS} (S : SOk Z N F H σ e) (e0 : h0 = match f e with | .ok b e1 => g b e1 | .ex x e1 => .ex x e1 | .no => .no) (P : PostS Z N F W E h0)
    (K : ∀ b F1 H1 e1, Same F F1 → SOk Z N F1 H1 σ e1 → PostS Z N F1 W E (g b e1) → R b H1) : tTv Z W f σ H R := by
  rw [e0] at P
  refine ⟨N, F, e, S, ?_⟩
  cases q : f e with
  | no => rw [q] at P; exact P
  | ex z e1 => rw [q] at P; exact fun cls d F1 H1 f1 S1 x => P cls d F1 H1 σ f1 S1 x
  | ok b e1 => rw [q] at P; exact fun F1 H1 f1 S1 => K b F1 H1 e1 f1 S1 (PostS.shift (r := g b e1) P f1)

theorem st_nx (h : tSv Z W sNx E σ H) : tNext E σ H := by
  obtain ⟨N, F, e, S, P⟩ := h
  exact P F H σ (Same.refl _) S
theorem st_seq {f g : SV} (h : tSv Z W (sSeq f g) E σ H) : tSeq (tSv Z W f) (tSv Z W g) E σ H := by
  obtain ⟨N, F, e, S, P⟩ := h
  unfold sSeq sBind at P
  refine ⟨N, F, e, S, ?_⟩
  cases q : f e with
  | no => rw [q] at P; exact P
  | nx e1 => rw [q] at P; exact fun F1 H1 σ1 f1 S1 => ⟨N, F1, e1, S1, PostS.shift P f1⟩
  | rt r e1 => rw [q] at P; exact P
  | bk e1 => rw [q] at P; exact P
  | ct e1 => rw [q] at P; exact P
  | ex x e1 => rw [q] at P; exact P
theorem st_bk (h : tSv Z W sBk E σ H) : tBreak E σ H := by
  obtain ⟨N, F, e, S, P⟩ := h
  exact P F H σ (Same.refl _) S
theorem st_ct (h : tSv Z W sCt E σ H) : tCont E σ H := by
  obtain ⟨N, F, e, S, P⟩ := h
  exact P F H σ (Same.refl _) S
theorem st_expr {f : EV} (h : tSv Z W (sExpr f) E σ H) : tDrop (tEv Z W f) E σ H := by
  obtain ⟨N, F, e, S, P⟩ := h
  exact bindS S P fun x F1 H1 e1 r f1 S1 R1 P1 => P1 F1 H1 σ (Same.refl _) S1
theorem st_ret {f : EV} (h : tSv Z W (sRet f) E σ H) : tRet (tEv Z W f) E σ H := by
  obtain ⟨N, F, e, S, P⟩ := h
  refine bindS S P fun x F1 H1 e1 r f1 S1 R1 P1 => ?_
  cases r with
  | fz d => exact P1 x F1 H1 σ (Same.refl _) S1 R1
  | nw d => exact P1 x F1 H1 σ (Same.refl _) S1 R1
  | «at» i =>
    obtain ⟨h1, s, h2, h3⟩ := R1
    have q : S3.slot e1 i = s := slot_of h2
    unfold ret at P1
    dsimp only at P1
    rw [q] at P1
    obtain ⟨o, g1, g2⟩ := S1.slot i s h2
    rw [h1] at g1
    cases g1
    cases s with
    | fz d =>
      obtain ⟨w, e1, r⟩ := g2
      cases e1
      exact P1 x F1 H1 σ (Same.refl _) S1 r
    | ow d =>
      obtain ⟨a, e1, fa, na, t⟩ := g2
      cases e1
      refine P1 _ F1 H1 σ (Same.refl _) (S1.forget i) ⟨a, rfl, fa, na, t, fun j s' hj l => ?_⟩
      rcases get_set hj with ⟨_, rfl, _⟩ | ⟨ne, hj'⟩
      · exact l
      · exact S1.sep i j _ s' a h2 hj' ne rfl (by rw [h1]; rfl) l
    | _ => exact P1.elim
theorem st_retN (h : tSv Z W sRetN E σ H) : tRetN E σ H := by
  obtain ⟨N, F, e, S, P⟩ := h
  exact P .non F H σ (Same.refl _) S .non
theorem st_if {c : TV} {f g : SV} (h : tSv Z W (sIf c f g) E σ H) : tIfS (tTv Z W c) (tSv Z W f) (tSv Z W g) E σ H := by
  obtain ⟨N, F, e, S, P⟩ := h
  refine bindST (g := fun b => if b then f else g) S (by unfold sIf; cases c e with | ok b e1 => cases b <;> rfl | ex x e1 => rfl | no => rfl) P fun b F1 H1 e1 f1 S1 P1 => ?_
  cases b with
  | true => exact iteT ⟨N, F1, e1, S1, P1⟩
  | false => exact iteF ⟨N, F1, e1, S1, P1⟩
/-- a value is given to a slot -/
theorem set_ok {i : Nat} {r : RV} (S : SOk Z N F H σ e) (R : RvOk Z N F H σ e v r) (h : setS i r e = some e') : ∃ F', Same F F' ∧ SOk Z N F' H (σ.set i (some v)) e' := by
  cases r with
  | fz d => cases h; exact ⟨F, Same.refl _, S.set R⟩
  | nw d =>
    cases h
    obtain ⟨a, rfl, fa, na, t, ap⟩ := R
    exact ⟨F, Same.refl _, S.setOw fa na t ap⟩
  | «at» j =>
    simp only [setS, Option.map_eq_some_iff] at h
    obtain ⟨⟨d, e1⟩, h1, rfl⟩ := h
    obtain ⟨F', f, S', r⟩ := RvOk.stl S R h1
    exact ⟨F', f, S'.set r⟩
theorem st_set {i : Nat} {f : EV} (h : tSv Z W (sSet i f) E σ H) : tAsg (tEv Z W f) (gName i) E σ H := by
  obtain ⟨N, F, e, S, P⟩ := h
  refine bindS S P fun x F1 H1 e1 r f1 S1 R1 P1 => ?_
  cases q : setS i r e1 with
  | none => rw [q] at P1; exact P1.elim
  | some e2 =>
    rw [q] at P1
    obtain ⟨F2, f2, S2⟩ := set_ok S1 R1 q
    exact P1 F2 H1 _ f2 S2
/-! targets -/
def tgIx : Tg → List Nat
  | .one i => [i]
  | .tup is => is
/-- the slots but those at is are as they were -/
def Off (is : List Nat) (σ σ' : St) : Prop := σ'.length = σ.length ∧ ∀ j, j ∉ is → σ'[j]? = σ[j]?
theorem Off.set (i : Nat) (is : List Nat) (σ σ' : St) (o : Option V) (h : Off is (σ.set i o) σ') : Off (i :: is) σ σ' := by
  refine ⟨by rw [h.1, List.length_set], fun j hj => ?_⟩
  rw [List.mem_cons, not_or] at hj
  rw [h.2 j hj.2, List.getElem?_set_ne (Ne.symm hj.1)]
def TgOk (Z : Wd) (g : TG) (t : Tg) : Prop := ∀ (N : En) (F H : Hp) (σ : St) (e : Env) (v : V) (d : D) (e1 : Env) (Q : St → Hp → Prop), SOk Z N F H σ e → Rp Z F v d → tgt t d e = some e1 → (∀ σ', SOk Z N F H σ' e1 → Off (tgIx t) σ σ' → Q σ' H) → g v σ H Q
theorem tg_one {i : Nat} : TgOk Z (gName i) (.one i) := fun N F H σ e v d e1 Q S r h q => by
  cases h
  exact q _ (S.set r) (Off.set i [] _ _ _ ⟨rfl, fun _ _ => rfl⟩)
def TgsOk (Z : Wd) (g : TGs) (is : List Nat) : Prop := ∀ (N : En) (F H : Hp) (σ : St) (e : Env) (vs : List V) (ds : List D) (e1 : Env) (Q : St → Hp → Prop), SOk Z N F H σ e → RpA Z F vs ds → setAll is ds e = some e1 → (∀ σ', SOk Z N F H σ' e1 → Off is σ σ' → Q σ' H) → g vs σ H Q
theorem tgs_nil : TgsOk Z gNil [] := fun N F H σ e vs ds e1 Q S r h q => by
  cases r with
  | nil => cases h; exact ⟨rfl, q _ S ⟨rfl, fun _ _ => rfl⟩⟩
  | cons _ _ => cases h
theorem tgs_cons {i : Nat} {is : List Nat} {g : TGs} (k : TgsOk Z g is) : TgsOk Z (gCons (gName i) g) (i :: is) := fun N F H σ e vs ds e1 Q S r h q => by
  cases r with
  | nil => cases h
  | cons r1 r2 => exact ⟨_, _, rfl, k N F H _ _ _ _ e1 Q (S.set r1) r2 h fun σ' S' o => q σ' S' (Off.set i is _ _ _ o)⟩
theorem setAll_len : ∀ {is : List Nat} {ds : List D} {e e1 : Env}, setAll is ds e = some e1 → is.length = ds.length
  | [], [], _, _, _ => rfl
  | [], _ :: _, _, _, h => by cases h
  | _ :: _, [], _, _, h => by cases h
  | _ :: is, _ :: ds, _, _, h => congrArg Nat.succ (setAll_len (is := is) (ds := ds) h)
theorem tg_tup {is : List Nat} {g : TGs} {n : Nat} (k : TgsOk Z g is) (hn : n = is.length) {K : PySem.W.Frag} (hK : Z.K = K) : TgOk Z (gTup K n g) (.tup is) := fun N F H σ e v d e1 Q S r h q => by
  cases d <;> simp only [tgt] at h <;> try (cases h; done)
  obtain ⟨a, xs, rfl, ha, ra⟩ := RdV.tup (H := H) S.le (.inl r)
  exact ⟨a, xs, rfl, SqT.of ha, by rw [ra.length, ← setAll_len h, hn], k N F H σ e xs _ e1 Q S ra h q⟩
theorem st_unp {is : List Nat} {f : EV} {g : TG} (k : TgOk Z g (.tup is)) (h : tSv Z W (sUnp is f) E σ H) : tAsg (tEv Z W f) g E σ H := by
  obtain ⟨N, F, e, S, P⟩ := h
  refine bindS S P fun x F1 H1 e1 r f1 S1 R1 P1 => ?_
  cases q : stl r e1 with
  | none => rw [q] at P1; exact P1.elim
  | some pr =>
    obtain ⟨d, e2⟩ := pr
    rw [q] at P1
    cases d <;> try exact P1.elim
    rename_i ds
    dsimp only at P1
    cases q2 : setAll is ds e2 with
    | none => rw [q2] at P1; exact P1.elim
    | some e3 =>
      rw [q2] at P1
      obtain ⟨F2, f2, S2, r2⟩ := RvOk.stl S1 R1 q
      exact k N F2 H1 σ e2 x (.tup ds) e3 _ S2 r2 q2 fun σ' S3 _ => P1 F2 H1 σ' f2 S3

/-! ### loops -/
/-- the walker J gives the items ds, from F on -/
def WalkOk (Z : Wd) (N : En) (F : Hp) (J : It) (ds : List D) : Prop := ∀ F' H' σ e, SOk Z N F' H' σ e → Same F F' → ∀ i,
  (∀ d, ds[i]? = some d → J.go i H' ∧ ∀ x H2, J.yld i H' x H2 → ∃ F2, Gr F' H' F2 H2 ∧ Rp Z F2 x d) ∧ (ds.length ≤ i → J.stop i H')
theorem for_sound {J : It} {ds : List D} {tmp : List Nat} {t : Tg} {g : TG} {b : SV} (wk : WalkOk Z N F J ds) (tk : TgOk Z g t) (S : SOk Z N F H σ e) (P : PostS Z N F W E (forL tmp t b ds e)) :
    ∃ Wm : Nat → Nat → St → Hp → Prop, (∃ m, Wm 0 m σ H) ∧ ∀ i m σ H, Wm i m σ H →
      (J.stop i H ∧ E.nx σ H) ∨ (J.go i H ∧ ∃ Nx : St → Hp → Prop, (∀ σ' H', Nx σ' H' → ∃ m', m' < m ∧ Wm (i + 1) m' σ' H') ∧ ∀ x H', J.yld i H x H' → g x σ H' fun σ2 H2 => tSv Z W b { E with nx := Nx, ct := Nx, bk := E.nx } σ2 H2) := by
  refine ⟨fun i m σ H => m = ds.length - i ∧ i ≤ ds.length ∧ ∃ F' e', Same F F' ∧ SOk Z N F' H σ e' ∧ PostS Z N F' W E (forL tmp t b (ds.drop i) e'), ⟨ds.length, rfl, Nat.zero_le _, F, e, Same.refl _, S, P⟩, ?_⟩
  rintro i m σ H ⟨rfl, hi, F1, e1, f1, S1, P1⟩
  obtain ⟨w1, w2⟩ := wk F1 H σ e1 S1 f1 i
  by_cases hlt : i < ds.length
  · have ed : ds.drop i = ds[i] :: ds.drop (i + 1) := List.drop_eq_getElem_cons hlt
    have ei : ds[i]? = some ds[i] := List.getElem?_eq_getElem hlt
    rw [ed] at P1
    generalize ds[i] = d at P1 ei
    obtain ⟨go, yl⟩ := w1 d ei
    unfold forL at P1
    cases q : tgt t d e1 with
    | none => rw [q] at P1; exact P1.elim
    | some e2 =>
      rw [q] at P1
      dsimp only at P1
      refine .inr ⟨go, fun σ' H' => ∃ F' e', Same F F' ∧ SOk Z N F' H' σ' e' ∧ PostS Z N F' W E (forL tmp t b (ds.drop (i + 1)) e'), fun σ' H' ⟨F', e', f', S', P'⟩ => ⟨ds.length - (i + 1), by omega, rfl, hlt, F', e', f', S', P'⟩, fun x H2 hy => ?_⟩
      obtain ⟨F2, g2, r2⟩ := yl x H2 hy
      refine tk N F2 H2 σ e1 x d e2 _ (S1.gr g2) r2 q fun σ' S2 _ => ⟨N, F2, e2, S2, ?_⟩
      cases q2 : b e2 with
      | no => rw [q2] at P1; exact P1
      | nx e3 => rw [q2] at P1; exact fun F3 H3 σ3 f3 S3 => ⟨F3, _, (f1.trans g2.f).trans f3, S3.wipe tmp, PostS.shift P1 (g2.f.trans f3)⟩
      | ct e3 => rw [q2] at P1; exact fun F3 H3 σ3 f3 S3 => ⟨F3, _, (f1.trans g2.f).trans f3, S3.wipe tmp, PostS.shift P1 (g2.f.trans f3)⟩
      | bk e3 => rw [q2] at P1; exact fun F3 H3 σ3 f3 S3 => P1 F3 H3 σ3 (g2.f.trans f3) (S3.wipe tmp)
      | rt r e3 => rw [q2] at P1; exact fun v F3 H3 σ3 f3 => P1 v F3 H3 σ3 (g2.f.trans f3)
      | ex x e3 => rw [q2] at P1; exact fun c d' F3 H3 σ3 f3 => P1 c d' F3 H3 σ3 (g2.f.trans f3)
  · have e0 : ds.drop i = [] := List.drop_eq_nil_of_le (Nat.le_of_not_lt hlt)
    rw [e0] at P1
    exact .inl ⟨w2 (Nat.le_of_not_lt hlt), P1 F1 H σ (Same.refl _) S1⟩
/-- what is walked, settled -/
theorem walk_ok {r : RV} {d : D} (S : SOk Z N F H σ e) (R : RvOk Z N F H σ e v r) (h : walk r e = some (d, e')) :
    ∃ F', Same F F' ∧ SOk Z N F' H σ e' ∧ (Rp Z F' v d ∨ ∃ a, v = .ref a ∧ (∃ u, N.H a = some u) ∧ a ∉ N.M ∧ Top Z F' H a d) := by
  cases r with
  | fz x => cases h; exact ⟨F, Same.refl _, S, .inl R⟩
  | nw x =>
    cases h
    obtain ⟨F', f, S', r⟩ := RvOk.stl (e' := e) S R rfl
    exact ⟨F', f, S', .inl r⟩
  | «at» i =>
    have R' := R
    obtain ⟨h1, s, h2, h3⟩ := R
    have q : S3.slot e i = s := slot_of h2
    unfold walk at h
    dsimp only at h
    rw [q] at h
    cases s with
    | fz x =>
      cases h
      obtain ⟨F', f, S', r⟩ := RvOk.stl (e' := e) (d := d) S R' (by unfold S3.stl; dsimp only; rw [q])
      exact ⟨F', f, S', .inl r⟩
    | ow x =>
      cases h
      obtain ⟨F', f, S', r⟩ := RvOk.stl (e' := e.set i (.fz d)) (d := d) S R' (by unfold S3.stl; dsimp only; rw [q])
      exact ⟨F', f, S', .inl r⟩
    | bo x =>
      cases h
      obtain ⟨o, g1, w, rfl, g2⟩ := S.slot i _ h2
      rw [h1] at g1
      cases g1
      refine ⟨F, Same.refl _, S, ?_⟩
      rcases g2 with g2 | ⟨a, rfl, _, u, m, t⟩
      · exact .inl g2
      · exact .inr ⟨a, rfl, u, m, t⟩
    | no => cases h
    | mu x => cases h
theorem walk_lst {K : PySem.W.Frag} (hK : Z.K = K) {ds : List D} (S : SOk Z N F H σ e) (h : Rp Z F v (.lst ds) ∨ ∃ a, v = .ref a ∧ (∃ u, N.H a = some u) ∧ a ∉ N.M ∧ Top Z F H a (.lst ds)) :
    ∃ a, v = .ref a ∧ (∃ xs, SqL K H a xs) ∧ WalkOk Z N F (Itl K a) ds := by
  obtain ⟨a, xs, rfl, ha, ra, st⟩ : ∃ a xs, v = .ref a ∧ H a = some (.lst xs) ∧ RpA Z F xs ds ∧ ∀ F' H' σ e, SOk Z N F' H' σ e → Same F F' → H' a = some (.lst xs) := by
    rcases h with h | ⟨a, rfl, ⟨u, hu⟩, m, xs, ha, ra⟩
    · cases h with
      | lst k r => exact ⟨_, _, rfl, S.le _ _ k, r, fun F' H' σ e S' f => S'.le _ _ (f _ _ k)⟩
    · have e1 := S.h0 a u hu m
      rw [ha] at e1
      cases e1
      exact ⟨a, xs, rfl, ha, ra, fun F' H' σ e S' f => S'.h0 a _ hu m⟩
  refine ⟨a, rfl, ⟨xs, SqL.of ha⟩, fun F' H' σ' e' S' f i => ⟨fun d hd => ?_, fun hl => ⟨xs, SqL.of (st _ _ _ _ S' f), by rw [ra.length]; exact hl⟩⟩⟩
  have hx := st _ _ _ _ S' f
  obtain ⟨w, hw, rw'⟩ := ra.get hd
  refine ⟨⟨xs, w, SqL.of hx, hw⟩, fun x H2 ⟨e2, y⟩ => ?_⟩
  subst e2
  have := y xs (SqL.of hx)
  rw [hw] at this
  cases this
  exact ⟨F', Gr.refl S'.le, rw'.mono f⟩
theorem walk_tup {K : PySem.W.Frag} (hK : Z.K = K) {ds : List D} (S : SOk Z N F H σ e) (h : Rp Z F v (.tup ds)) : ∃ a, v = .ref a ∧ (∃ xs, SqT K H a xs) ∧ WalkOk Z N F (Itt K a) ds := by
  cases h with
  | @tup a xs _ k ra =>
    refine ⟨a, rfl, ⟨xs, SqT.of (S.le _ _ k)⟩, fun F' H' σ' e' S' f i => ⟨fun d hd => ?_, fun hl => ⟨xs, SqT.of (S'.le _ _ (f _ _ k)), by rw [ra.length]; exact hl⟩⟩⟩
    have hx := S'.le _ _ (f _ _ k)
    obtain ⟨w, hw, rw'⟩ := ra.get hd
    refine ⟨⟨xs, w, SqT.of hx, hw⟩, fun x H2 ⟨e2, y⟩ => ?_⟩
    subst e2
    have := y xs (SqT.of hx)
    rw [hw] at this
    cases this
    exact ⟨F', Gr.refl S'.le, rw'.mono f⟩
theorem walk_scr {K : PySem.W.Frag} (hK : Z.K = K) {ds : List D} (S : SOk Z N F H σ e) (h : Rp Z F v (.scr ds)) : ∃ a, v = .ref a ∧ (∃ xs, SqL K H a xs) ∧ WalkOk Z N F (Itl K a) ds := by
  subst hK
  cases h with
  | @scr a xs _ k ra =>
    refine ⟨a, rfl, ⟨xs, Same.seq S.le k⟩, fun F' H' σ' e' S' f i => ⟨fun d hd => ?_, fun hl => ⟨xs, Same.seq S'.le (Same.seq f k), by rw [ra.length]; exact hl⟩⟩⟩
    have hx := Same.seq S'.le (Same.seq f k)
    obtain ⟨w, hw, rw'⟩ := ra.get hd
    refine ⟨⟨xs, w, hx, hw⟩, fun x H2 ⟨e2, y⟩ => ?_⟩
    subst e2
    have := y xs hx
    rw [hw] at this
    cases this
    exact ⟨F', Gr.refl S'.le, rw'.mono f⟩
theorem walk_str {x : Str} (hx : sOk x = true) : WalkOk Z N F (Its x) (x.cps.toList.map fun c => .str ⟨#[c]⟩) := fun F' H' σ' e' S' f i => by
  refine ⟨fun d hd => ?_, fun hl => ?_⟩
  · rw [List.getElem?_map, Option.map_eq_some_iff] at hd
    obtain ⟨c, hc, rfl⟩ := hd
    have hc' : x.cps[i]? = some c := by rw [← hc, Array.getElem?_toList]
    refine ⟨(Array.getElem?_eq_some_iff.mp hc').1, fun v H2 ⟨e2, c2, hc2, ev⟩ => ?_⟩
    subst e2 ev
    rw [hc'] at hc2
    cases hc2
    refine ⟨F', Gr.refl S'.le, .str _ (sOk_of (by show 1 ≤ LIM; decide) ?_)⟩
    have h3 := Array.all_eq_true_iff_forall_mem.mp (sOk_cps hx) c (Array.mem_of_getElem? hc')
    simpa using h3
  · rw [List.length_map, Array.length_toList] at hl
    exact hl
def PostW (Z : Wd) (N : En) (F : Hp) (σ : St) (W : WX) (R : It → Hp → Prop) : RW → Prop
  | .no => False
  | .ok xs e => ∀ J F' H', Same F F' → SOk Z N F' H' σ e → WalkOk Z N F' J xs → R J H'
  | .ex x e => ∀ cls d F' H', Same F F' → SOk Z N F' H' σ e → ExOk Z F' H' x cls d → W cls d σ H'
def tWv (Z : Wd) (W : WX) (w : WV) : TI := fun σ H R => ∃ N F e, SOk Z N F H σ e ∧ PostW Z N F σ W R (w e)
theorem PostW.shift {R : It → Hp → Prop} {r : RW} (h : PostW Z N F σ W R r) (s : Same F F') : PostW Z N F' σ W R r := by
  cases r with
  | no => exact h
  | ok r e => exact fun J F2 H2 s2 => h J F2 H2 (s.trans s2)
  | ex x e => exact fun c d F2 H2 s2 => h c d F2 H2 (s.trans s2)
/-- what a for, a comprehension may walk -/
def iAny (K : PySem.W.Frag) (te : TE) : TI := fun σ H R => iList K te σ H R ∨ iTup K te σ H R ∨ iStr te σ H R
theorem PI_or {X : Cx} {tg iter : Expr} {w1 w2 : TI} (h1 : PI X tg iter w1) (h2 : PI X tg iter w2) : PI X tg iter (fun σ H R => w1 σ H R ∨ w2 σ H R) := ⟨fun p s σ H R I q => by
  rcases q with q | q
  · exact h1.run p s σ H R I q
  · exact h2.run p s σ H R I q⟩
theorem PI_imp {X : Cx} {tg iter : Expr} {w1 w2 : TI} (h1 : PI X tg iter w1) (i : ∀ σ H R, w2 σ H R → w1 σ H R) : PI X tg iter w2 := ⟨fun p s σ H R I q => h1.run p s σ H R I (i σ H R q)⟩
theorem pi_any {X : Cx} {tg iter : Expr} {te : TE} (h : PE X iter te) : PI X tg iter (iAny X.K te) := PI_or (pi_list h) (PI_or (pi_tup h) (pi_str h))
theorem wv_any_rd {K : PySem.W.Frag} (hK : Z.K = K) {f : EV} {R : It → Hp → Prop} (h : tWv Z W (wAny f) σ H R) : iAny K (tEv Z W f) σ H R := by
  obtain ⟨N, F, e, S, P⟩ := h
  unfold wAny wE at P
  cases q : f e with
  | no => rw [q] at P; exact P.elim
  | ex z e1 =>
    rw [q] at P
    refine .inl ⟨N, F, e, S, ?_⟩
    rw [q]
    exact fun cls d F1 H1 f1 S1 x => P cls d F1 H1 f1 S1 x
  | ok r e0 =>
    rw [q] at P
    dsimp only at P
    cases q1 : walk r e0 with
    | none => rw [q1] at P; exact P.elim
    | some pr =>
      obtain ⟨d, e1⟩ := pr
      rw [q1] at P
      dsimp only at P
      cases q2 : items d with
      | none => rw [q2] at P; exact P.elim
      | some xs =>
        rw [q2] at P
        dsimp only at P
        have h : ∀ J F2 H2, Same F F2 → SOk Z N F2 H2 σ e1 → WalkOk Z N F2 J xs → R J H2 := P
        cases d <;> simp only [items] at q2 <;> cases q2
        · refine .inr (.inr ⟨N, F, e, S, ?_⟩)
          rw [q]
          intro v F1 H1 f1 S1 R1
          obtain ⟨F2, f2, S2, h2⟩ := walk_ok S1 R1 q1
          rcases h2 with h2 | ⟨_, _, _, _, t⟩
          · have hs := RdV.str (H := H1) (.inl h2)
            exact ⟨_, hs.1, h _ F2 H1 (f1.trans f2) S2 (walk_str hs.2.2)⟩
          · exact t.elim
        · refine .inl ⟨N, F, e, S, ?_⟩
          rw [q]
          intro v F1 H1 f1 S1 R1
          obtain ⟨F2, f2, S2, h2⟩ := walk_ok S1 R1 q1
          obtain ⟨a, e1, h3, w⟩ := walk_lst hK S2 h2
          exact ⟨a, e1, h3, h _ F2 H1 (f1.trans f2) S2 w⟩
        · refine .inr (.inl ⟨N, F, e, S, ?_⟩)
          rw [q]
          intro v F1 H1 f1 S1 R1
          obtain ⟨F2, f2, S2, h2⟩ := walk_ok S1 R1 q1
          rcases h2 with h2 | ⟨_, _, _, _, t⟩
          · obtain ⟨a, e1, h3, w⟩ := walk_tup hK S2 h2
            exact ⟨a, e1, h3, h _ F2 H1 (f1.trans f2) S2 w⟩
          · exact t.elim
        · refine .inl ⟨N, F, e, S, ?_⟩
          rw [q]
          intro v F1 H1 f1 S1 R1
          obtain ⟨F2, f2, S2, h2⟩ := walk_ok S1 R1 q1
          rcases h2 with h2 | ⟨_, _, _, _, t⟩
          · obtain ⟨a, e1, h3, w⟩ := walk_scr hK S2 h2
            exact ⟨a, e1, h3, h _ F2 H1 (f1.trans f2) S2 w⟩
          · exact t.elim
/-- an int, then what the walk asks -/
theorem bindWI {f : EV} {k : RV → WV} {R : It → Hp → Prop} {R' : VK} (S : SOk Z N F H σ e) (P : PostW Z N F σ W R (wE (eI f) k e))
    (K : ∀ i F1 H1 e1, Same F F1 → SOk Z N F1 H1 σ e1 → PostW Z N F1 σ W R (k (.fz (.int i)) e1) → R' (.int i) H1) : tEv Z W f σ H R' := by
  unfold wE eI eBind at P
  refine ⟨N, F, e, S, ?_⟩
  cases q : f e with
  | no => rw [q] at P; exact P
  | ex z e1 => rw [q] at P; exact P
  | ok r e1 =>
    rw [q] at P
    cases r with
    | fz d =>
      cases d with
      | int i =>
        intro x F1 H1 f1 S1 R1
        have ex : x = .int i := RdV.int (H := H1) (.inl R1)
        subst ex
        exact K i F1 H1 e1 f1 S1 (PostW.shift (r := k (.fz (.int i)) e1) P f1)
      | _ => exact P.elim
    | _ => exact P.elim
theorem walk_rng {lo : Int} {n : Nat} : WalkOk Z N F (Itr lo n) ((List.range n).map fun i => .int (lo + (i : Nat))) := fun F' H' σ' e' S' f i => by
  refine ⟨fun d hd => ?_, fun hl => ?_⟩
  · rw [List.getElem?_map, Option.map_eq_some_iff] at hd
    obtain ⟨j, hj, rfl⟩ := hd
    obtain ⟨h1, h2⟩ := List.getElem?_eq_some_iff.mp hj
    rw [List.getElem_range] at h2
    subst h2
    rw [List.length_range] at h1
    refine ⟨h1, fun v H2 ⟨e2, ev⟩ => ?_⟩
    subst e2 ev
    exact ⟨F', Gr.refl S'.le, .int _⟩
  · rw [List.length_map, List.length_range] at hl
    exact hl
theorem wv_r1_rd {g : EV} {R : It → Hp → Prop} (h : tWv Z W (wR1 g) σ H R) : iRng1 (tCons (tEv Z W g) tNil) σ H R := by
  obtain ⟨N, F, e, S, P⟩ := h
  refine bindWI S P fun y F1 H1 e1 f1 S1 P1 => ?_
  dsimp only at P1
  split at P1
  · rename_i hb
    refine ⟨y, rfl, hb.1, hb.2, P1 _ F1 H1 (Same.refl _) S1 ?_⟩
    have e0 : rng 0 y = (List.range y.toNat).map fun i => D.int (0 + (i : Nat)) := by unfold rng; rw [Int.sub_zero]
    rw [e0]
    exact walk_rng
  · exact P1.elim
theorem wv_r2_rd {f g : EV} {R : It → Hp → Prop} (h : tWv Z W (wR2 f g) σ H R) : iRng2 (tCons (tEv Z W f) (tCons (tEv Z W g) tNil)) σ H R := by
  obtain ⟨N, F, e, S, P⟩ := h
  refine bindWI S P fun x F1 H1 e1 f1 S1 P1 => ?_
  refine bindWI S1 P1 fun y F2 H2 e2 f2 S2 P2 => ?_
  dsimp only at P2
  split at P2
  · rename_i hb
    exact ⟨x, y, rfl, hb, P2 _ F2 H2 (Same.refl _) S2 walk_rng⟩
  · exact P2.elim
theorem st_for {tmp : List Nat} {t : Tg} {g : TG} {w : WV} {b : SV} (tk : TgOk Z g t) (h : tSv Z W (sFor tmp t w b) E σ H) : tFor (tWv Z W w) g (tSv Z W b) E σ H := by
  obtain ⟨N, F, e, S, P⟩ := h
  unfold sFor at P
  refine ⟨N, F, e, S, ?_⟩
  cases q : w e with
  | no => rw [q] at P; exact P
  | ex z e1 => rw [q] at P; exact fun cls d F1 H1 f1 S1 x => P cls d F1 H1 σ f1 S1 x
  | ok xs e1 => rw [q] at P; exact fun J F2 H2 f2 S2 wk => for_sound wk tk S2 (PostS.shift P f2)
def whG (tmp : List Nat) (c : TV) (b : SV) (m : Nat) (k : Bool) : SV := if k = true then fun e1 => (match b e1 with
      | .nx e2 => whL tmp c b m (wipeE e2 tmp)
      | .ct e2 => whL tmp c b m (wipeE e2 tmp)
      | .bk e2 => .nx (wipeE e2 tmp)
      | .rt r e2 => .rt r e2
      | .ex x e2 => .ex x e2
      | .no => .no) else fun e1 => .nx e1
theorem whL_succ (tmp : List Nat) (c : TV) (b : SV) (m : Nat) (e : Env) : whL tmp c b (m + 1) e = match c e with | .ok k e1 => whG tmp c b m k e1 | .ex x e1 => .ex x e1 | .no => .no := by
  rw [whL]
  unfold whG
  cases c e with
  | ok k e1 => cases k <;> rfl
  | ex x e1 => rfl
  | no => rfl
theorem st_while {tmp : List Nat} {n : Nat} {c : TV} {b : SV} (h : tSv Z W (whL tmp c b n) E σ H) : tWhile (tTv Z W c) (tSv Z W b) E σ H := by
  obtain ⟨N, F, e, S, P⟩ := h
  refine ⟨fun m σ H => ∃ F' e', SOk Z N F' H σ e' ∧ PostS Z N F' W E (whL tmp c b m e'), ⟨n, F, e, S, P⟩, ?_⟩
  rintro m σ H ⟨F1, e1, S1, P1⟩
  cases m with
  | zero => exact P1.elim
  | succ m =>
    refine bindST (g := whG tmp c b m) S1 (whL_succ tmp c b m e1) P1 fun k F2 H2 e2 f2 S2 P2 => ?_
    cases k with
    | false => exact iteF (P2 F2 H2 σ (Same.refl _) S2)
    | true =>
      refine iteT ⟨fun σ' H' => ∃ F' e', SOk Z N F' H' σ' e' ∧ PostS Z N F' W E (whL tmp c b m e'), fun σ' H' h => ⟨m, Nat.lt_succ_self m, h⟩, N, F2, e2, S2, ?_⟩
      unfold whG at P2
      rw [if_pos rfl] at P2
      cases q2 : b e2 with
      | no => rw [q2] at P2; exact P2
      | nx e3 => rw [q2] at P2; exact fun F3 H3 σ3 f3 S3 => ⟨F3, _, S3.wipe tmp, PostS.shift P2 f3⟩
      | ct e3 => rw [q2] at P2; exact fun F3 H3 σ3 f3 S3 => ⟨F3, _, S3.wipe tmp, PostS.shift P2 f3⟩
      | bk e3 => rw [q2] at P2; exact fun F3 H3 σ3 f3 S3 => P2 F3 H3 σ3 f3 (S3.wipe tmp)
      | rt r e3 => rw [q2] at P2; exact P2
      | ex x e3 => rw [q2] at P2; exact P2
end

section
variable {ca : Str → Option Addr} {W : WX} {X : Cx} {a b c : Expr} {st : Stmt} {rest s1 s2 : List Stmt} {fa fb : EV} {t : TV} {f g : SV} {pos p p2 : Pos}
theorem bv_nil : Bv ca W X [] sNx := PSs_imp pss_nil fun _ _ _ => st_nx
theorem bv_one (h : Sv ca W X st f) : Bv ca W X [st] f := pss_one h
theorem bv_cons (h : Sv ca W X st f) (k : Bv ca W X rest g) : Bv ca W X (st :: rest) (sSeq f g) := PSs_imp (pss_cons h k) fun _ _ _ => st_seq
theorem sv_pass : Sv ca W X (.Pass pos) sNx := PS_imp ps_pass fun _ _ _ => st_nx
theorem sv_bk : Sv ca W X (.Break pos) sBk := PS_imp ps_break fun _ _ _ => st_bk
theorem sv_ct : Sv ca W X (.Continue pos) sCt := PS_imp ps_continue fun _ _ _ => st_ct
theorem sv_expr (h : Ev ca W X a fa) (hs : swapsWith a none pos.line X.env = pure false := by rfl) : Sv ca W X (.Expr a pos) (sExpr fa) := PS_imp (ps_expr h hs) fun _ _ _ => st_expr
theorem sv_ret (h : Ev ca W X a fa) : Sv ca W X (.Return (some a) pos) (sRet fa) := PS_imp (ps_ret h) fun _ _ _ => st_ret
theorem sv_retN : Sv ca W X (.Return none pos) sRetN := PS_imp ps_retN fun _ _ _ => st_retN
theorem sv_if (hc : Tv ca W X c t) (h1 : Bv ca W X s1 f) (h2 : Bv ca W X s2 g) : Sv ca W X (.If c s1 s2 pos) (sIf t f g) := PS_imp (ps_if hc h1 h2) fun _ _ _ => st_if
theorem sv_set (i : Nat) {x : Str} (hN : X.N.Nodup) (h : Ev ca W X a fa) (hi : X.N[i]? = some x := by rfl) (hx : Loc X.env.scope x := by first | exact Or.inl rfl | exact Or.inr rfl) (hs : swapsWith a (some (.Name x p)) pos.line X.env = pure false := by rfl)
    (hf : X.fn x = true ∨ X.env.scope.names.lookup x = some .local := by first | exact .inl rfl | exact .inr rfl | assumption) : Sv ca W X (.Assign [.Name x p] a pos) (sSet i fa) := PS_imp (ps_set hN hi hx h hs hf) fun _ _ _ => st_set
/-- the text iter, walked to the target tg, says w -/
abbrev Wv (ca : Str → Option Addr) (W : WX) (X : Cx) (tg iter : Expr) (w : WV) : Prop := PI X tg iter (tWv (zw ca X) W w)
theorem wv_any {tg : Expr} (h : Ev ca W X a fa) : Wv ca W X tg a (wAny fa) := PI_imp (pi_any h) fun _ _ _ => wv_any_rd rfl
theorem wv_r1 {tg : Expr} (hm : X.mg "range" = none) (h : Ev ca W X a fa) (hg : Gl X "range" := by rfl) (hs : starEach [a] X.env = (false, eval a X.env) :: starEach [] X.env := by rfl) : Wv ca W X tg (.Call (.Name "range" p) [a] [] pos) (wR1 fa) := PI_imp (pi_range1 hg hm (pa_cons h pa_nil hs) (by rw [hs]; rfl)) fun _ _ _ => wv_r1_rd
theorem wv_r2 {tg : Expr} (hm : X.mg "range" = none) (h : Ev ca W X a fa) (h2 : Ev ca W X b fb) (hg : Gl X "range" := by rfl) (hs : starEach [a, b] X.env = (false, eval a X.env) :: starEach [b] X.env := by rfl) (hs2 : starEach [b] X.env = (false, eval b X.env) :: starEach [] X.env := by rfl) :
    Wv ca W X tg (.Call (.Name "range" p) [a, b] [] pos) (wR2 fa fb) := PI_imp (pi_range2 hg hm (pa_cons h (pa_cons h2 pa_nil hs2) hs) (by rw [hs, hs2]; rfl) (by rw [hs2]; rfl)) fun _ _ _ => wv_r2_rd
theorem sv_for {tmp : List Nat} {tt : Tg} {tg : TG} {w : WV} (hp : PassesOwn (model X.prog X.w) X.A X.env X.xe) (hc : X.calm = true) (hg : PG X c tg) (tk : TgOk (zw ca X) tg tt) (h : Wv ca W X c a w) (hb : Bv ca W X s1 f)
    (hs : ∀ x, foldedSetIterable a X.env x = pure x := by intro _; rfl) : Sv ca W X (.For c a s1 [] pos) (sFor tmp tt w f) := PS_imp (ps_for hp hc h hg hb hs) fun _ _ _ => st_for tk
theorem sv_while {tmp : List Nat} (n : Nat) (hp : PassesOwn (model X.prog X.w) X.A X.env X.xe) (hc : Tv ca W X c t) (hb : Bv ca W X s1 f) : Sv ca W X (.While c s1 [] pos) (whL tmp t f n) := PS_imp (ps_while hp hc hb) fun _ _ _ => st_while
end
end S3

/-! B9: list comprehensions. -/
namespace S3
open PySem L2
section
variable {Z : Wd} {F F' H H' : Hp} {N : En} {σ : St} {e e' : Env} {v x y : V} {W : WX}
theorem get_lock {e : Env} {i : Nat} {s : Sl} (h : (lock e)[i]? = some s) : ∃ t, e[i]? = some t ∧ s = t.lock := by
  unfold lock at h
  rw [List.getElem?_map, Option.map_eq_some_iff] at h
  obtain ⟨t, h1, h2⟩ := h
  exact ⟨t, h1, h2.symm⟩
/-- all that is owned is lent to be read, from here on -/
theorem SOk.lockd (S : SOk Z N F H σ e) : SOk Z ⟨F, H, [], fun _ => none⟩ F H σ (lock e) where
  le := S.le
  f0 := Same.refl _
  h0 := fun _ _ h _ => h
  nf := fun _ _ _ h => h
  len := by unfold lock; rw [List.length_map]; exact S.len
  slot := fun i s h => by
    obtain ⟨t, h1, rfl⟩ := get_lock h
    obtain ⟨o, g1, g2⟩ := S.slot i t h1
    refine ⟨o, g1, ?_⟩
    cases t with
    | no => trivial
    | fz d => exact g2
    | ow d => obtain ⟨a, rfl, f, n, t⟩ := g2; exact ⟨_, rfl, .inr ⟨a, rfl, f, t.there, by simp, t⟩⟩
    | mu d => obtain ⟨a, rfl, f, n, t⟩ := g2; exact ⟨_, rfl, .inr ⟨a, rfl, f, t.there, by simp, t⟩⟩
    | bo d =>
      obtain ⟨v, rfl, r | ⟨a, rfl, f, n, m, t⟩⟩ := g2
      · exact ⟨v, rfl, .inl r⟩
      · exact ⟨_, rfl, .inr ⟨a, rfl, f, t.there, by simp, t⟩⟩
  sep := fun i j s t a h1 h2 ne o l1 l2 => by
    obtain ⟨s', _, rfl⟩ := get_lock h1
    cases s' <;> cases o
  mh := fun a m => absurd m (by simp)
  mus := fun i d h => by
    obtain ⟨t, _, q⟩ := get_lock h
    cases t <;> cases q
theorem wipe_get {σ : St} {j : Nat} : ∀ {is : List Nat}, (wipe σ is)[j]? = if j ∈ is ∧ j < σ.length then some none else σ[j]?
  | [] => by simp [wipe]
  | i :: is => by
    have ih := wipe_get (σ := σ) (j := j) (is := is)
    have hl := wipe_length σ is
    unfold wipe
    by_cases q : i = j
    · subst q
      by_cases l : i < σ.length
      · rw [List.getElem?_set_self (by rw [hl]; exact l), if_pos ⟨List.mem_cons_self, l⟩]
      · rw [List.getElem?_eq_none (by rw [List.length_set, hl]; omega), if_neg (fun z => l z.2), List.getElem?_eq_none (by omega)]
    · rw [List.getElem?_set_ne q, ih]
      by_cases m : j ∈ is ∧ j < σ.length
      · rw [if_pos m, if_pos ⟨List.mem_cons_of_mem _ m.1, m.2⟩]
      · rw [if_neg m, if_neg]
        rintro ⟨m1, m2⟩
        rcases List.mem_cons.mp m1 with z | z
        · exact q z.symm
        · exact m ⟨z, m2⟩
theorem wipeE_get {e : Env} {j : Nat} : ∀ {is : List Nat}, (wipeE e is)[j]? = if j ∈ is ∧ j < e.length then some .no else e[j]?
  | [] => by simp [wipeE]
  | i :: is => by
    have ih := wipeE_get (e := e) (j := j) (is := is)
    have hl : ∀ is : List Nat, (wipeE e is).length = e.length := fun is => by
      induction is with
      | nil => rfl
      | cons a b ih => unfold wipeE; rw [List.length_set]; exact ih
    unfold wipeE
    by_cases q : i = j
    · subst q
      by_cases l : i < e.length
      · rw [List.getElem?_set_self (by rw [hl]; exact l), if_pos ⟨List.mem_cons_self, l⟩]
      · rw [List.getElem?_eq_none (by rw [List.length_set, hl]; omega), if_neg (fun z => l z.2), List.getElem?_eq_none (by omega)]
    · rw [List.getElem?_set_ne q, ih]
      by_cases m : j ∈ is ∧ j < e.length
      · rw [if_pos m, if_pos ⟨List.mem_cons_of_mem _ m.1, m.2⟩]
      · rw [if_neg m, if_neg]
        rintro ⟨m1, m2⟩
        rcases List.mem_cons.mp m1 with z | z
        · exact q z.symm
        · exact m ⟨z, m2⟩
theorem SOk.wipe2 (S : SOk Z N F H σ e) (is : List Nat) : SOk Z N F H (L2.wipe σ is) (wipeE e is) where
  le := S.le
  f0 := S.f0
  h0 := S.h0
  nf := S.nf
  len := by
    rw [wipe_length, S.len]
    induction is with
    | nil => rfl
    | cons a b ih => unfold wipeE; rw [List.length_set]; exact ih
  slot := fun i s h => by
    rw [wipeE_get] at h
    rw [wipe_get]
    split at h
    · rename_i m
      cases h
      rw [if_pos ⟨m.1, by rw [S.len]; exact m.2⟩]
      exact ⟨_, rfl, trivial⟩
    · rename_i m
      rw [if_neg (fun z => m ⟨z.1, by rw [← S.len]; exact z.2⟩)]
      exact S.slot i s h
  sep := fun i j s t a h1 h2 ne o l1 l2 => by
    rw [wipeE_get] at h1 h2
    split at h1
    · cases h1; cases o
    · rename_i m1
      split at h2
      · cases h2; exact l2
      · rename_i m2
        rw [wipe_get, if_neg (fun z => m1 ⟨z.1, by rw [← S.len]; exact z.2⟩)] at l1
        rw [wipe_get, if_neg (fun z => m2 ⟨z.1, by rw [← S.len]; exact z.2⟩)] at l2
        exact S.sep i j s t a h1 h2 ne o l1 l2
  mh := S.mh
  mus := fun i d h => by
    rw [wipeE_get] at h
    split at h
    · cases h
    · rename_i m
      rw [wipe_get, if_neg (fun z => m ⟨z.1, by rw [← S.len]; exact z.2⟩)]
      exact S.mus i d h
theorem wipe_off {σ σ' : St} {is own : List Nat} (h : Off is σ σ') (sub : ∀ i ∈ is, i ∈ own) : wipe σ' own = wipe σ own := by
  apply List.ext_getElem?
  intro j
  rw [wipe_get, wipe_get, h.1]
  by_cases m : j ∈ own ∧ j < σ.length
  · rw [if_pos m, if_pos m]
  · rw [if_neg m, if_neg m]
    by_cases l : j < σ.length
    · exact h.2 j fun z => m ⟨sub j z, l⟩
    · rw [List.getElem?_eq_none (by rw [h.1]; omega), List.getElem?_eq_none (by omega)]
theorem wipe_wipe (σ : St) (own : List Nat) : wipe (wipe σ own) own = wipe σ own := by
  apply List.ext_getElem?
  intro j
  rw [wipe_get, wipe_get, wipe_length]
  split <;> rfl
abbrev W0 : WX := fun _ _ _ _ => False
theorem lc_sound {g : TG} {t : Tg} {own : List Nat} {c : TV} {f : EV} {J : It} {ds ys : List D} {Q : VK} (tk : TgOk Z g t) (sub : ∀ i ∈ tgIx t, i ∈ own) (S : SOk Z N F H σ e) (wk : WalkOk Z N F J ds)
    (hz : ds.length ≤ 16777216) (hl : lcL t c f ds (wipeE (lock e) own) [] = some ys) (P : PostE Z N F σ W Q (.ok (.nw (.lst ys)) e)) : ∀ A, H A = none →
    ∃ Wm : Nat → Nat → Hp → Prop, (∃ m, Wm 0 m (upd H A (.lst []))) ∧ ∀ i m H, Wm i m H → (J.stop i H ∧ Q (.ref A) H) ∨ (J.go i H ∧ ∃ Nx : Hp → Prop, (∀ H', Nx H' → ∃ m', m' < m ∧ Wm (i + 1) m' H') ∧
      ∀ x H', J.yld i H x H' → g x (wipe σ own) H' fun σ2 H2 => wipe σ2 own = wipe σ own ∧ tTv Z W0 c σ2 H2 fun b H3 =>
        if b = true then tEv Z W0 f σ2 H3 fun y H4 => ∃ acc, H4 A = some (.lst acc) ∧ acc.length < sizeLine ∧ Nx (upd H4 A (.lst (acc ++ [y]))) else Nx H3) := by
  intro A hA
  refine ⟨fun i m Hx => m = ds.length - i ∧ i ≤ ds.length ∧ ∃ F' Hm acc accD, Same F F' ∧ SOk Z N F' Hm σ e ∧ Hm A = none ∧ Hx = upd Hm A (.lst acc) ∧ RpA Z F' acc accD ∧ accD.length ≤ i ∧ lcL t c f (ds.drop i) (wipeE (lock e) own) accD = some ys,
    ⟨ds.length, rfl, Nat.zero_le _, F, H, [], [], Same.refl _, S, hA, rfl, .nil, Nat.le_refl _, hl⟩, ?_⟩
  rintro i m _ ⟨rfl, hi, F1, Hm, acc, accD, f1, S1, nA, rfl, ra, hacc, hl1⟩
  have SH : SOk Z N F1 (upd Hm A (.lst acc)) σ e := S1.gr (Gr.lay S1.le nA)
  obtain ⟨w1, w2⟩ := wk F1 _ σ e SH f1 i
  by_cases hlt : i < ds.length
  · have ed : ds.drop i = ds[i] :: ds.drop (i + 1) := List.drop_eq_getElem_cons hlt
    have ei : ds[i]? = some ds[i] := List.getElem?_eq_getElem hlt
    rw [ed] at hl1
    generalize ds[i] = d at hl1 ei
    obtain ⟨go, yl⟩ := w1 d ei
    refine .inr ⟨go, fun Hx => ∃ F' Hm acc accD, Same F F' ∧ SOk Z N F' Hm σ e ∧ Hm A = none ∧ Hx = upd Hm A (.lst acc) ∧ RpA Z F' acc accD ∧ accD.length ≤ i + 1 ∧ lcL t c f (ds.drop (i + 1)) (wipeE (lock e) own) accD = some ys,
      fun H' h => ⟨ds.length - (i + 1), by omega, rfl, hlt, h⟩, fun x H2 hy => ?_⟩
    obtain ⟨F2, g2, r2⟩ := yl x H2 hy
    have S2 := SH.gr g2
    have S3' := S2.lockd.wipe2 own
    unfold lcL at hl1
    cases q : tgt t d (wipeE (lock e) own) with
    | none => rw [q] at hl1; cases hl1
    | some e2 =>
      rw [q] at hl1
      dsimp only at hl1
      refine tk ⟨F2, H2, [], fun _ => none⟩ F2 H2 (wipe σ own) (wipeE (lock e) own) x d e2 _ S3' r2 q fun σ2 S4 off => ⟨by rw [wipe_off off sub, wipe_wipe], ⟨F2, H2, [], fun _ => none⟩, F2, e2, S4, ?_⟩
      -- the heap behind the turn, without the new list
      have A2 : H2 A = some (.lst acc) := g2.h _ _ upd_same
      have FA : F2 A = none := g2.nf A _ upd_same (none_le S1.le nA)
      have back : ∀ {F3 H3 : Hp} {σ3 : St} {e3 : Env}, SOk Z ⟨F2, H2, [], fun _ => none⟩ F3 H3 σ3 e3 → H3 A = some (.lst acc) ∧ F3 A = none ∧ ∃ H3m : Hp, SOk Z N F3 H3m σ e ∧ H3m A = none ∧ ∀ o, upd H3 A o = upd H3m A o := by
        intro F3 H3 σ3 e3 T
        have k1 : H3 A = some (.lst acc) := T.h0 A _ A2 (by simp)
        have k2 : F3 A = none := T.nf A _ A2 FA
        refine ⟨k1, k2, fun b => if b = A then none else H3 b, S1.grow (g2.f.trans T.f0) (fun b o hb => ?_) (fun b o hb => ?_) (fun b u hb n => ?_), if_pos rfl, fun o => ?_⟩
        · have nb : b ≠ A := ne_of_none hb nA
          rw [if_neg nb]
          exact T.h0 b o (g2.h _ _ (by rw [upd_ne nb]; exact hb)) (by simp)
        · have nb : b ≠ A := fun z => by subst z; rw [k2] at hb; cases hb
          rw [if_neg nb]
          exact T.le _ _ hb
        · have nb : b ≠ A := ne_of_none hb nA
          have hb' : upd Hm A (.lst acc) b = some u := by rw [upd_ne nb]; exact hb
          exact T.nf b u (g2.h _ _ hb') (g2.nf b u hb' n)
        · funext b
          show (if b = A then some o else H3 b) = (if b = A then some o else (if b = A then none else H3 b))
          by_cases z : b = A
          · rw [if_pos z, if_pos z]
          · rw [if_neg z, if_neg z, if_neg z]
      cases q2 : c e2 with
      | no => rw [q2] at hl1; cases hl1
      | ex z e3 => rw [q2] at hl1; cases hl1
      | ok b e3 =>
        rw [q2] at hl1
        intro F3 H3 f3 T3
        cases b with
        | false =>
          refine iteF ?_
          obtain ⟨k1, k2, H3m, S5, k3, k4⟩ := back T3
          refine ⟨F3, H3m, acc, accD, f1.trans (g2.f.trans f3), S5, k3, ?_, ra.mono (g2.f.trans f3), Nat.le_succ_of_le hacc, hl1⟩
          rw [← k4]
          funext b
          by_cases z : b = A
          · subst z; rw [upd_same, k1]
          · rw [upd_ne z]
        | true =>
          refine iteT ⟨⟨F2, H2, [], fun _ => none⟩, F3, e3, T3, ?_⟩
          dsimp only at hl1
          cases q3 : f e3 with
          | no => rw [q3] at hl1; cases hl1
          | ex z e4 => rw [q3] at hl1; cases hl1
          | ok r e4 =>
            rw [q3] at hl1
            dsimp only at hl1
            cases q4 : stl r e4 with
            | none => rw [q4] at hl1; cases hl1
            | some pr =>
              obtain ⟨x', e5⟩ := pr
              rw [q4] at hl1
              dsimp only at hl1
              intro v F5 H5 f5 T5 R5
              obtain ⟨F6, f6, T6, r6⟩ := RvOk.stl T5 R5 q4
              obtain ⟨k1, k2, H6m, S6, k3, k4⟩ := back T6
              have ff : Same F1 F6 := g2.f.trans (f3.trans (f5.trans f6))
              refine ⟨acc, k1, ?_, F6, H6m, acc ++ [v], accD ++ [x'], f1.trans ff, S6, k3, k4 _, (ra.mono ff).append (.cons r6 .nil), by rw [List.length_append]; exact Nat.succ_le_succ hacc, hl1⟩
              rw [ra.length, sizeLine_eq]
              omega
  · have e0 : ds.drop i = [] := List.drop_eq_nil_of_le (Nat.le_of_not_lt hlt)
    rw [e0] at hl1
    unfold lcL at hl1
    cases hl1
    refine .inl ⟨w2 (Nat.le_of_not_lt hlt), P (.ref A) F1 _ f1 SH ⟨A, rfl, none_le S1.le nA, S1.nohave nA, ⟨acc, upd_same, ra⟩, fun j s hj l => ?_⟩⟩
    obtain ⟨_, u, hu⟩ := S1.live hj l
    rw [nA] at hu; cases hu
theorem lc_rd {g : TG} {t : Tg} {own : List Nat} {w : WV} {c : TV} {f : EV} {Q : VK} (tk : TgOk Z g t) (sub : ∀ i ∈ tgIx t, i ∈ own) (h : tEv Z W (eLc own t w c f) σ H Q) : tLc (tWv Z W w) g (tTv Z W0 c) (tEv Z W0 f) own σ H Q := by
  obtain ⟨N, F, e, S, P⟩ := h
  unfold eLc at P
  refine ⟨N, F, e, S, ?_⟩
  cases q : w e with
  | no => rw [q] at P; exact P
  | ex z e1 => rw [q] at P; exact P
  | ok xs e1 =>
    rw [q] at P
    dsimp only at P
    cases q1 : lcL t c f xs (wipeE (lock e1) own) [] with
    | none => rw [q1] at P; exact P.elim
    | some ys =>
      rw [q1] at P
      dsimp only at P
      split at P
      · rename_i hz
        exact fun J F1 H1 f1 S1 wk => lc_sound tk sub S1 wk hz q1 (PostE.shift P f1)
      · exact P.elim
theorem yes_rd {Q : Bool → Hp → Prop} (h : tTv Z W0 tYesS σ H Q) : tYes σ H Q := by
  obtain ⟨N, F, e, S, P⟩ := h
  exact P F H (Same.refl _) S
end
section
variable {ca : Str → Option Addr} {W : WX} {X : Cx} {fe : EV} {w : WV} {c : TV} {elt tg iter : Expr} {ifs : List Expr} {scope : Scope} {own : List (Str × Nat)} {pos : Pos} {g : TG} {t : Tg}
theorem ptv_nil : PTs X [] (tTv (zw ca X) W0 tYesS) := ⟨fun p s σ H Q I h => pts_nil.run p s σ H Q I (yes_rd h)⟩
theorem ptv_one {a : Expr} (h : Tv ca W0 X a c) : PTs X [a] (tTv (zw ca X) W0 c) := pts_one h
theorem ev_lc (hc : X.calm = true) (hN : X.N.Nodup) (hi : Wv ca W X tg iter w) (ok : BlkOk X.N X.env.scope scope own) (tk : TgOk (zw ca X) g t) (sub : ∀ i ∈ tgIx t, i ∈ own.map (·.2))
    (hg : ∀ (s : Shared) (H : Hp) (C : Addr) (cl : List (Str × Addr)) (fp : List Addr), PG (X.blk s H scope (compEnvC scope cl C X.env) fp) tg g)
    (ht : ∀ (s : Shared) (H : Hp) (C : Addr) (cl : List (Str × Addr)) (fp : List Addr), PTs (X.blk s H scope (compEnvC scope cl C X.env) fp) ifs (tTv (zw ca X) W0 c))
    (he : ∀ (s : Shared) (H : Hp) (C : Addr) (cl : List (Str × Addr)) (fp : List Addr), Ev ca W0 (X.blk s H scope (compEnvC scope cl C X.env) fp) elt fe) (hs : ∀ x, foldedSetIterable iter X.env x = pure x := by intro _; rfl) :
    Ev ca W X (.ListComp elt [⟨tg, iter, ifs, 0⟩] scope pos) (eLc (own.map (·.2)) t w c fe) :=
  PE_imp (pe_lc hc hN hi ok hg ht he hs) fun _ _ _ => lc_rd tk sub
theorem sv_setLc (i : Nat) {y : Str} {py spos : Pos} (hc : X.calm = true) (hN : X.N.Nodup) (hyl : X.env.scope.names.lookup y = some .local) (hsw : swapsWith (.ListComp elt [⟨tg, iter, ifs, 0⟩] scope pos) (some (.Name y py)) spos.line X.env = pure true)
    (hi : Wv ca W X tg iter w) (ok : BlkOk X.N X.env.scope scope own) (tk : TgOk (zw ca X) g t) (sub : ∀ i ∈ tgIx t, i ∈ own.map (·.2))
    (hg : ∀ (s : Shared) (H : Hp) (C : Addr) (cl : List (Str × Addr)) (fp : List Addr), PG (X.blk s H scope (compEnvC scope cl C X.env) fp) tg g)
    (ht : ∀ (s : Shared) (H : Hp) (C : Addr) (cl : List (Str × Addr)) (fp : List Addr), PTs (X.blk s H scope (compEnvC scope cl C X.env) fp) ifs (tTv (zw ca X) W0 c))
    (he : ∀ (s : Shared) (H : Hp) (C : Addr) (cl : List (Str × Addr)) (fp : List Addr), Ev ca W0 (X.blk s H scope (compEnvC scope cl C X.env) fp) elt fe) (hy : X.N[i]? = some y := by rfl) (hs : ∀ x, foldedSetIterable iter X.env x = pure x := by intro _; rfl) :
    Sv ca W X (.Assign [.Name y py] (.ListComp elt [⟨tg, iter, ifs, 0⟩] scope pos) spos) (sSet i (eLc (own.map (·.2)) t w c fe)) :=
  PS_imp (ps_setLc hc hN hy hyl hsw hi ok hg ht he hs) fun D σ H h => by
    have h2 := st_set h
    exact lc_rd tk sub h2
end
end S3

/-! C1: defs: what a def promises, how it is called, how its body shows it. -/
namespace S3
open PySem L2
section
variable {Z : Wd} {F F' H H' : Hp} {N : En} {σ : St} {e e' : Env} {W : WX}
/-- the arguments, by their modes -/
inductive ArgsOk (Z : Wd) (F H : Hp) : List Md → List V → List D → Prop
  | nil : ArgsOk Z F H [] [] []
  | v {ms : List Md} {x : V} {vs : List V} {d : D} {ds : List D} : Rp Z F x d → ArgsOk Z F H ms vs ds → ArgsOk Z F H (.v :: ms) (x :: vs) (d :: ds)
  | r {ms : List Md} {x : V} {vs : List V} {d : D} {ds : List D} : RdV Z F H x d → ArgsOk Z F H ms vs ds → ArgsOk Z F H (.r :: ms) (x :: vs) (d :: ds)
  | m {ms : List Md} {a : Addr} {vs : List V} {d : D} {ds : List D} : F a = none → Top Z F H a d → ArgsOk Z F H ms vs ds → ArgsOk Z F H (.m :: ms) (.ref a :: vs) (d :: ds)
/-- a lent place: the slot that a parameter begins as -/
def pSl (m : Md) (d : D) : Sl := match m with | .v => .fz d | .r => .bo d | .m => .mu d
/-- the place of the i-th parameter, if it may be changed -/
def mAt (ms : List Md) (vs : List V) (i : Nat) : Option Addr := match ms[i]?, vs[i]? with
  | some .m, some (.ref a) => some a
  | _, _ => none
def mSet : List Md → List V → List Addr
  | .m :: ms, .ref a :: vs => a :: mSet ms vs
  | _ :: ms, _ :: vs => mSet ms vs
  | _, _ => []
theorem mem_mSet : ∀ {ms : List Md} {vs : List V} {a : Addr}, a ∈ mSet ms vs ↔ ∃ i, mAt ms vs i = some a
  | [], vs, a => by simp [mSet, mAt]
  | m :: ms, [], a => by cases m <;> simp [mSet, mAt]
  | m :: ms, v :: vs, a => by
    have ih := mem_mSet (ms := ms) (vs := vs) (a := a)
    have sh : ∀ i, mAt (m :: ms) (v :: vs) (i + 1) = mAt ms vs i := fun i => by simp [mAt]
    have h0 : ∀ b, (m = .m ∧ v = .ref b) ↔ mAt (m :: ms) (v :: vs) 0 = some b := fun b => by
      cases m <;> cases v <;> simp [mAt]
    have split : (∃ i, mAt (m :: ms) (v :: vs) i = some a) ↔ (m = .m ∧ v = .ref a) ∨ ∃ i, mAt ms vs i = some a := by
      constructor
      · rintro ⟨i, hi⟩
        cases i with
        | zero => exact .inl ((h0 a).mpr hi)
        | succ i => rw [sh] at hi; exact .inr ⟨i, hi⟩
      · rintro (h | ⟨i, hi⟩)
        · exact ⟨0, (h0 a).mp h⟩
        · exact ⟨i + 1, by rw [sh]; exact hi⟩
    rw [split]
    cases m <;> cases v <;> simp [mSet, ih] <;> try (constructor <;> intro h <;> simpa using h)
    all_goals (constructor <;> (rintro (h | h)) <;> first | exact .inl h.symm | exact .inr h)
/-- no place that may be changed is handed on twice -/
def ApartV (Z : Wd) (F : Hp) (ms : List Md) (vs : List V) (ds : List D) : Prop :=
  ∀ i j a m d, i ≠ j → mAt ms vs i = some a → ms[j]? = some m → ds[j]? = some d → Live Z F (vs[j]?) (pSl m d) a → False
/-- the heap behind a call -/
structure CGr (F H : Hp) (M : List Addr) (F' H' : Hp) : Prop where
  f : Same F F'
  le : Same F' H'
  h : ∀ b o, H b = some o → b ∉ M → H' b = some o
  nf : ∀ b o, H b = some o → F b = none → F' b = none
inductive OutsOk (Z : Wd) (F H : Hp) : List Md → List V → List D → Prop
  | nil : OutsOk Z F H [] [] []
  | v {ms : List Md} {x : V} {vs : List V} {ds : List D} : OutsOk Z F H ms vs ds → OutsOk Z F H (.v :: ms) (x :: vs) ds
  | r {ms : List Md} {x : V} {vs : List V} {ds : List D} : OutsOk Z F H ms vs ds → OutsOk Z F H (.r :: ms) (x :: vs) ds
  | m {ms : List Md} {a : Addr} {vs : List V} {d : D} {ds : List D} : Top Z F H a d → OutsOk Z F H ms vs ds → OutsOk Z F H (.m :: ms) (.ref a :: vs) (d :: ds)
def ResOk (Z : Wd) (H F' H' : Hp) (n : Bool) (v : V) (d : D) : Prop := if n = true then ∃ a, v = .ref a ∧ H a = none ∧ F' a = none ∧ Top Z F' H' a d else Rp Z F' v d
def PostC (Z : Wd) (F H : Hp) (ms : List Md) (vs : List V) (Q : VK) (E : XK) : RC → Prop
  | .no => False
  | .ok n d outs => ∀ v F' H', CGr F H (mSet ms vs) F' H' → OutsOk Z F' H' ms vs outs → ResOk Z H F' H' n v d → Q v H'
  | .ex x outs => ∀ cls dd F' H', CGr F H (mSet ms vs) F' H' → OutsOk Z F' H' ms vs outs → ExOk Z F' H' x cls dd → E cls dd H'
/-- THE PROMISE of a def that does phi -/
def spOf (Z : Wd) (ms : List Md) (phi : List D → RC) : Sp := fun vs H Q E => ∃ F ds, Same F H ∧ ArgsOk Z F H ms vs ds ∧ ApartV Z F ms vs ds ∧ PostC Z F H ms vs Q E (phi ds)

theorem ArgsOk.lens {ms : List Md} {vs : List V} {ds : List D} (h : ArgsOk Z F H ms vs ds) : vs.length = ms.length ∧ ds.length = ms.length := by
  induction h with
  | nil => exact ⟨rfl, rfl⟩
  | v _ _ ih => exact ⟨congrArg Nat.succ ih.1, congrArg Nat.succ ih.2⟩
  | r _ _ ih => exact ⟨congrArg Nat.succ ih.1, congrArg Nat.succ ih.2⟩
  | m _ _ _ ih => exact ⟨congrArg Nat.succ ih.1, congrArg Nat.succ ih.2⟩
theorem ArgsOk.at : ∀ {ms : List Md} {vs : List V} {ds : List D} {i : Nat} {m : Md} {d : D}, ArgsOk Z F H ms vs ds → ms[i]? = some m → ds[i]? = some d →
    ∃ v, vs[i]? = some v ∧ (match m with | .v => Rp Z F v d | .r => RdV Z F H v d | .m => ∃ a, v = .ref a ∧ F a = none ∧ Top Z F H a d)
  | _, _, _, _, _, _, .nil, h, _ => by simp at h
  | _, _, _, 0, _, _, .v a _, h, k => by simp at h k; subst h k; exact ⟨_, rfl, a⟩
  | _, _, _, 0, _, _, .r a _, h, k => by simp at h k; subst h k; exact ⟨_, rfl, a⟩
  | _, _, _, 0, _, _, .m a b _, h, k => by simp at h k; subst h k; exact ⟨_, rfl, _, rfl, a, b⟩
  | _, _, _, i + 1, _, _, .v a t, h, k => by
    obtain ⟨v, h1, h2⟩ := ArgsOk.at (i := i) t (by simpa using h) (by simpa using k)
    exact ⟨v, by simpa using h1, h2⟩
  | _, _, _, i + 1, _, _, .r a t, h, k => by
    obtain ⟨v, h1, h2⟩ := ArgsOk.at (i := i) t (by simpa using h) (by simpa using k)
    exact ⟨v, by simpa using h1, h2⟩
  | _, _, _, i + 1, _, _, .m a b t, h, k => by
    obtain ⟨v, h1, h2⟩ := ArgsOk.at (i := i) t (by simpa using h) (by simpa using k)
    exact ⟨v, by simpa using h1, h2⟩

/-! ### the body -/
theorem startE_get {ms : List Md} {ds : List D} {n i : Nat} {s : Sl} (hl : ds.length = ms.length) (h : (startE ms ds n)[i]? = some s) :
    (∃ m d, ms[i]? = some m ∧ ds[i]? = some d ∧ s = pSl m d) ∨ (ms.length ≤ i ∧ s = .no) := by
  unfold startE at h
  by_cases q : i < ms.length
  · rw [List.getElem?_append_left (by rw [List.length_map, List.length_zip, hl]; omega), List.getElem?_map, Option.map_eq_some_iff] at h
    obtain ⟨⟨m, d⟩, h1, rfl⟩ := h
    rw [List.getElem?_zip_eq_some] at h1
    exact .inl ⟨m, d, h1.1, h1.2, by cases m <;> rfl⟩
  · rw [List.getElem?_append_right (by rw [List.length_map, List.length_zip, hl]; omega), List.getElem?_replicate] at h
    split at h
    · cases h; exact .inr ⟨by omega, rfl⟩
    · cases h
theorem start_get {Nm : List Str} {vs : List V} {i : Nat} {v : V} (h : vs[i]? = some v) : (L2.start Nm vs)[i]? = some (some v) := by
  unfold L2.start
  rw [List.getElem?_append_left (by rw [List.length_map]; exact (List.getElem?_eq_some_iff.mp h).1), List.getElem?_map, h]
  rfl
/-- the frame's state at the entry -/
theorem start_ok {ms : List Md} {vs : List V} {ds : List D} {Nm : List Str} {n : Nat} (l : Same F H) (a : ArgsOk Z F H ms vs ds) (ap : ApartV Z F ms vs ds) (hn : Nm.length = n) (hm : ms.length ≤ n) :
    SOk Z ⟨F, H, mSet ms vs, mAt ms vs⟩ F H (L2.start Nm vs) (startE ms ds n) where
  le := l
  f0 := Same.refl _
  h0 := fun _ _ h _ => h
  nf := fun _ _ _ h => h
  len := by
    obtain ⟨h1, h2⟩ := a.lens
    unfold L2.start startE
    simp only [List.length_append, List.length_map, List.length_replicate, List.length_zip, h1, h2, hn]
    omega
  slot := fun i s h => by
    obtain ⟨h1, h2⟩ := a.lens
    rcases startE_get h2 h with ⟨m, d, k1, k2, rfl⟩ | ⟨k, rfl⟩
    · obtain ⟨v, g1, g2⟩ := a.at k1 k2
      refine ⟨_, start_get g1, ?_⟩
      cases m with
      | v => exact ⟨v, rfl, g2⟩
      | r =>
        refine ⟨v, rfl, ?_⟩
        by_cases rr : Rp Z F v d
        · exact .inl rr
        · rcases g2 with g2 | ⟨b, rfl, f, t⟩
          · exact (rr g2).elim
          · refine .inr ⟨b, rfl, f, t.there, fun hm => ?_, t⟩
            obtain ⟨j, hj⟩ := mem_mSet.mp hm
            have ne : j ≠ i := by
              rintro rfl
              unfold mAt at hj
              rw [k1] at hj
              cases hj
            refine ap j i b .r d ne hj k1 k2 ?_
            rw [g1]
            exact ⟨rfl, rr⟩
      | m =>
        obtain ⟨b, rfl, f, t⟩ := g2
        exact ⟨b, rfl, f, mem_mSet.mpr ⟨i, by unfold mAt; rw [k1, g1]⟩, t⟩
    · have hi : i < (startE ms ds n).length := (List.getElem?_eq_some_iff.mp h).1
      have hl : i < (L2.start Nm vs).length := by
        unfold L2.start startE at *
        simp only [List.length_append, List.length_map, List.length_replicate, List.length_zip, h1, h2, hn] at hi ⊢
        omega
      exact ⟨_, List.getElem?_eq_getElem hl, trivial⟩
  sep := fun i j s t b h1 h2 ne o l1 l2 => by
    obtain ⟨k1, k2⟩ := a.lens
    rcases startE_get k2 h1 with ⟨m, d, g1, g2, rfl⟩ | ⟨_, rfl⟩
    · cases m <;> try (cases o; done)
      obtain ⟨v, e1, b', rfl, f, t'⟩ := a.at g1 g2
      rcases startE_get k2 h2 with ⟨m2, d2, g3, g4, rfl⟩ | ⟨_, rfl⟩
      · obtain ⟨v2, e2, _⟩ := a.at g3 g4
        rw [start_get e1] at l1
        rw [start_get e2] at l2
        cases l1
        exact ap i j _ m2 d2 ne (by unfold mAt; rw [g1, e1]) g3 g4 (by rw [e2]; exact l2)
      · exact l2
    · cases o
  mh := fun b hb => by
    obtain ⟨i, hi⟩ := mem_mSet.mp hb
    unfold mAt at hi
    cases q1 : ms[i]? with
    | none => rw [q1] at hi; cases hi
    | some m =>
      have li : i < ds.length := by rw [a.lens.2]; exact (List.getElem?_eq_some_iff.mp q1).1
      obtain ⟨v, e1, g⟩ := a.at q1 (List.getElem?_eq_getElem li)
      rw [q1, e1] at hi
      cases m <;> cases v <;> cases hi
      obtain ⟨b', e2, f, t⟩ := g
      cases e2
      exact ⟨f, t.there, t.there⟩
  mus := fun i d h => by
    obtain ⟨k1, k2⟩ := a.lens
    rcases startE_get k2 h with ⟨m, d2, g1, g2, q⟩ | ⟨_, q⟩
    · cases m <;> cases q
      obtain ⟨v, e1, b, rfl, f, t⟩ := a.at g1 g2
      exact ⟨b, start_get e1, by show mAt ms vs i = _; unfold mAt; rw [g1, e1]⟩
    · cases q
/-- the lent parameters' values at the end -/
theorem outs_ok : ∀ {ms : List Md} {vs : List V} {e : Env} {outs : List D} (k : Nat) (σ : St), vs.length = ms.length →
    (∀ i d, e[i]? = some (.mu d) → ∃ a, σ[k + i]? = some (some (.ref a)) ∧ mAt ms vs i = some a ∧ Top Z F H a d) → outsE ms e = some outs → OutsOk Z F H ms vs outs
  | [], [], _, _, _, _, _, _, h => by simp only [outsE] at h; cases h; exact .nil
  | m :: ms, v :: vs, e, outs, k, σ, hl, hm, h => by
    have rest : ∀ {e2 : Env} {s : Sl} {o : List D}, e = s :: e2 → outsE ms e2 = some o → OutsOk Z F H ms vs o := fun {e2 s o} he ho =>
      outs_ok (k + 1) σ (Nat.succ.inj hl) (fun i d hi => by
        obtain ⟨a, h1, h2, h3⟩ := hm (i + 1) d (by rw [he]; simpa using hi)
        exact ⟨a, by rw [show k + 1 + i = k + (i + 1) by omega]; exact h1, by simpa [mAt] using h2, h3⟩) ho
    cases m with
    | v => cases e with
      | nil => cases h
      | cons s e2 => exact .v (rest rfl h)
    | r => cases e with
      | nil => cases h
      | cons s e2 => exact .r (rest rfl h)
    | m => cases e with
      | nil => cases h
      | cons s e2 =>
        cases s <;> simp only [outsE] at h <;> try (cases h; done)
        rw [Option.map_eq_some_iff] at h
        obtain ⟨o, h1, rfl⟩ := h
        obtain ⟨a, g1, g2, g3⟩ := hm 0 _ rfl
        cases v <;> simp [mAt] at g2
        subst g2
        exact .m g3 (rest rfl h1)
theorem SOk.cgr {ms : List Md} {vs : List V} (S : SOk Z ⟨F, H, mSet ms vs, mAt ms vs⟩ F' H' σ e) : CGr F H (mSet ms vs) F' H' := ⟨S.f0, S.le, S.h0, S.nf⟩
theorem SOk.outs {ms : List Md} {vs : List V} {outs : List D} (S : SOk Z ⟨F, H, mSet ms vs, mAt ms vs⟩ F' H' σ e) (hl : vs.length = ms.length) (h : outsE ms e = some outs) : OutsOk Z F' H' ms vs outs :=
  outs_ok 0 σ hl (fun i d hi => by
    obtain ⟨a, h1, h2⟩ := S.mus i d hi
    obtain ⟨o, g1, b, rfl, f, m, t⟩ := S.slot i _ hi
    rw [h1] at g1
    cases g1
    exact ⟨a, by rw [Nat.zero_add]; exact h1, h2, t⟩) h
/-- the body's end is the def's end -/
theorem body_end {ms : List Md} {vs : List V} {r : RS} {Q : VK} {E : XK} (hl : vs.length = ms.length) (P : PostC Z F H ms vs Q E (finish ms r)) :
    PostS Z ⟨F, H, mSet ms vs, mAt ms vs⟩ F (fun cls d _ H => E cls d H) { nx := fun _ H' => Q .non H', rt := Q } r := by
  cases r with
  | no => exact P
  | bk e => exact P.elim
  | ct e => exact P.elim
  | nx e =>
    unfold finish at P
    dsimp only at P
    cases q : outsE ms e with
    | none => rw [q] at P; exact P.elim
    | some o => rw [q] at P; exact fun F' H' σ' f S => P .non F' H' S.cgr (S.outs hl q) (by unfold ResOk; rw [if_neg Bool.false_ne_true]; exact .non)
  | ex x e =>
    unfold finish at P
    dsimp only at P
    cases q : outsE ms e with
    | none => rw [q] at P; exact P.elim
    | some o => rw [q] at P; exact fun cls d F' H' σ' f S k => P cls d F' H' S.cgr (S.outs hl q) k
  | rt r e =>
    unfold finish at P
    cases r with
    | «at» i => exact P.elim
    | fz d =>
      dsimp only at P
      cases q : outsE ms e with
      | none => rw [q] at P; exact P.elim
      | some o => rw [q] at P; exact fun v F' H' σ' f S k => P v F' H' S.cgr (S.outs hl q) (by unfold ResOk; rw [if_neg Bool.false_ne_true]; exact k)
    | nw d =>
      dsimp only at P
      cases q : outsE ms e with
      | none => rw [q] at P; exact P.elim
      | some o =>
        rw [q] at P
        intro v F' H' σ' f S k
        obtain ⟨a, rfl, fa, na, t, _⟩ := k
        exact P _ F' H' S.cgr (S.outs hl q) (by unfold ResOk; rw [if_pos rfl]; exact ⟨a, rfl, na, fa, t⟩)
end
section
variable {P : Program} {w : World} {K : PySem.W.Frag} {mg : Str → Option Value} {base : Heap}
open PySem.Spec PyProof.Rows in
/-- THE RULE: a def of the text keeps the promise of its term -/
theorem fn_ok {ca : Str → Option Addr} {x qual : Str} {st : Stmt} {f : Addr} {fd : FuncData} {Nm ps : List Str} {k : Nat} {T : Def} {phi : String → List D → RC} (Fn : L2.Fun K x qual st f fd) (S : FnScope Nm ps (defScope st)) (hps : ps.length = T.ms.length) (hn : Nm.length = T.n) (hm : T.ms.length ≤ T.n)
    (body : ∀ (cdv : Value) (A : Around) (outer : List PySem.Env) (s : Shared) (H : Hp) (E : XK), Room k (A.deeper (envOfC qual (defScope st) s.heap.objs.size f cdv)) →
      Takes (cxOf (L2.CX P w) P w K mg base Nm qual (defScope st) f cdv A outer s H E) (fun cls d _ H => E cls d H) →
      PassesOwn (model P w) (cxOf (L2.CX P w) P w K mg base Nm qual (defScope st) f cdv A outer s H E).A (cxOf (L2.CX P w) P w K mg base Nm qual (defScope st) f cdv A outer s H E).env (cxOf (L2.CX P w) P w K mg base Nm qual (defScope st) f cdv A outer s H E).xe →
      PySem.W.kdsCode K cdv = true → Bv ca (fun cls d _ H => E cls d H) (cxOf (L2.CX P w) P w K mg base Nm qual (defScope st) f cdv A outer s H E) (defBody st) (T.body phi)) :
    FnOk P w K mg base (L2.CX P w) (k + 1) f fd ps (spOf ⟨P, w, K, ca⟩ T.ms (T.run phi)) := by
  obtain ⟨oc, od, kV, doc, pm, an, cdv, ct, osl, rfl, lk, hcd⟩ := Fn.ex
  refine fn_of lk hcd S (fun vs H Q E ⟨F, ds, l, a, _⟩ => by rw [a.lens.1, hps]) fun A outer s H vs Q E hr ⟨F, ds, l, a, ap, P⟩ => ?_
  refine ⟨_, body cdv A outer s H E hr (takes_of rfl rfl rfl rfl) (passes_of rfl) (kdsCode_of hcd), ⟨F, H, mSet T.ms vs, mAt T.ms vs⟩, F, startE T.ms ds T.n, start_ok l a ap hn hm, ?_⟩
  unfold Def.run at P
  rw [if_pos a.lens.2] at P
  exact body_end a.lens.1 P
end
end S3

/-! C2: a def called. -/
namespace S3
open PySem L2
section
variable {Z : Wd} {F F' H H' : Hp} {N : En} {σ : St} {e e' : Env} {W : WX}
theorem args_ok (S : SOk Z N F H σ e) : ∀ {ms : List Md} {rs : List RV} {vs : List V} {ds : List D}, Helds Z F σ vs rs → argD ms rs e = some ds → ArgsOk Z F H ms vs ds
  | [], [], _, _, h, q => by cases h; simp only [argD] at q; cases q; exact .nil
  | [], _ :: _, _, _, _, q => by simp only [argD] at q; cases q
  | m :: ms, [], _, _, _, q => by cases m <;> simp only [argD] at q <;> cases q
  | m :: ms, r :: rs, _, _, h, q => by
    cases h with
    | cons h1 h2 =>
      cases m with
      | v =>
        cases r <;> simp only [argD] at q <;> try (cases q; done)
        rw [Option.map_eq_some_iff] at q
        obtain ⟨ds, q1, rfl⟩ := q
        exact .v h1 (args_ok S h2 q1)
      | r =>
        simp only [argD] at q
        cases d1 : S3.rd r e with
        | none => rw [d1] at q; cases q
        | some d =>
          rw [d1] at q
          dsimp only at q
          rw [Option.map_eq_some_iff] at q
          obtain ⟨ds, q1, rfl⟩ := q
          exact .r (h1.rd S d1) (args_ok S h2 q1)
      | m =>
        cases r <;> simp only [argD] at q <;> try (cases q; done)
        rename_i i
        cases d1 : S3.slot e i <;> rw [d1] at q <;> dsimp only at q <;> try (cases q; done)
        all_goals
          rw [Option.map_eq_some_iff] at q
          obtain ⟨ds, q1, rfl⟩ := q
          obtain ⟨a, g1, g2, g3, _⟩ := own_at S d1 rfl rfl
          have h1' : σ[i]? = some (some _) := h1
          rw [g1] at h1'
          cases h1'
          exact .m g2 g3 (args_ok S h2 q1)
theorem held_at : ∀ {vs : List V} {rs : List RV} {j : Nat} {v : V}, Helds Z F σ vs rs → vs[j]? = some v → ∃ r, rs[j]? = some r ∧ Held Z F σ v r
  | _, _, _, _, .nil, h => by simp at h
  | _, _, 0, _, .cons a _, h => by simp at h; subst h; exact ⟨_, rfl, a⟩
  | _, _, j + 1, _, .cons _ t, h => by
    obtain ⟨r, h1, h2⟩ := held_at (j := j) t (by simpa using h)
    exact ⟨r, by simpa using h1, h2⟩
def ArgAt (e : Env) (m : Md) (r : RV) (d : D) : Prop := match m with
  | .v => r = .fz d
  | .r => S3.rd r e = some d
  | .m => ∃ i, r = .at i ∧ (S3.slot e i).own = true ∧ (S3.slot e i).val = some d
theorem argD_at : ∀ {ms : List Md} {rs : List RV} {ds : List D} {j : Nat} {m : Md} {r : RV} {d : D}, argD ms rs e = some ds → ms[j]? = some m → rs[j]? = some r → ds[j]? = some d →
    ArgAt e m r d
  | [], _, _, _, _, _, _, _, h, _, _ => by simp at h
  | m :: ms, [], _, _, _, _, _, q, _, _, _ => by cases m <;> simp only [argD] at q <;> cases q
  | m :: ms, r :: rs, ds, j, _, _, _, q, h1, h2, h3 => by
    have key : ∃ d ds', ds = d :: ds' ∧ argD ms rs e = some ds' ∧ ArgAt e m r d := by
      cases m with
      | v =>
        cases r <;> simp only [argD] at q <;> try (cases q; done)
        rw [Option.map_eq_some_iff] at q
        obtain ⟨ds', q1, rfl⟩ := q
        exact ⟨_, _, rfl, q1, rfl⟩
      | r =>
        simp only [argD] at q
        cases d1 : S3.rd r e with
        | none => rw [d1] at q; cases q
        | some d =>
          rw [d1] at q
          dsimp only at q
          rw [Option.map_eq_some_iff] at q
          obtain ⟨ds', q1, rfl⟩ := q
          exact ⟨_, _, rfl, q1, d1⟩
      | m =>
        cases r <;> simp only [argD] at q <;> try (cases q; done)
        rename_i i
        cases d1 : S3.slot e i <;> rw [d1] at q <;> dsimp only at q <;> try (cases q; done)
        all_goals
          rw [Option.map_eq_some_iff] at q
          obtain ⟨ds', q1, rfl⟩ := q
          exact ⟨_, _, rfl, q1, i, rfl, by rw [d1]; rfl, by rw [d1]; rfl⟩
    obtain ⟨d, ds', rfl, q1, k⟩ := key
    cases j with
    | zero => simp at h1 h2 h3; subst h1 h2 h3; exact k
    | succ j => exact argD_at (j := j) q1 (by simpa using h1) (by simpa using h2) (by simpa using h3)
theorem mutIx_mem : ∀ {ms : List Md} {rs : List RV} {i p : Nat}, ms[i]? = some .m → rs[i]? = some (.at p) → p ∈ mutIx ms rs
  | [], _, _, _, h, _ => by simp at h
  | _ :: _, [], _, _, _, h => by simp at h
  | m :: ms, r :: rs, 0, p, h1, h2 => by simp at h1 h2; subst h1 h2; exact List.mem_cons_self
  | m :: ms, r :: rs, i + 1, p, h1, h2 => by
    have ih := mutIx_mem (ms := ms) (rs := rs) (i := i) (p := p) (by simpa using h1) (by simpa using h2)
    cases m <;> cases r <;> simp only [mutIx] <;> first | exact ih | exact List.mem_cons_of_mem _ ih
theorem atIx_count1 : ∀ {rs : List RV} {i p : Nat}, rs[i]? = some (.at p) → 1 ≤ (atIx rs).count p
  | [], _, _, h => by simp at h
  | r :: rs, 0, p, h => by simp at h; subst h; simp [atIx]
  | r :: rs, i + 1, p, h => by
    have ih := atIx_count1 (rs := rs) (i := i) (p := p) (by simpa using h)
    cases r <;> simp only [atIx] <;> first | exact ih | (rw [List.count_cons]; omega)
theorem atIx_count2 : ∀ {rs : List RV} {i j p : Nat}, i < j → rs[i]? = some (.at p) → rs[j]? = some (.at p) → 2 ≤ (atIx rs).count p
  | [], _, _, _, _, h, _ => by simp at h
  | r :: rs, 0, 0, _, l, _, _ => absurd l (Nat.lt_irrefl _)
  | r :: rs, i + 1, 0, _, l, _, _ => absurd l (Nat.not_lt_zero _)
  | r :: rs, 0, j + 1, p, _, h, k => by
    simp at h
    subst h
    have := atIx_count1 (rs := rs) (i := j) (p := p) (by simpa using k)
    simp only [atIx, List.count_cons_self]
    omega
  | r :: rs, i + 1, j + 1, p, l, h, k => by
    have ih := atIx_count2 (rs := rs) (i := i) (j := j) (p := p) (by omega) (by simpa using h) (by simpa using k)
    cases r <;> simp only [atIx] <;> first | exact ih | (rw [List.count_cons]; omega)
theorem apart_no {ms : List Md} {rs : List RV} {i j p : Nat} (h : apart ms rs = true) (hm : ms[i]? = some .m) (h1 : rs[i]? = some (.at p)) (h2 : rs[j]? = some (.at p)) (ne : i ≠ j) : False := by
  unfold apart at h
  have q := List.all_eq_true.mp h p (mutIx_mem hm h1)
  rw [beq_iff_eq] at q
  rcases Nat.lt_or_gt_of_ne ne with l | l
  · have := atIx_count2 l h1 h2; omega
  · have := atIx_count2 l h2 h1; omega
theorem apart_ok (S : SOk Z N F H σ e) {ms : List Md} {rs : List RV} {vs : List V} {ds : List D} (hl : Helds Z F σ vs rs) (q : argD ms rs e = some ds) (ap : apart ms rs = true) : ApartV Z F ms vs ds := by
  intro i j a m d ne hi hj hd lv
  have A := args_ok S hl q
  unfold mAt at hi
  cases q1 : ms[i]? with
  | none => rw [q1] at hi; cases hi
  | some mi =>
    cases q2 : vs[i]? with
    | none => rw [q1, q2] at hi; cases mi <;> cases hi
    | some vi =>
      rw [q1, q2] at hi
      cases mi <;> cases vi <;> cases hi
      have li : i < ds.length := by rw [A.lens.2]; exact (List.getElem?_eq_some_iff.mp q1).1
      obtain ⟨ri, g1, g2⟩ := held_at hl q2
      obtain ⟨p, e1, ho, hv⟩ := argD_at q q1 g1 (List.getElem?_eq_getElem li)
      subst e1
      have g2' : σ[p]? = some (some (.ref a)) := g2
      have np : S3.slot e p ≠ .no := fun z => by rw [z] at ho; cases ho
      have gp := slot_get rfl np
      have lp : Live Z F ((σ[p]?).join) (S3.slot e p) a := by
        rw [g2']
        cases q5 : S3.slot e p <;> rw [q5] at ho <;> first | rfl | cases ho
      obtain ⟨vj, hvj, _⟩ := A.at hj hd
      rw [hvj] at lv
      obtain ⟨rj, k1, k2⟩ := held_at hl hvj
      have kd := argD_at q hj k1 hd
      have atj : ∀ p2, rj = .at p2 → vj = .ref a → (∀ x, S3.slot e p2 = .fz x → x = d) → (∀ x, S3.slot e p2 = .bo x → x = d) → ¬ Rp Z F (.ref a) d ∨ (S3.slot e p2).own = true → False := by
        intro p2 e2 e3 z1 z3 z2
        subst e2 e3
        have k2' : σ[p2]? = some (some (.ref a)) := k2
        by_cases pp : p = p2
        · subst pp; exact apart_no ap q1 g1 k1 ne
        · cases q6 : S3.slot e p2 with
          | no =>
            cases m with
            | v => cases kd
            | r => have kd' : (S3.slot e p2).val = some d := kd; rw [q6] at kd'; cases kd'
            | m => obtain ⟨_, e5, o5, _⟩ := kd; cases e5; rw [q6] at o5; cases o5
          | fz x =>
            have e7 := z1 x q6
            subst e7
            obtain ⟨o, h1, w, rfl, r⟩ := S.slot p2 _ (slot_get q6 (by intro z; cases z))
            rw [k2'] at h1
            cases h1
            rcases z2 with z2 | z2
            · exact z2 r
            · rw [q6] at z2; cases z2
          | bo x =>
            have e7 := z3 x q6
            subst e7
            rcases z2 with z2 | z2
            · exact S.sep p p2 _ _ a gp (slot_get q6 (by intro z; cases z)) pp ho lp (by rw [k2']; exact ⟨rfl, z2⟩)
            · rw [q6] at z2; cases z2
          | ow x => exact S.sep p p2 _ _ a gp (slot_get q6 (by intro z; cases z)) pp ho lp (by rw [k2']; rfl)
          | mu x => exact S.sep p p2 _ _ a gp (slot_get q6 (by intro z; cases z)) pp ho lp (by rw [k2']; rfl)
      cases m with
      | v => exact lv
      | r =>
        obtain ⟨e3, nr⟩ := lv
        cases e3
        cases rj with
        | fz x => cases kd; exact nr k2
        | nw x => cases kd; exact nr k2
        | «at» p2 =>
          have kd' : (S3.slot e p2).val = some d := kd
          exact atj p2 rfl rfl (fun x hx => by rw [hx] at kd'; exact Option.some.inj kd') (fun x hx => by rw [hx] at kd'; exact Option.some.inj kd') (.inl nr)
      | m =>
        have e3 : some vj = some (.ref a) := lv
        cases e3
        obtain ⟨p2, e5, o5, v5⟩ := kd
        subst e5
        exact atj p2 rfl rfl (fun x hx => by rw [hx] at o5; cases o5) (fun x hx => by rw [hx] at o5; cases o5) (.inr o5)

/-! the slots behind the call -/
/-- what has become of the slots: as they were, or (at is) another object's tree -/
def Wb (Z : Wd) (F H : Hp) (σ : St) (is : List Nat) (e e2 : Env) : Prop := e2.length = e.length ∧ ∀ j s2, e2[j]? = some s2 →
  ∃ s, e[j]? = some s ∧ ((j ∉ is ∧ s2 = s) ∨ (j ∈ is ∧ s.own = true ∧ ∃ a d', σ[j]? = some (some (.ref a)) ∧ s2 = reown s d' ∧ Top Z F H a d'))
theorem wb_ok : ∀ {is : List Nat} {ds : List D} {e e2 : Env}, wback is ds e = some e2 → is.Nodup →
    (∀ (k i : Nat) (d : D), is[k]? = some i → ds[k]? = some d → ∃ a, σ[i]? = some (some (V.ref a)) ∧ Top Z F H a d) → Wb Z F H σ is e e2
  | [], [], e, _, h, _, _ => by
    simp only [wback] at h
    cases h
    exact ⟨rfl, fun j s h => ⟨s, h, .inl ⟨by simp, rfl⟩⟩⟩
  | [], _ :: _, _, _, h, _, _ => by simp only [wback] at h; cases h
  | _ :: _, [], _, _, h, _, _ => by simp only [wback] at h; cases h
  | i :: is, d :: ds, e, e2, h, nd, ht => by
    obtain ⟨n1, n2⟩ := List.nodup_cons.mp nd
    obtain ⟨a, g1, g2⟩ := ht 0 i d rfl rfl
    have step : (S3.slot e i).own = true ∧ wback is ds (e.set i (reown (S3.slot e i) d)) = some e2 := by
      simp only [wback] at h
      cases q : S3.slot e i <;> rw [q] at h <;> dsimp only at h <;> first | exact ⟨rfl, h⟩ | cases h
    obtain ⟨o1, h1⟩ := step
    have ih := wb_ok h1 n2 fun k i' d' k1 k2 => ht (k + 1) i' d' (by simpa using k1) (by simpa using k2)
    have np : S3.slot e i ≠ .no := fun z => by rw [z] at o1; cases o1
    have gp := slot_get rfl np
    refine ⟨by rw [ih.1, List.length_set], fun j s2 hj => ?_⟩
    obtain ⟨s, k1, k2⟩ := ih.2 j s2 hj
    rcases get_set k1 with ⟨rfl, rfl, l⟩ | ⟨ne, k1'⟩
    · rcases k2 with ⟨_, rfl⟩ | ⟨m, _⟩
      · exact ⟨_, gp, .inr ⟨List.mem_cons_self, o1, a, d, g1, rfl, g2⟩⟩
      · exact (n1 m).elim
    · refine ⟨s, k1', ?_⟩
      rcases k2 with ⟨m, rfl⟩ | ⟨m, r⟩
      · exact .inl ⟨fun z => (List.mem_cons.mp z).elim (fun z => ne z.symm) m, rfl⟩
      · exact .inr ⟨List.mem_cons_of_mem _ m, r⟩
theorem reown_own {s : Sl} {d : D} (h : s.own = true) : (reown s d).own = true := by cases s <;> first | rfl | cases h
theorem live_reown {s : Sl} {d : D} {o : Option V} {a : Addr} (h : s.own = true) : Live Z F o (reown s d) a ↔ Live Z F o s a := by
  cases s <;> first | exact Iff.rfl | cases h
/-- the frame's state behind a call -/
theorem SOk.called (S : SOk Z N F H σ e) {M : List Addr} {is : List Nat} (g : CGr F H M F' H') (hM : ∀ a, a ∈ M → ∃ i s, i ∈ is ∧ e[i]? = some s ∧ s.own = true ∧ σ[i]? = some (some (.ref a)))
    (wb : Wb Z F' H' σ is e e') : SOk Z N F' H' σ e' where
  le := g.le
  f0 := S.f0.trans g.f
  h0 := fun b o h m => g.h b o (S.h0 b o h m) fun hb => by
    obtain ⟨i, s, _, h1, h2, h3⟩ := hM b hb
    obtain ⟨ov, k1, k2⟩ := S.slot i s h1
    rw [h3] at k1
    cases k1
    cases s <;> try (cases h2; done)
    · obtain ⟨c, e1, _, n, _⟩ := k2; cases e1; rw [n] at h; cases h
    · obtain ⟨c, e1, _, n, _⟩ := k2; cases e1; exact m n
  nf := fun b o h n => by
    by_cases m : b ∈ N.M
    · obtain ⟨x, ⟨u, y⟩, z⟩ := S.mh b m
      exact g.nf b u y x
    · exact g.nf b o (S.h0 b o h m) (S.nf b o h n)
  len := by rw [S.len, wb.1]
  slot := fun j s2 hj => by
    obtain ⟨s, h1, h2⟩ := wb.2 j s2 hj
    obtain ⟨o, k1, k2⟩ := S.slot j s h1
    refine ⟨o, k1, ?_⟩
    rcases h2 with ⟨nj, rfl⟩ | ⟨mj, ho, a, d', g1, rfl, t⟩
    · have kp : ∀ a, Live Z F o s2 a → ∀ u, H a = some u → H' a = some u := fun a l u hu => g.h a u hu fun hb => by
        obtain ⟨i, s, hi, h1', h2', h3'⟩ := hM a hb
        have ne : i ≠ j := fun z => nj (z ▸ hi)
        exact S.sep i j s s2 a h1' h1 ne h2' (by rw [h3']; cases s <;> first | rfl | cases h2') (by rw [k1]; exact l)
      cases s2 with
      | no => trivial
      | fz d => obtain ⟨v, e, r⟩ := k2; exact ⟨v, e, r.mono g.f⟩
      | ow d => obtain ⟨a, e, x, y, t⟩ := k2; obtain ⟨u, hu⟩ := t.there; exact ⟨a, e, g.nf _ _ hu x, y, t.keep g.f (kp a (by rw [e]; rfl))⟩
      | mu d => obtain ⟨a, e, x, y, t⟩ := k2; obtain ⟨u, hu⟩ := t.there; exact ⟨a, e, g.nf _ _ hu x, y, t.keep g.f (kp a (by rw [e]; rfl))⟩
      | bo d =>
        obtain ⟨v, e, r⟩ := k2
        by_cases rr : Rp Z F v d
        · exact ⟨v, e, .inl (rr.mono g.f)⟩
        · rcases r with r | ⟨a, rfl, x, y, z, t⟩
          · exact (rr r).elim
          · obtain ⟨u, hu⟩ := t.there
            exact ⟨_, e, .inr ⟨a, rfl, g.nf _ _ hu x, y, z, t.keep g.f (kp a (by rw [e]; exact ⟨rfl, rr⟩))⟩⟩
    · rw [k1] at g1
      cases g1
      cases s <;> try (cases ho; done)
      · obtain ⟨c, e1, x, y, t0⟩ := k2; cases e1; obtain ⟨u, hu⟩ := t0.there; exact ⟨a, rfl, g.nf _ _ hu x, y, t⟩
      · obtain ⟨c, e1, x, y, t0⟩ := k2; cases e1; obtain ⟨u, hu⟩ := t0.there; exact ⟨a, rfl, g.nf _ _ hu x, y, t⟩
  sep := fun i j s2 t2 a h1 h2 ne o l1 l2 => by
    obtain ⟨s, g1, g2⟩ := wb.2 i s2 h1
    obtain ⟨t, g3, g4⟩ := wb.2 j t2 h2
    have ho : s.own = true := by
      rcases g2 with ⟨_, rfl⟩ | ⟨_, ho, _⟩
      · exact o
      · exact ho
    have k1 : Live Z F ((σ[i]?).join) s a := by
      rcases g2 with ⟨_, rfl⟩ | ⟨_, ho, _, d', _, rfl, _⟩
      · exact l1.mono g.f
      · exact ((live_reown ho).mp l1).mono g.f
    have k2 : Live Z F ((σ[j]?).join) t a := by
      rcases g4 with ⟨_, rfl⟩ | ⟨_, ho, _, d', _, rfl, _⟩
      · exact l2.mono g.f
      · exact ((live_reown ho).mp l2).mono g.f
    exact S.sep i j s t a g1 g3 ne ho k1 k2
  mh := fun a m => by
    obtain ⟨x, ⟨u, y⟩, z⟩ := S.mh a m
    refine ⟨g.nf a u y x, ?_, z⟩
    by_cases hb : a ∈ M
    · obtain ⟨i, s, hi, h1', h2', h3'⟩ := hM a hb
      have il : i < e'.length := by rw [wb.1]; exact (List.getElem?_eq_some_iff.mp h1').1
      obtain ⟨s', k1, k2⟩ := wb.2 i _ (List.getElem?_eq_getElem il)
      rcases k2 with ⟨ni, _⟩ | ⟨_, _, a', d', e1, _, t⟩
      · exact (ni hi).elim
      · rw [h3'] at e1; cases e1; exact t.there
    · exact ⟨u, g.h a u y hb⟩
  mus := fun i d h => by
    obtain ⟨s, g1, g2⟩ := wb.2 i _ h
    rcases g2 with ⟨_, rfl⟩ | ⟨_, ho, a, d', _, e1, _⟩
    · exact S.mus i d g1
    · cases s with
      | no => cases ho
      | fz d => cases ho
      | bo d => cases ho
      | ow d => simp only [reown] at e1; cases e1
      | mu d => exact S.mus i _ g1
theorem outs_at : ∀ {ms : List Md} {rs : List RV} {vs : List V} {outs : List D}, Helds Z F σ vs rs → OutsOk Z F' H' ms vs outs → argD ms rs e = some ds →
    ∀ (k i : Nat) (d : D), (mutIx ms rs)[k]? = some i → outs[k]? = some d → ∃ a, σ[i]? = some (some (V.ref a)) ∧ Top Z F' H' a d := by
  intro ms
  induction ms generalizing ds with
  | nil => intro rs vs outs _ _ _ k i d h; simp [mutIx] at h
  | cons m ms ih =>
    intro rs vs outs hl ho q k i d h1 h2
    cases hl with
    | nil => cases m <;> simp [mutIx] at h1
    | @cons v vs r rs a hl =>
      have tail : ∃ ds', argD ms rs e = some ds' := by
        cases m with
        | v =>
          cases r <;> simp only [argD] at q <;> try (cases q; done)
          rw [Option.map_eq_some_iff] at q
          obtain ⟨ds', q1, _⟩ := q
          exact ⟨_, q1⟩
        | r =>
          simp only [argD] at q
          cases d1 : S3.rd r e with
          | none => rw [d1] at q; cases q
          | some d =>
            rw [d1] at q
            dsimp only at q
            rw [Option.map_eq_some_iff] at q
            obtain ⟨ds', q1, _⟩ := q
            exact ⟨_, q1⟩
        | m =>
          cases r <;> simp only [argD] at q <;> try (cases q; done)
          rename_i i
          cases d1 : S3.slot e i <;> rw [d1] at q <;> dsimp only at q <;> try (cases q; done)
          all_goals
            rw [Option.map_eq_some_iff] at q
            obtain ⟨ds', q1, _⟩ := q
            exact ⟨_, q1⟩
      obtain ⟨ds', q1⟩ := tail
      cases ho with
      | v ho => cases r <;> exact ih hl ho q1 k i d h1 h2
      | r ho => cases r <;> exact ih hl ho q1 k i d h1 h2
      | m t ho =>
        cases r <;> simp only [argD] at q <;> try (cases q; done)
        cases k with
        | zero => simp [mutIx] at h1 h2; subst h1 h2; exact ⟨_, a, t⟩
        | succ k => exact ih hl ho q1 k i d (by simpa [mutIx] using h1) (by simpa using h2)
theorem mset_at : ∀ {ms : List Md} {rs : List RV} {vs : List V} {ds : List D} {a : Addr}, Helds Z F σ vs rs → argD ms rs e = some ds → a ∈ mSet ms vs →
    ∃ i s, i ∈ mutIx ms rs ∧ e[i]? = some s ∧ s.own = true ∧ σ[i]? = some (some (.ref a)) := by
  intro ms rs vs ds a hl q h
  obtain ⟨j, hj⟩ := mem_mSet.mp h
  unfold mAt at hj
  cases q1 : ms[j]? with
  | none => rw [q1] at hj; cases hj
  | some mj =>
    cases q2 : vs[j]? with
    | none => rw [q1, q2] at hj; cases mj <;> cases hj
    | some vj =>
      rw [q1, q2] at hj
      cases mj <;> cases vj <;> cases hj
      obtain ⟨rj, g1, g2⟩ := held_at hl q2
      have len : ∀ {ms : List Md} {rs : List RV} {ds : List D}, argD ms rs e = some ds → ds.length = ms.length := by
        intro ms
        induction ms with
        | nil => intro rs ds q; cases rs <;> simp only [argD] at q <;> cases q; rfl
        | cons m ms ih =>
          intro rs ds q
          cases rs with
          | nil => cases m <;> simp only [argD] at q <;> cases q
          | cons r rs =>
            cases m with
            | v =>
              cases r <;> simp only [argD] at q <;> try (cases q; done)
              rw [Option.map_eq_some_iff] at q
              obtain ⟨ds', q1, rfl⟩ := q
              exact congrArg Nat.succ (ih q1)
            | r =>
              simp only [argD] at q
              cases d1 : S3.rd r e with
              | none => rw [d1] at q; cases q
              | some d =>
                rw [d1] at q
                dsimp only at q
                rw [Option.map_eq_some_iff] at q
                obtain ⟨ds', q1, rfl⟩ := q
                exact congrArg Nat.succ (ih q1)
            | m =>
              cases r <;> simp only [argD] at q <;> try (cases q; done)
              rename_i i
              cases d1 : S3.slot e i <;> rw [d1] at q <;> dsimp only at q <;> try (cases q; done)
              all_goals
                rw [Option.map_eq_some_iff] at q
                obtain ⟨ds', q1, rfl⟩ := q
                exact congrArg Nat.succ (ih q1)
      have lj : j < ds.length := by rw [len q]; exact (List.getElem?_eq_some_iff.mp q1).1
      obtain ⟨p, e1, ho, _⟩ := argD_at q q1 g1 (List.getElem?_eq_getElem lj)
      subst e1
      have np : S3.slot e p ≠ .no := fun z => by rw [z] at ho; cases ho
      exact ⟨p, _, mutIx_mem q1 g1, slot_get rfl np, ho, g2⟩
theorem mut_nodup : ∀ {ms : List Md} {rs : List RV}, apart ms rs = true → (mutIx ms rs).Nodup := by
  intro ms rs h
  have all : ∀ p ∈ mutIx ms rs, (atIx rs).count p = 1 := fun p hp => by
    unfold apart at h
    have q := List.all_eq_true.mp h p hp
    rwa [beq_iff_eq] at q
  clear h
  have le : ∀ (ms : List Md) (rs : List RV) (p : Nat), (mutIx ms rs).count p ≤ (atIx rs).count p := by
    intro ms
    induction ms with
    | nil => intro rs p; simp [mutIx]
    | cons m ms ih =>
      intro rs p
      cases rs with
      | nil => cases m <;> simp [mutIx]
      | cons r rs =>
        have := ih rs p
        cases m <;> cases r <;> simp only [mutIx, atIx, List.count_cons] <;> omega
  rw [List.nodup_iff_count]
  intro p
  by_cases hp : p ∈ mutIx ms rs
  · have := le ms rs p
    rw [all p hp] at this
    exact this
  · rw [List.count_eq_zero_of_not_mem hp]
    exact Nat.zero_le _
/-- THE CALL -/
theorem call_rd {ms : List Md} {phi : List D → RC} {a : AV} {Q : VK} (h : tEv Z W (eCall phi ms a) σ H Q) : tAv Z W a σ H fun vs H1 => spOf Z ms phi (vs ++ []) H1 Q (WE W σ) := by
  obtain ⟨N, F, e, S, P⟩ := h
  unfold eCall at P
  refine ⟨N, F, e, S, ?_⟩
  cases q : a e with
  | no => rw [q] at P; exact P
  | ex z e1 => rw [q] at P; exact P
  | ok rs e1 =>
    rw [q] at P
    dsimp only at P
    intro vs F1 H1 f1 S1 hl
    rw [List.append_nil]
    cases q1 : argD ms rs e1 with
    | none => rw [q1] at P; exact P.elim
    | some ds =>
      rw [q1] at P
      dsimp only at P
      split at P
      · rename_i ap
        refine ⟨F1, ds, S1.le, args_ok S1 hl q1, apart_ok S1 hl q1 ap, ?_⟩
        have P1 := PostE.shift P f1
        have after : ∀ {F' H' : Hp} {outs : List D} {e2 : Env}, CGr F1 H1 (mSet ms vs) F' H' → OutsOk Z F' H' ms vs outs → wback (mutIx ms rs) outs e1 = some e2 → SOk Z N F' H' σ e2 :=
          fun {F' H' outs e2} g ho w => S1.called g (fun a ha => mset_at hl q1 ha) (wb_ok w (mut_nodup ap) (outs_at hl ho q1))
        cases q2 : phi ds with
        | no => rw [q2] at P1; exact P1
        | ok n d outs =>
          rw [q2] at P1
          dsimp only at P1
          intro v F' H' g ho r
          cases q3 : wback (mutIx ms rs) outs e1 with
          | none => rw [q3] at P1; exact P1.elim
          | some e2 =>
            rw [q3] at P1
            have S2 := after g ho q3
            refine P1 v F' H' g.f S2 ?_
            unfold ResOk at r
            cases n with
            | false => rw [if_neg Bool.false_ne_true] at r; exact r
            | true =>
              rw [if_pos rfl] at r
              obtain ⟨b, rfl, hb, fb, t⟩ := r
              refine ⟨b, rfl, fb, S1.nohave hb, t, fun j s hj l => ?_⟩
              obtain ⟨s0, k1, k2⟩ := (wb_ok q3 (mut_nodup ap) (outs_at hl ho q1)).2 j s hj
              have l0 : Live Z F1 ((σ[j]?).join) s0 b := by
                rcases k2 with ⟨_, rfl⟩ | ⟨_, ho', _, d', _, rfl, _⟩
                · exact l.mono g.f
                · exact ((live_reown ho').mp l).mono g.f
              obtain ⟨_, u, hu⟩ := S1.live k1 l0
              rw [hb] at hu; cases hu
        | ex x outs =>
          rw [q2] at P1
          dsimp only at P1
          intro cls dd F' H' g ho r
          cases q3 : wback (mutIx ms rs) outs e1 with
          | none => rw [q3] at P1; exact P1.elim
          | some e2 =>
            rw [q3] at P1
            exact P1 cls dd F' H' g.f (after g ho q3) r
      · exact P.elim
end
section
variable {ca : Str → Option Addr} {W : WX} {X : Cx} {a : Expr} {es : List Expr} {ga : AV} {pos p : Pos}
/-- a def of the module, as the module's code may call it -/
structure FnT (ca : Str → Option Addr) (P : Program) (w : World) (K : PySem.W.Frag) (mg : Str → Option Value) (base : Heap) (k : Nat) (n : Str) (ms : List Md) (phi : List D → RC) : Prop where
  ex : ∃ (f : Addr) (fd : FuncData) (ps : List Str), FnOk P w K mg base (L2.CX P w) k f fd ps (spOf ⟨P, w, K, ca⟩ ms phi) ∧ mg n = some (.ref f) ∧ PySem.W.keepIn K (.ref f) = true ∧ Binds K fd ps []
theorem ev_call {n : Str} {k : Nat} {ms : List Md} {phi : List D → RC} (G : FnT ca X.prog X.w X.K X.mg X.base k n ms phi) (hr : Room k X.A) (tk : Takes X W) (ha : Av ca W X (a :: es) ga) (hg : Gl X n := by rfl) (hdb : (n == ("__debug__" : Str)) = false := by decide)
    (he : starEach (a :: es) X.env = (false, eval a X.env) :: starEach es X.env := by rfl) (hpl : (backTo pos (starEach es X.env)).any (·.1) = false := by rfl) : Ev ca W X (.Call (.Name n p) (a :: es) [] pos) (eCall phi ms ga) := by
  obtain ⟨f, fd, ps, G, hm, hk, hb⟩ := G.ex
  exact PE_imp (pe_callSD G hr hg hm hk hb .nil (fun σ => passAt tk σ) ha hdb he hpl) fun _ _ _ => call_rd
open PySem.Spec PyProof.Rows in
theorem ev_call0 {n : Str} {k : Nat} {phi : List D → RC} (G : FnT ca X.prog X.w X.K X.mg X.base k n [] phi) (hr : Room k X.A) (tk : Takes X W) (hg : Gl X n := by rfl) (hdb : (n == ("__debug__" : Str)) = false := by decide) : Ev ca W X (.Call (.Name n p) [] [] pos) (eCall phi [] aNil) := by
  obtain ⟨f, fd, ps, G, hm, hk, hb⟩ := G.ex
  refine ⟨fun pins s σ H Q I h => ?_⟩
  refine wpAny_Call_Name_kw (ld_glob I hg hm ?_ hdb)
  exact PySem.W.callWith_K0 I.kIn hk (run_fnSD (us := []) G hr hb .nil (passAt tk σ) I .nil (tAv_nil (call_rd h)))
end
end S3

/-! C3: chains, names from a tuple; the depth of calls; the law's end. -/
namespace S3
open PySem L2
/-- a o b o' c -/
def eChain (o o' : D → D → Option RV) (f g h : EV) : EV := eBind f fun r => eBind g fun q e => match rd r e, rd q e with
  | some x, some y => (match o x y with
    | some (.fz (.bl true)) => eBind h (fun p e => match rd q e, rd p e with
      | some y, some z => ofOp (o' y z) e
      | _, _ => .no) e
    | some (.fz (.bl false)) => .ok (.fz (.bl false)) e
    | _ => .no)
  | _, _ => .no
section
variable {Z : Wd} {F F' H H' : Hp} {N : En} {σ : St} {e e' : Env} {v x y : V} {W : WX} {E : Ends}
theorem chain_rd {r r' : V → V → Hp → VK → Prop} {o o' : D → D → Option RV} (hs : Sound2 Z r o) (hs' : Sound2 Z r' o') {fa fb fc : EV} {Q : VK} (h : tEv Z W (eChain o o' fa fb fc) σ H Q) :
    tChain r r' (tEv Z W fa) (tEv Z W fb) (tEv Z W fc) σ H Q := by
  obtain ⟨N, F, e, S, P⟩ := h
  refine bindL S P fun x F1 H1 e1 ra f1 S1 R1 P1 => ?_
  obtain ⟨F2, f2, S2, h2⟩ := RvOk.hold S1 R1
  refine bindL S2 (PostE.shift P1 f2) fun y F3 H3 e3 rb f3 T3 R3 P3 => ?_
  obtain ⟨F4, f4, S4, h4⟩ := RvOk.hold T3 R3
  have P4 := PostE.shift P3 f4
  have g2 := (h2.mono f3).mono f4
  cases d1 : S3.rd ra e3 with
  | none => rw [d1] at P4; exact P4.elim
  | some dx =>
    cases d2 : S3.rd rb e3 with
    | none => rw [d1, d2] at P4; exact P4.elim
    | some dy =>
      rw [d1, d2] at P4
      dsimp only at P4
      cases d3 : o dx dy with
      | none => rw [d3] at P4; exact P4.elim
      | some rr =>
        rw [d3] at P4
        have fin : ∀ b : Bool, rr = .fz (.bl b) → (if b = true then PostE Z N F4 σ W Q (eBind fc (fun p e => match S3.rd rb e, S3.rd p e with | some y, some z => ofOp (o' y z) e | _, _ => .no) e3) else PostE Z N F4 σ W Q (.ok (.fz (.bl false)) e3)) →
            r x y H3 fun z H4 => ∃ k, z = .bl k ∧ (if k = true then tEv Z W fc σ H4 fun w' H5 => r' y w' H5 Q else Q (.bl false) H4) := by
          rintro b rfl P5
          refine hs F4 H3 x y dx dy _ _ S4.le (g2.rd S4 d1) (h4.rd S4 d2) d3 fun v F' H' g n => ?_
          have T5 : SOk Z N F' H' σ e3 := S4.gr g
          have n' : Rp Z F' v (.bl b) := n
          refine ⟨b, RdV.bl (H := H') (.inl n'), ?_⟩
          cases b with
          | false =>
            rw [if_neg Bool.false_ne_true] at P5 ⊢
            exact P5 _ F' H' g.f T5 (.bl false)
          | true =>
            rw [if_pos rfl] at P5 ⊢
            have h5 := h4.mono g.f
            refine bindL T5 (PostE.shift P5 g.f) fun z F6 H6 e6 rc f6 T6 R6 P6 => ?_
            obtain ⟨F7, f7, S7, h7⟩ := RvOk.hold T6 R6
            have P7 := PostE.shift P6 f7
            have g5 := (h5.mono f6).mono f7
            cases d5 : S3.rd rb e6 with
            | none => rw [d5] at P7; exact P7.elim
            | some dy2 =>
              cases d6 : S3.rd rc e6 with
              | none => rw [d5, d6] at P7; exact P7.elim
              | some dz =>
                rw [d5, d6] at P7
                dsimp only at P7
                cases d7 : o' dy2 dz with
                | none => rw [d7] at P7; exact P7.elim
                | some r7 =>
                  rw [d7] at P7
                  exact hs' F7 H6 y z dy2 dz r7 Q S7.le (g5.rd S7 d5) (h7.rd S7 d6) d7 (op_end S7 P7)
        cases rr with
        | fz d =>
          cases d with
          | bl b =>
            refine fin b rfl ?_
            cases b with
            | true => exact P4
            | false => exact P4
          | _ => exact P4.elim
        | _ => exact P4.elim
end
section
variable {ca : Str → Option Addr} {W : WX} {X : Cx} {a b c : Expr} {fa fb fc : EV} {pos p : Pos} {st : Stmt}
theorem ev_chain {op op' : CmpOp} {r r' : R2} {o o' : D → D → Option RV} (ho : OpR X (compareOp op) r) (hs : Sound2 (zw ca X) r o) (ho' : OpR X (compareOp op') r') (hs' : Sound2 (zw ca X) r' o') (ha : Ev ca W X a fa) (hb : Ev ca W X b fb) (hc : Ev ca W X c fc)
    (hm : lastMarks [op, op'] [b, c] = false := by with_unfolding_all rfl) : Ev ca W X (.Compare a [op, op'] [b, c] pos) (eChain o o' fa fb fc) := PE_imp (pe_chain ho ho' ha hb hc hm) fun _ _ _ => chain_rd hs hs'
theorem tv_chain {op op' : CmpOp} {r r' : R2} {o o' : D → D → Option RV} (ho : OpR X (compareOp op) r) (hs : Sound2 (zw ca X) r o) (ho' : OpR X (compareOp op') r') (hs' : Sound2 (zw ca X) r' o') (ha : Ev ca W X a fa) (hb : Ev ca W X b fb) (hc : Ev ca W X c fc)
    (hm : lastMarks [op, op'] [b, c] = false := by with_unfolding_all rfl) : Tv ca W X (.Compare a [op, op'] [b, c] pos) (tVal (eChain o o' fa fb fc)) := PT_imp (pt_chain ho ho' ha hb hc hm) fun _ _ Q h => by
  obtain h1 := test_val h
  have h2 := chain_rd hs hs' h1
  exact h2
theorem sv_unp {k n : Nat} {is : List Nat} {es : List Expr} {g : TGs} {p2 : Pos} (hc : X.calm = true) (h : Ev ca W X a fa) (hg : PGs X es g) (tk : TgsOk (zw ca X) g is) (hl : n = is.length := by rfl)
    (hn : (assignEach es X.env).length = n := by rfl) (hst : (assignEach es X.env).findIdx? (·.1) = none := by rfl) (hs : swapsWithSole [.Tuple es k p2] a pos.line X.env = pure false := by rfl) (hw : swappedStores [.Tuple es k p2] a X.env = pure none := by rfl)
    (h1 : (assignEach [.Tuple es k p2] X.env).map (·.2) = [assign (.Tuple es k p2) X.env] := by rfl) :
    Sv ca W X (.Assign [.Tuple es k p2] a pos) (sUnp is fa) := PS_imp (ps_asg h (pg_tup hc hg hn hst) hs hw h1) fun _ _ _ => st_unp (tg_tup tk hl rfl)
end
/-! ### in comprehensions nothing is raised -/
theorem takes0 {X : Cx} : Takes X W0 := fun u s' ⟨_, _, _, _, _, _, _, _, _, _, _, _, _, _, _, _, w⟩ => w.elim
section
variable {P : Program} {w : World} {K : PySem.W.Frag} {mg : Str → Option Value} {base : Heap} {ca : Str → Option Addr}
/-- at depth 0 nothing is promised -/
theorem FnT.zero {n : Str} {f : Addr} {fd : FuncData} {ps : List Str} {ms : List Md} {g : String} {tab : String → Option Def} (hf : mg n = some (.ref f)) (hk : PySem.W.keepIn K (.ref f) = true) (hb : Binds K fd ps []) : FnT ca P w K mg base 0 n ms (sem tab 0 g) :=
  ⟨f, fd, ps, ⟨fun vs H Q E ⟨_, _, _, _, _, z⟩ => z.elim, fun A outer s H args us vs Q E _ _ _ _ ⟨_, _, _, _, _, z⟩ => z.elim⟩, hf, hk, hb⟩
theorem FnT.succ {n : Str} {f : Addr} {fd : FuncData} {ps : List Str} {ms : List Md} {k : Nat} {g : String} {T : Def} {tab : String → Option Def} (h : FnOk P w K mg base (L2.CX P w) (k + 1) f fd ps (spOf ⟨P, w, K, ca⟩ T.ms (T.run (sem tab k)))) (hf : mg n = some (.ref f)) (hk : PySem.W.keepIn K (.ref f) = true)
    (hb : Binds K fd ps []) (ht : tab g = some T) (hm : T.ms = ms := by rfl) : FnT ca P w K mg base (k + 1) n ms (sem tab (k + 1) g) := by
  refine ⟨f, fd, ps, ?_, hf, hk, hb⟩
  subst hm
  have e : sem tab (k + 1) g = T.run (sem tab k) := by funext ds; simp only [sem, ht]
  rw [e]
  exact h
end

/-! ### the law's end -/
theorem u65 {k : Nat} {A : PySem.Around} (hr : Room k A) : A.units + 65 < PySem.cLine := by have := hr.un; omega
theorem law_end {Z : Wd} {phi : List D → RC} {H : Hp} {a : Addr} {ns : List Int} (hS : SqL Z.K H a (ns.map V.int)) (sol : phi [.scr (ns.map .int)] = .ok false (.bl true) []) : spOf Z [.v] phi [.ref a] H (fun v _ => v = .bl true) fun _ _ _ => False := by
  refine ⟨H, [.scr (ns.map .int)], Same.refl _, .v (.scr hS ?_) .nil, fun i j a m d _ hi => ?_, ?_⟩
  · clear sol hS
    induction ns with
    | nil => exact .nil
    | cons n ns ih => exact .cons (.int n) ih
  · unfold mAt at hi
    cases i with
    | zero => cases hi
    | succ i => cases hi
  · rw [sol]
    intro v F' H' g o r
    unfold ResOk at r
    rw [if_neg Bool.false_ne_true] at r
    exact RdV.bl (H := H') (.inl r)
theorem law_CX {P : Program} (w : World) (H : Hp) (s : Shared) (e : Value) (s' : Shared) (h : L2.CX P w [] H s (fun _ _ _ => False) e s') : False := by
  obtain ⟨_, _, _, _, _, _, _, _, _, _, _, _, z⟩ := h
  exact z
theorem call_strA {X : Cx} : CallR X (.type "str") (fun xs H Q => (∃ a, xs = [V.str a] ∧ Q (.str a) H) ∨ ∃ i, xs = [V.int i] ∧ i.natAbs.log2 < 1920 ∧ Q (.str (toString i)) H) := CallR.or SkE.call_str_str call_str_int
end S3

/-! C4: more of the language: reversed, starred, dicts. -/
namespace S3
open PySem L2
/-! ### terms -/
def seqI : D → Option (List D)
  | .lst xs => some xs
  | .tup xs => some xs
  | _ => none
/-- *f, .. in a display -/
def aStar (f : EV) (g : AV) : AV := fun e => match f e with
  | .ok r e1 => (match (rd r e1).bind seqI with
    | some xs => (match g e1 with
      | .ok rs e2 => .ok (xs.map .fz ++ rs) e2
      | .ex x e2 => .ex x e2
      | .no => .no)
    | none => .no)
  | .ex x e1 => .ex x e1
  | .no => .no
/-- d.get(y, z) -/
def eGet2 (f g h : EV) : EV := eBind f fun r e1 => if ((rd r e1).map isDct).getD false then (eBind g fun q => eBind h fun p e3 => match rd r e3, rd q e3, stl p e3 with
  | some d, some y, some (z, e4) => (match dGet d y with
    | some (some v) => .ok (.fz v) e4
    | some none => .ok (.fz z) e4
    | none => .no)
  | _, _, _ => .no) e1 else .no
def mPutD (d y v : D) : Option D := match d, y with
  | .dk kvs, y => if kvs.length < BIG then (toKey y).map fun k => .dk (dPut kvs k v) else none
  | .dt kvs, .tup ys => if kvs.length < BIG then (toKeys ys).map fun k => .dt (dPut kvs k v) else none
  | _, _ => none
/-- d[g] = f, d at slot i -/
def sPut (i : Nat) (f g : EV) : SV := sE f fun r e => match stl r e with
  | some (v, e1) => if mine isDct (slot e1 i) then (sE g fun q e2 => match rd q e2 with
    | some y => if mine isDct (slot e2 i) then (match (slot e2 i).val with
      | some d => (match mPutD d y v with
        | some d' => .nx (e2.set i (reown (slot e2 i) d'))
        | none => .no)
      | none => .no) else .no
    | none => .no) e1 else .no
  | none => .no
def eNewK : EV := fun e => .ok (.nw (.dk [])) e
def eNewT : EV := fun e => .ok (.nw (.dt [])) e
/-- {k: v} -/
def mkD1 : List D → Option RV
  | [k, v] => (toKey k).map fun k => .nw (.dk [(k, v)])
  | _ => none
def eD1 (f g : EV) : EV := fun e => match aKeep f (aKeep g aNil) (lock e) with
  | .ok rs _ => (match (fzs rs).bind mkD1 with
    | some r => .ok r e
    | none => .no)
  | _ => .no

section
variable {Z : Wd} {F F' H H' : Hp} {N : En} {σ : St} {e e' : Env} {v x y : V} {W : WX} {E : Ends}
theorem rpA_rev : ∀ {xs : List V} {ds : List D}, RpA Z F xs ds → RpA Z F xs.reverse ds.reverse
  | _, _, .nil => .nil
  | _, _, .cons h r => by rw [List.reverse_cons, List.reverse_cons]; exact (rpA_rev r).append (.cons h .nil)
theorem s_rev : Sound1 Z (fun x H Q => ∃ a xs, x = V.ref a ∧ SqL Z.K H a xs ∧ ∀ p, H p = none → Q (.ref p) (upd H p (.lst xs.reverse))) opRev := by
  intro F H x dx rr Q l hx ho q
  cases dx <;> simp only [opRev] at ho <;> cases ho
  obtain ⟨a, xs, rfl, ha, ra⟩ := hx.lst l
  refine ⟨a, xs, rfl, SqL.of ha, fin_lst l q ?_⟩
  exact rpA_rev ra
theorem helds_map : ∀ {xs : List V} {ds : List D}, RpA Z F xs ds → Helds Z F σ xs (ds.map .fz)
  | _, _, .nil => .nil
  | _, _, .cons h r => .cons h (helds_map r)
theorem helds_app : ∀ {xs ys : List V} {rs qs : List RV}, Helds Z F σ xs rs → Helds Z F σ ys qs → Helds Z F σ (xs ++ ys) (rs ++ qs)
  | _, _, _, _, .nil, h => h
  | _, _, _, _, .cons a r, h => .cons a (helds_app r h)
theorem rpA_mono (f : Same F F') {xs : List V} {ds : List D} (h : RpA Z F xs ds) : RpA Z F' xs ds := h.mono f
theorem tAv_star {K : PySem.W.Frag} (hK : Z.K = K) {f : EV} {g : AV} {Q : List V → Hp → Prop} (h : tAv Z W (aStar f g) σ H Q) : StX.tStar K (tEv Z W f) (tAv Z W g) σ H Q := by
  obtain ⟨N, F, e, S, P⟩ := h
  unfold aStar at P
  refine ⟨N, F, e, S, ?_⟩
  cases q : f e with
  | no => rw [q] at P; exact P
  | ex z e1 => rw [q] at P; exact P
  | ok r e1 =>
    rw [q] at P
    dsimp only at P
    intro x F1 H1 f1 S1 R1
    obtain ⟨F2, f2, S2, h2⟩ := RvOk.hold S1 R1
    cases d1 : S3.rd r e1 with
    | none => rw [d1] at P; exact P.elim
    | some dx =>
      rw [d1] at P
      dsimp only [Option.bind] at P
      cases d2 : seqI dx with
      | none => rw [d2] at P; exact P.elim
      | some ds =>
        rw [d2] at P
        dsimp only at P
        have hx := h2.rd S2 d1
        obtain ⟨a, xs, ex, hq, ra⟩ : ∃ a xs, x = V.ref a ∧ (SqT K H1 a xs ∨ SqL K H1 a xs) ∧ RpA Z F2 xs ds := by
          cases dx <;> simp only [seqI] at d2 <;> cases d2
          · obtain ⟨a, xs, rfl, ha, ra⟩ := hx.lst S2.le; exact ⟨a, xs, rfl, .inr (SqL.of ha), ra⟩
          · obtain ⟨a, xs, rfl, ha, ra⟩ := hx.tup S2.le; exact ⟨a, xs, rfl, .inl (SqT.of ha), ra⟩
        refine ⟨a, xs, ex, hq, N, F2, e1, S2, ?_⟩
        cases q3 : g e1 with
        | no => rw [q3] at P; exact P
        | ex z e2 => rw [q3] at P; exact fun cls d F3 H3 f3 S3 x => P cls d F3 H3 ((f1.trans f2).trans f3) S3 x
        | ok rs e2 =>
          rw [q3] at P
          exact fun ys F3 H3 f3 S3 h3 => P (xs ++ ys) F3 H3 ((f1.trans f2).trans f3) S3 (helds_app (helds_map (ra.mono f3)) h3)
theorem isD_rd {d : D} (l : Same F H) (h : RdV Z F H x d) (k : isDct d = true) : ∃ a, x = .ref a ∧ IsD H a := by
  cases d <;> simp only [isDct] at k <;> try (cases k; done)
  · obtain ⟨a, xs, rfl, ha, _⟩ := h.dk l; exact ⟨a, rfl, .inl ⟨xs, .inl ha⟩⟩
  · obtain ⟨a, xs, rfl, ha, _⟩ := h.dt l; exact ⟨a, rfl, .inr ⟨xs, .inl ha⟩⟩
theorem get2_rd {f g h : EV} {Q : VK} (p : tEv Z W (eGet2 f g h) σ H Q) : tDGet2 (tEv Z W f) (tEv Z W g) (tEv Z W h) σ H Q := by
  obtain ⟨N, F, e, S, P⟩ := p
  refine bindL S P fun x F1 H1 e1 ra f1 S1 R1 P1 => ?_
  obtain ⟨F2, f2, S2, h2⟩ := RvOk.hold S1 R1
  have P2 := PostE.shift P1 f2
  cases d1 : S3.rd ra e1 with
  | none => rw [d1] at P2; exact P2.elim
  | some d0 =>
    rw [d1] at P2
    dsimp only [Option.map, Option.getD] at P2
    split at P2
    · rename_i hk
      obtain ⟨a, ex, hd⟩ := isD_rd S2.le (h2.rd S2 d1) hk
      refine ⟨a, ex, hd, ?_⟩
      subst ex
      refine bindL S2 P2 fun y F3 H3 e3 rb f3 T3 R3 P3 => ?_
      obtain ⟨F4, f4, S4, h4⟩ := RvOk.hold T3 R3
      refine bindL S4 (PostE.shift P3 f4) fun z F5 H5 e5 rc f5 S5 R5 P5 => ?_
      have g2 := ((h2.mono f3).mono f4).mono f5
      have g4 := h4.mono f5
      cases c1 : S3.rd ra e5 with
      | none => rw [c1] at P5; exact P5.elim
      | some dx =>
        cases c2 : S3.rd rb e5 with
        | none => rw [c1, c2] at P5; exact P5.elim
        | some dy =>
          cases c3 : S3.stl rc e5 with
          | none => rw [c1, c2, c3] at P5; exact P5.elim
          | some pr =>
            obtain ⟨dz, e6⟩ := pr
            rw [c1, c2, c3] at P5
            dsimp only at P5
            cases c4 : dGet dx dy with
            | none => rw [c4] at P5; exact P5.elim
            | some o =>
              rw [c4] at P5
              obtain ⟨a', r, ea, dg, hs, hv⟩ := dGet_rd S5.le (g2.rd S5 c1) (g4.rd S5 c2) c4
              cases ea
              obtain ⟨F6, f6, S6, r6⟩ := RvOk.stl S5 R5 c3
              refine ⟨r, dg, ?_⟩
              cases o with
              | none =>
                cases r with
                | some v => cases hs
                | none => exact P5 z F6 H5 f6 S6 r6
              | some d =>
                obtain ⟨v, rfl, rv⟩ := hv d rfl
                exact P5 v F6 H5 f6 S6 (rv.mono f6)
    · exact P2.elim
theorem newK_rd {Q : VK} (p : tEv Z W eNewK σ H Q) : tDNewK σ H Q := by
  obtain ⟨N, F, e, S, P⟩ := p
  intro a ha
  exact op_end S P (.ref a) F _ (Gr.lay S.le ha) ⟨a, rfl, ha, none_le S.le ha, [], upd_same, .nil⟩
theorem newT_rd {Q : VK} (p : tEv Z W eNewT σ H Q) : tDNewT σ H Q := by
  obtain ⟨N, F, e, S, P⟩ := p
  intro a ha
  exact op_end S P (.ref a) F _ (Gr.lay S.le ha) ⟨a, rfl, ha, none_le S.le ha, [], upd_same, .nil⟩
end
section
variable {Z : Wd} {F F' H H' : Hp} {N : En} {σ : St} {e e' : Env} {v x y : V} {W : WX} {E : Ends}
theorem RpP.put {κ : Type} [DecidableEq κ] (k : κ) {v : V} {d : D} {vs : List (κ × V)} {ds : List (κ × D)} (h : RpP Z F vs ds) (r : Rp Z F v d) : RpP Z F (putK vs k v) (dPut ds k d) := by
  have mp : ∀ {vs : List (κ × V)} {ds : List (κ × D)}, RpP Z F vs ds → RpP Z F (vs.map fun kv => if kv.1 = k then (kv.1, v) else kv) (ds.map fun kv => if kv.1 = k then (kv.1, d) else kv) := by
    intro vs ds h
    induction ds generalizing vs with
    | nil => cases h; exact .nil
    | cons d0 ds ih =>
      cases h with
      | @cons _ j w vs d1 ds h1 h2 =>
        rw [List.map_cons, List.map_cons]
        dsimp only
        by_cases c : j = k
        · rw [if_pos c, if_pos c]; exact .cons r (ih h2)
        · rw [if_neg c, if_neg c]; exact .cons h1 (ih h2)
  have ap : ∀ {vs : List (κ × V)} {ds : List (κ × D)}, RpP Z F vs ds → RpP Z F (vs ++ [(k, v)]) (ds ++ [(k, d)]) := by
    intro vs ds h
    induction ds generalizing vs with
    | nil => cases h; exact .cons r .nil
    | cons d0 ds ih =>
      cases h with
      | cons h1 h2 => exact .cons h1 (ih h2)
  unfold putK dPut
  rw [h.any k]
  by_cases c : (ds.any fun kv => decide (kv.1 = k)) = true
  · rw [if_pos c, if_pos c]; exact mp h
  · rw [if_neg c, if_neg c]; exact ap h
theorem mput_rd {a : Addr} {d dy dv d' : D} (t : Top Z F H a d) (hy : RdV Z F H y dy) (l : Same F H) (rv : Rp Z F v dv) (fa : F a = none) (h : mPutD d dy dv = some d') : ∃ H4 o, H4 = upd H a o ∧ DPut H a y v H4 ∧ Top Z F (upd H a o) a d' := by
  cases d <;> simp only [mPutD] at h <;> try (cases h; done)
  · rename_i kvs
    split at h
    · rename_i hz
      rw [Option.map_eq_some_iff] at h
      obtain ⟨k, hk, rfl⟩ := h
      obtain ⟨xs, ha, r⟩ := t
      rw [toKey_rd hy hk]
      exact ⟨_, _, rfl, DPut.k ha (by rw [sizeLine_eq, r.length]; exact hz), _, upd_same, r.put k rv⟩
    · cases h
  · rename_i kvs
    cases dy <;> simp only at h <;> try (cases h; done)
    rename_i ys
    split at h
    · rename_i hz
      rw [Option.map_eq_some_iff] at h
      obtain ⟨k, hk, rfl⟩ := h
      obtain ⟨xs, ha, r⟩ := t
      obtain ⟨b, zs, rfl, hb, rb⟩ := hy.tup l
      rw [toKeys_rd rb hk] at hb
      exact ⟨_, _, rfl, DPut.t ha hb (by rw [sizeLine_eq, r.length]; exact hz), _, upd_same, r.put k rv⟩
    · cases h
theorem put_rd {i : Nat} {f g : EV} (p : tSv Z W (sPut i f g) E σ H) : sDPut (tVar i) (tEv Z W g) (tEv Z W f) E σ H := by
  obtain ⟨N, F, e, S, P⟩ := p
  refine bindS S P fun v F1 H1 e1 r f1 S1 R1 P1 => ?_
  cases c1 : S3.stl r e1 with
  | none => rw [c1] at P1; exact P1.elim
  | some pr =>
    obtain ⟨dv, e2⟩ := pr
    rw [c1] at P1
    dsimp only at P1
    obtain ⟨F2, f2, S2, r2⟩ := RvOk.stl S1 R1 c1
    split at P1
    · rename_i hm
      obtain ⟨ho, d0, hd0, hk0⟩ := mine_own hm
      obtain ⟨a, h1, f0, t0, g0⟩ := own_at S2 rfl ho hd0
      refine ⟨.ref a, h1, ?_⟩
      refine bindS S2 (PostS.shift P1 f2) fun y F3 H3 e3 q f3 T3 R3 P3 => ?_
      obtain ⟨F4, f4, S4, h4⟩ := RvOk.hold T3 R3
      have P4 := PostS.shift P3 f4
      cases c2 : S3.rd q e3 with
      | none => rw [c2] at P4; exact P4.elim
      | some dy =>
        rw [c2] at P4
        dsimp only at P4
        split at P4
        · rename_i hm4
          obtain ⟨ho4, d4, hd4, hk4⟩ := mine_own hm4
          obtain ⟨a', h1', f0', t4, g4⟩ := own_at S4 rfl ho4 hd4
          rw [h1] at h1'
          cases h1'
          rw [hd4] at P4
          dsimp only at P4
          cases c3 : mPutD d4 dy dv with
          | none => rw [c3] at P4; exact P4.elim
          | some d' =>
            rw [c3] at P4
            obtain ⟨H4, o, rfl, dp, t'⟩ := mput_rd t4 (h4.rd S4 c2) S4.le (r2.mono (f3.trans f4)) f0' c3
            exact ⟨a, _, rfl, dp, P4 F4 _ σ (Same.refl _) (S4.write g4 ho4 h1 t')⟩
        · exact P4.elim
    · exact P1.elim
/-- a place that is nobody's, while other things are reckoned -/
theorem SOk.newLock (S : SOk Z N F H σ e) {p : Addr} {o : HO} (hp : H p = none) : SOk Z ⟨F, upd H p o, [], fun _ => none⟩ F (upd H p o) σ (lock e) := (S.gr (Gr.lay S.le hp)).lockd
theorem SOk.backNew (S : SOk Z N F H σ e) {p : Addr} {o : HO} (hp : H p = none) (T : SOk Z ⟨F, upd H p o, [], fun _ => none⟩ F' H' σ e') :
    H' p = some o ∧ F' p = none ∧ ∃ Hm : Hp, SOk Z N F' Hm σ e ∧ Hm p = none ∧ ∀ x, upd H' p x = upd Hm p x := by
  have k1 : H' p = some o := T.h0 p _ upd_same (by simp)
  have k2 : F' p = none := T.nf p _ upd_same (none_le S.le hp)
  refine ⟨k1, k2, fun b => if b = p then none else H' b, S.grow T.f0 (fun b x hb => ?_) (fun b x hb => ?_) (fun b u hb n => ?_), if_pos rfl, fun x => ?_⟩
  · have nb : b ≠ p := ne_of_none hb hp
    rw [if_neg nb]
    exact T.h0 b x (by show upd H p o b = some x; rw [upd_ne nb]; exact hb) (by simp)
  · have nb : b ≠ p := fun z => by subst z; rw [k2] at hb; cases hb
    rw [if_neg nb]
    exact T.le _ _ hb
  · have nb : b ≠ p := ne_of_none hb hp
    exact T.nf b u (by show upd H p o b = some u; rw [upd_ne nb]; exact hb) n
  · funext b
    show (if b = p then some x else H' b) = (if b = p then some x else (if b = p then none else H' b))
    by_cases z : b = p
    · rw [if_pos z, if_pos z]
    · rw [if_neg z, if_neg z, if_neg z]
theorem PostE.imp {Q Q' : VK} {r : RE} (h : PostE Z N F σ W Q r) (i : ∀ v H, Q v H → Q' v H) : PostE Z N F σ W Q' r := by
  cases r with
  | no => exact h
  | ok r e => exact fun v F' H' f S R => i _ _ (h v F' H' f S R)
  | ex x e => exact h
theorem tEv_imp {f : EV} {Q Q' : VK} (h : tEv Z W f σ H Q) (i : ∀ v H, Q v H → Q' v H) : tEv Z W f σ H Q' := by
  obtain ⟨N, F, e, S, P⟩ := h
  exact ⟨N, F, e, S, P.imp i⟩
theorem d1_rd {f g : EV} {Q : VK} (h : tEv Z W (eD1 f g) σ H Q) : tDisp [(tEv Z W f, tEv Z W g)] σ H Q := by
  obtain ⟨N, F, e, S, P⟩ := h
  unfold eD1 at P
  intro p hp
  have S0 := S.newLock (o := .dK []) hp
  have key : tAv Z W (aKeep f (aKeep g aNil)) σ (upd H p (.dK [])) fun vs H2 => ∃ x y, vs = [x, y] ∧ H2 p = some (.dK []) ∧ ∃ kvs : List (Key × V), [(x, y)] = kvs.map (fun kv => (kV kv.1, kv.2)) ∧ kvs.length ≤ 15 ∧ Q (.ref p) (upd H2 p (.dK (mergeK [] kvs))) := by
    refine ⟨_, F, lock e, S0, ?_⟩
    cases q : aKeep f (aKeep g aNil) (lock e) with
    | no => rw [q] at P; exact P
    | ex z e1 => rw [q] at P; exact P.elim
    | ok rs e1 =>
      rw [q] at P
      dsimp only at P
      intro vs F1 H1 f1 S1 hl
      cases q1 : fzs rs with
      | none => rw [q1] at P; exact P.elim
      | some ds =>
        rw [q1] at P
        dsimp only [Option.bind] at P
        have ra := fzs_rd hl q1
        cases q2 : mkD1 ds with
        | none => rw [q2] at P; exact P.elim
        | some rr =>
          rw [q2] at P
          match ds, ra, q2 with
          | [dk, dv], .cons rk (.cons rv .nil), q2 =>
            simp only [mkD1, Option.map_eq_some_iff] at q2
            obtain ⟨k, hk, rfl⟩ := q2
            obtain ⟨k1, k2, Hm, S2, k3, k4⟩ := S.backNew hp S1
            refine ⟨_, _, rfl, k1, [(k, _)], by rw [toKey_rd (H := H1) (.inl rk) hk]; rfl, by show 1 ≤ 15; decide, ?_⟩
            rw [k4]
            exact P (.ref p) F1 _ f1 (S2.gr (Gr.lay S2.le k3)) (S2.rvok (Gr.lay S2.le k3) ⟨p, rfl, k3, k2, _, upd_same, .cons rv .nil⟩)
  refine tEv_imp (tAv_keep key) fun x H1 h1 => ?_
  refine tEv_imp (tAv_keep h1) fun y H2 h2 => ?_
  obtain ⟨x', y', e1, r⟩ := tAv_nil h2
  cases e1
  exact r
end
section
variable {ca : Str → Option Addr} {W : WX} {X : Cx} {a b c : Expr} {fa fb fc : EV} {es : List Expr} {ga : AV} {pos p apos : Pos}
theorem ev_rev {k : Nat} {p1 p2 p3 : Pos} (h : Ev ca W X a fa) : Ev ca W X (.Subscript a (.Slice none none (some (.UnaryOp .USub (.Constant (.int 1) k p1) p2)) p3) pos) (eOp1 opRev fa) := PE_imp (pe_revL h) fun _ _ _ => one s_rev
theorem av_star (h : Ev ca W X a fa) (k : Av ca W X es ga) (hs : starEach (.Starred a p :: es) X.env = (true, eval a X.env) :: starEach es X.env := by rfl) : Av ca W X (.Starred a p :: es) (aStar fa ga) := PA_imp (StX.pa_star h k hs) fun _ _ _ => tAv_star rfl
theorem ev_get2 (hu : X.A.units + 1 < cLine) (ha : Ev ca W X a fa) (hb : Ev ca W X b fb) (hc : Ev ca W X c fc) (m1 : attributeBase a "get" X.env (eval a X.env) = eval a X.env := by rfl) (m2 : (apos.endLine == pos.line) = true := by rfl)
    (m3 : ((backTo pos (starEach [b, c] X.env)).all (fun x => !x.1) && (backToKw pos (keywordEach [] X.env)).all (fun x => x.1.isSome) && decide (([b, c] : List Expr).length + ([] : List Keyword).length + (if ([] : List Keyword).isEmpty then 0 else 1) < 30)) = true := by rfl)
    (m4 : backTo pos (starEach [b, c] X.env) = [(false, eval b X.env), (false, eval c X.env)] := by rfl) : Ev ca W X (.Call (.Attribute a "get" apos) [b, c] [] pos) (eGet2 fa fb fc) :=
  PE_imp (pe_dget2 hu ha hb hc ⟨m1, m3, m2, m4⟩) fun _ _ _ => get2_rd
theorem sv_put {i : Nat} {xx : Str} {px p2 : Pos} (hu : X.A.units + 1 < cLine) (hx : PE X (.Name xx px) (tVar i)) (ha : Ev ca W X a fa) (hb : Ev ca W X b fb) (hs : swapsWith a (some (.Subscript (.Name xx px) b p2)) pos.line X.env = pure false := by rfl) :
    Sv ca W X (.Assign [.Subscript (.Name xx px) b p2] a pos) (sPut i fa fb) := PS_imp (ps_dput hu hx hb ha hs) fun _ _ _ => put_rd
theorem ev_d1 (ha : Ev ca W X a fa) (hb : Ev ca W X b fb) : Ev ca W X (.Dict [some a] [b] pos) (eD1 fa fb) := PE_imp (pe_disp (pps_cons ha hb pps_nil) rfl rfl (by simp) (by show 1 ≤ 15; decide)) fun _ _ _ => d1_rd
theorem ev_newK : Ev ca W X (.Dict [] [] pos) eNewK := PE_imp pe_dnewK fun _ _ _ => newK_rd
theorem ev_newT : Ev ca W X (.Dict [] [] pos) eNewT := PE_imp pe_dnewT fun _ _ _ => newT_rd
end
end S3

/-! C5: sets: {x}, set(xs), add, discard; sorted. -/
namespace S3
open PySem L2
/-! ### terms -/
def strsOf : List D → Option (List Str)
  | [] => some []
  | .str x :: r => (strsOf r).map (x :: ·)
  | _ :: _ => none
def unKeys : List Key → Option (List Str)
  | [] => some []
  | .inr x :: r => (unKeys r).map (x :: ·)
  | _ :: _ => none
def opSorted : D → Option RV
  | .lst xs => (match strsOf xs with
    | some ss => if ss.length ≤ BIG then some (.nw (.lst ((sortS ss).map .str))) else none
    | none => none)
  | .st ks => (unKeys ks).map fun ss => .nw (.lst ((sortS ss).map .str))
  | _ => none
def setOf (xs : List D) : Option RV := match toKeys xs with
  | some ks => if ks.length < 4000 then some (.nw (.st (dedKey ks))) else none
  | none => none
def opSet : D → Option RV
  | .lst xs => setOf xs
  | .tup xs => setOf xs
  | _ => none
def mAdd : D → List D → Option (D × RV)
  | .st ks, [d] => (match toKey d with
    | some k => if ks.length < 4000 then some (.st (addKey ks k), .fz .non) else none
    | none => none)
  | _, _ => none
def mDiscard : D → List D → Option (D × RV)
  | .st ks, [d] => (toKey d).map fun k => (.st (delKey ks k), .fz .non)
  | _, _ => none
def mkS1 : List D → Option RV
  | [d] => (toKey d).map fun k => .nw (.st [k])
  | _ => none
/-- {f} -/
def eS1 (f : EV) : EV := fun e => match aKeep f aNil (lock e) with
  | .ok rs _ => (match (fzs rs).bind mkS1 with
    | some r => .ok r e
    | none => .no)
  | _ => .no
section
variable {Z : Wd} {F F' H H' : Hp} {N : En} {σ : St} {e e' : Env} {v x y : V} {W : WX} {E : Ends}
theorem strsOf_rd : ∀ {ds : List D} {vs : List V} {ss : List Str}, RpA Z F vs ds → strsOf ds = some ss → vs = ss.map V.str ∧ ∀ x ∈ ss, sOk x = true
  | [], _, _, .nil, e => by simp only [strsOf] at e; cases e; exact ⟨rfl, fun x h => by cases h⟩
  | d :: ds, _, _, .cons h r, e => by
    cases d <;> simp only [strsOf] at e <;> try (cases e; done)
    rw [Option.map_eq_some_iff] at e
    obtain ⟨ss, h1, rfl⟩ := e
    obtain ⟨h2, h3⟩ := strsOf_rd r h1
    have hs := RdV.str (H := fun _ => none) (.inl h)
    refine ⟨by rw [hs.1, h2]; rfl, fun x hx => ?_⟩
    rcases List.mem_cons.mp hx with e | e
    · rw [e]; exact hs.2.2
    · exact h3 x e
theorem unKeys_is : ∀ {ks : List Key} {ss : List Str}, unKeys ks = some ss → ks = ss.map Sum.inr
  | [], _, e => by simp only [unKeys] at e; cases e; rfl
  | k :: ks, _, e => by
    cases k <;> simp only [unKeys] at e <;> try (cases e; done)
    rw [Option.map_eq_some_iff] at e
    obtain ⟨ss, h1, rfl⟩ := e
    rw [unKeys_is h1]
    rfl
theorem rpA_strs : ∀ {ss : List Str}, (∀ x ∈ ss, sOk x = true) → RpA Z F (ss.map V.str) (ss.map D.str)
  | [], _ => .nil
  | x :: ss, h => .cons (.str x (h x List.mem_cons_self)) (rpA_strs fun y hy => h y (List.mem_cons_of_mem _ hy))
theorem s_sorted : Sound1 Z (fun x => rSortG Z.K Z.P Z.w [x]) opSorted := by
  intro F H x dx rr Q l hx ho q
  cases dx <;> simp only [opSorted] at ho <;> try (cases ho; done)
  · rename_i xs
    cases h1 : strsOf xs with
    | none => rw [h1] at ho; cases ho
    | some ss =>
      rw [h1] at ho
      dsimp only at ho
      split at ho
      · rename_i hz
        cases ho
        obtain ⟨a, vs, rfl, ha, ra⟩ := hx.lst l
        obtain ⟨h2, h3⟩ := strsOf_rd ra h1
        subst h2
        exact ⟨a, ss, rfl, .inl ⟨SqL.of ha, by rw [sizeLine_eq]; exact hz⟩, fin_lst l q (rpA_strs fun y hy => h3 y ((sortS_perm ss).mem_iff.mp hy))⟩
      · cases ho
  · rw [Option.map_eq_some_iff] at ho
    obtain ⟨ss, h1, rfl⟩ := ho
    obtain ⟨a, rfl, ha, hk⟩ := hx.st l
    have e := unKeys_is h1
    subst e
    exact ⟨a, ss, rfl, .inr ha, fin_lst l q (rpA_strs fun y hy => hk y (List.mem_map.mpr ⟨y, (sortS_perm ss).mem_iff.mp hy, rfl⟩))⟩
theorem fin_st {ks : List Key} {Q : VK} (l : Same F H) (q : ∀ v F' H', Gr F H F' H' → NwOk Z H F' H' v (.nw (.st ks)) → Q v H') (r : kOk ks) : ∀ p, H p = none → Q (.ref p) (upd H p (SetGO Z.P Z.w p ks)) := fun p hp =>
  q (.ref p) F _ (Gr.lay l hp) ⟨p, rfl, hp, none_le l hp, upd_same, r⟩
theorem toKeys_ok : ∀ {ds : List D} {vs : List V} {ks : List Key}, RpA Z F vs ds → toKeys ds = some ks → kOk ks
  | [], _, _, .nil, e => by simp only [toKeys] at e; cases e; intro x h; cases h
  | d :: ds, _, _, .cons h r, e => by
    simp only [toKeys] at e
    cases q1 : toKey d with
    | none => rw [q1] at e; cases e
    | some k =>
      cases q2 : toKeys ds with
      | none => rw [q1, q2] at e; cases e
      | some ks =>
        rw [q1, q2] at e
        cases e
        intro x hx
        rcases List.mem_cons.mp hx with z | z
        · cases d <;> simp only [toKey] at q1 <;> cases q1
          · cases z
          · cases z; exact (RdV.str (H := fun _ => none) (.inl h)).2.2
        · exact toKeys_ok r q2 x z
theorem kOk_add {ks : List Key} {k : Key} (h : kOk ks) (h2 : kOk [k]) : kOk (addKey ks k) := by
  intro x hx
  unfold addKey at hx
  split at hx
  · exact h x hx
  · rcases List.mem_append.mp hx with z | z
    · exact h x z
    · exact h2 x z
theorem kOk_ded {ks : List Key} (h : kOk ks) : kOk (dedKey ks) := by
  have : ∀ (ks acc : List Key), kOk acc → kOk ks → kOk (ks.foldl addKey acc) := by
    intro ks
    induction ks with
    | nil => intro acc h _; exact h
    | cons k ks ih =>
      intro acc h1 h2
      exact ih _ (kOk_add h1 fun x hx => h2 x (by rw [List.mem_singleton] at hx; rw [hx]; exact List.mem_cons_self)) fun x hx => h2 x (List.mem_cons_of_mem _ hx)
  exact this ks [] (fun x hx => by cases hx) h
theorem s_set : Sound1 Z (fun x => rSetG Z.K Z.P Z.w [x]) opSet := by
  intro F H x dx rr Q l hx ho q
  have key : ∀ (xs : List D) (a : Addr) (vs : List V), RpA Z F vs xs → setOf xs = some rr → x = .ref a → (∀ ks : List Key, vs = ks.map kV → SqL Z.K H a (ks.map kV) ∨ SqT Z.K H a (ks.map kV)) → rSetG Z.K Z.P Z.w [x] H Q := fun xs a vs ra ho ex hs => by
    unfold setOf at ho
    cases h1 : toKeys xs with
    | none => rw [h1] at ho; cases ho
    | some ks =>
      rw [h1] at ho
      dsimp only at ho
      split at ho
      · rename_i hz
        cases ho
        have e := toKeys_rd ra h1
        exact ⟨a, ks, by rw [ex], hs ks e, by unfold PySem.scanBound; omega, fin_st l q (kOk_ded (toKeys_ok ra h1))⟩
      · cases ho
  cases dx <;> simp only [opSet] at ho <;> try (cases ho; done)
  · obtain ⟨a, vs, rfl, ha, ra⟩ := hx.lst l
    exact key _ a vs ra ho rfl fun ks e => .inl (by rw [← e]; exact SqL.of ha)
  · obtain ⟨a, vs, rfl, ha, ra⟩ := hx.tup l
    exact key _ a vs ra ho rfl fun ks e => .inr (by rw [← e]; exact SqT.of ha)
theorem m_add : SoundM Z (rSAddG Z.P Z.w) isSet mAdd := by
  intro F H a vs d ds d' rr Q l fa t r hk ho q
  cases d <;> simp only [isSet] at hk <;> try (cases hk; done)
  rename_i ks
  obtain ⟨ha, hok⟩ := t
  cases r with
  | nil => simp only [mAdd] at ho; cases ho
  | @cons v0 vs0 d0 ds0 h1 h2 =>
    cases h2 with
    | cons _ _ => simp only [mAdd] at ho; cases ho
    | nil =>
      simp only [mAdd] at ho
      cases h3 : toKey d0 with
      | none => rw [h3] at ho; cases ho
      | some k =>
        rw [h3] at ho
        dsimp only at ho
        split at ho
        · rename_i hz
          cases ho
          have k1 : kOk [k] := toKeys_ok (ds := [d0]) (.cons h1 .nil) (by simp only [toKeys, h3])
          refine ⟨a, k, ks, rfl, by rw [toKey_rd (H := H) (.inl h1) h3], ha, by unfold PySem.scanBound; omega, ?_⟩
          exact q .non F _ (Same.refl _) l (fun _ _ _ h => h) ⟨upd_same, kOk_add hok k1⟩ ⟨_, rfl, .non⟩
        · cases ho
theorem m_discard : SoundM Z (rSDelG Z.P Z.w) isSet mDiscard := by
  intro F H a vs d ds d' rr Q l fa t r hk ho q
  cases d <;> simp only [isSet] at hk <;> try (cases hk; done)
  rename_i ks
  obtain ⟨ha, hok⟩ := t
  cases r with
  | nil => simp only [mDiscard] at ho; cases ho
  | @cons v0 vs0 d0 ds0 h1 h2 =>
    cases h2 with
    | cons _ _ => simp only [mDiscard] at ho; cases ho
    | nil =>
      simp only [mDiscard, Option.map_eq_some_iff] at ho
      obtain ⟨k, h3, e⟩ := ho
      cases e
      refine ⟨a, k, ks, rfl, by rw [toKey_rd (H := H) (.inl h1) h3], ha, ?_⟩
      exact q .non F _ (Same.refl _) l (fun _ _ _ h => h) ⟨upd_same, fun x hx => hok x (List.mem_filter.mp hx).1⟩ ⟨_, rfl, .non⟩
theorem ty_set : ∀ F H p d, Top Z F H p d → isSet d = true → isSetV Z.P Z.w (.ref p) H := by
  intro F H p d t k
  cases d <;> simp only [isSet] at k <;> try (cases k; done)
  exact ⟨p, _, rfl, t.1⟩
theorem s1_rd {f : EV} {Q : VK} (h : tEv Z W (eS1 f) σ H Q) : tSet1 Z.P Z.w (tEv Z W f) σ H Q := by
  obtain ⟨N, F, e, S, P⟩ := h
  unfold eS1 at P
  intro p hp
  have S0 := S.newLock (o := SetGO Z.P Z.w p []) hp
  have key : tAv Z W (aKeep f aNil) σ (upd H p (SetGO Z.P Z.w p [])) fun vs H2 => ∃ y k, vs = [y] ∧ y = kV k ∧ H2 p = some (SetGO Z.P Z.w p []) ∧ Q (.ref p) (upd H2 p (SetGO Z.P Z.w p [k])) := by
    refine ⟨_, F, lock e, S0, ?_⟩
    cases q : aKeep f aNil (lock e) with
    | no => rw [q] at P; exact P
    | ex z e1 => rw [q] at P; exact P.elim
    | ok rs e1 =>
      rw [q] at P
      dsimp only at P
      intro vs F1 H1 f1 S1 hl
      cases q1 : fzs rs with
      | none => rw [q1] at P; exact P.elim
      | some ds =>
        rw [q1] at P
        dsimp only [Option.bind] at P
        have ra := fzs_rd hl q1
        cases q2 : mkS1 ds with
        | none => rw [q2] at P; exact P.elim
        | some rr =>
          rw [q2] at P
          match ds, ra, q2 with
          | [dk], .cons rk .nil, q2 =>
            simp only [mkS1, Option.map_eq_some_iff] at q2
            obtain ⟨k, hk, rfl⟩ := q2
            obtain ⟨k1, k2, Hm, S2, k3, k4⟩ := S.backNew hp S1
            refine ⟨_, k, rfl, toKey_rd (H := H1) (.inl rk) hk, k1, ?_⟩
            rw [k4]
            have kk : kOk [k] := toKeys_ok (ds := [dk]) (.cons rk .nil) (by simp only [toKeys, hk])
            exact P (.ref p) F1 _ f1 (S2.gr (Gr.lay S2.le k3)) (S2.rvok (Gr.lay S2.le k3) ⟨p, rfl, k3, k2, upd_same, kk⟩)
  refine tEv_imp (tAv_keep key) fun x H1 h1 => ?_
  obtain ⟨y, k, e1, r⟩ := tAv_nil h1
  cases e1
  exact ⟨k, r⟩
end
section
variable {ca : Str → Option Addr} {W : WX} {X : Cx} {a b c : Expr} {fa fb fc : EV} {es : List Expr} {ga : AV} {pos p apos : Pos}
theorem ev_s1 (ha : Ev ca W X a fa) (hcd : PySem.W.kdsCode X.K X.env.code = true) (hp : PySem.W.kdsPlain a = true := by rfl) : Ev ca W X (.Set [a] 0 pos) (eS1 fa) := PE_imp (pe_set1 ha hcd hp) fun _ _ _ => s1_rd
theorem ev_add {i : Nat} {x : Str} {px apos : Pos} (hx : PE X (.Name x px) (tVar i)) (ha : Av ca W X [a] ga)
    (hbase : attributeBase (.Name x px) "add" X.env (eval (.Name x px) X.env) = eval (.Name x px) X.env := by rfl)
    (hline : (apos.endLine == pos.line) = true := by rfl) (hs : starEach [a] X.env = (false, eval a X.env) :: starEach [] X.env := by rfl) : Ev ca W X (.Call (.Attribute (.Name x px) "add" apos) [a] [] pos) (eMut i isSet mAdd ga) :=
  PE_imp (pe_setM PySem.F.plainAttrs_set PySem.F.slot_set_add PySem.F.type_set_add mt_saddG hx ha hbase (by rw [hs]; rfl) hline hs (by rfl)) fun _ _ _ => tEv_mut m_add ty_set
theorem ev_discard {i : Nat} {x : Str} {px apos : Pos} (hx : PE X (.Name x px) (tVar i)) (ha : Av ca W X [a] ga)
    (hbase : attributeBase (.Name x px) "discard" X.env (eval (.Name x px) X.env) = eval (.Name x px) X.env := by rfl)
    (hline : (apos.endLine == pos.line) = true := by rfl) (hs : starEach [a] X.env = (false, eval a X.env) :: starEach [] X.env := by rfl) : Ev ca W X (.Call (.Attribute (.Name x px) "discard" apos) [a] [] pos) (eMut i isSet mDiscard ga) :=
  PE_imp (pe_setM PySem.F.plainAttrs_set PySem.F.slot_set_discard PySem.F.type_set_discard mt_sdelG hx ha hbase (by rw [hs]; rfl) hline hs (by rfl)) fun _ _ _ => tEv_mut m_discard ty_set
end
end S3

/-! C6: enumerate, name += n, xs[i] = v, while (x := f) is None. -/
namespace S3
open PySem L2
/-! ### terms -/
def enumD (xs : List D) : List D := xs.zipIdx.map fun p => .tup [.int (p.2 : Nat), p.1]
def wEnum (f : EV) : WV := wE f fun r e => match walk r e with
  | some (.lst xs, e1) => .ok (enumD xs) e1
  | _ => .no
def sAug (i : Nat) (g : Int → Int → Int) (f : EV) : SV := fun e => match slot e i with
  | .fz (.int a) => (sE f fun r e1 => match rd r e1 with
    | some (.int b) => .nx (e1.set i (.fz (.int (g a b))))
    | _ => .no) e
  | _ => .no
def mPutL : D → D → D → Option D
  | .lst xs, .int k, v => (L2.ixN xs.length k).map fun j => .lst (xs.set j v)
  | _, _, _ => none
/-- xs[g] = f, xs at slot i -/
def sPutL (i : Nat) (f g : EV) : SV := sE f fun r e => match stl r e with
  | some (v, e1) => if mine isLst (slot e1 i) then (sE g fun q e2 => match rd q e2 with
    | some y => if mine isLst (slot e2 i) then (match (slot e2 i).val with
      | some d => (match mPutL d y v with
        | some d' => .nx (e2.set i (reown (slot e2 i) d'))
        | none => .no)
      | none => .no) else .no
    | none => .no) e1 else .no
  | none => .no
/-- while (name := f) is None -/
def whN (tmp : List Nat) (i : Nat) (f : EV) (b : SV) : Nat → SV
  | 0, _ => .no
  | n + 1, e => (sE f fun r e1 => match setS i r e1 with
    | some e2 => (match slot e2 i with
      | .fz .non => (match b e2 with
        | .nx e3 => whN tmp i f b n (wipeE e3 tmp)
        | .ct e3 => whN tmp i f b n (wipeE e3 tmp)
        | .bk e3 => .nx (wipeE e3 tmp)
        | .rt r e3 => .rt r e3
        | .ex x e3 => .ex x e3
        | .no => .no)
      | .no => .no
      | _ => .nx e2)
    | none => .no) e
section
variable {Z : Wd} {F F' H H' : Hp} {N : En} {σ : St} {e e' : Env} {v x y : V} {W : WX} {E : Ends}
theorem enumD_get {xs : List D} {i : Nat} : (enumD xs)[i]? = (xs[i]?).map fun d => .tup [.int (i : Nat), d] := by
  unfold enumD
  rw [List.getElem?_map, List.getElem?_zipIdx]
  cases xs[i]? <;> simp
theorem enumD_len (xs : List D) : (enumD xs).length = xs.length := by unfold enumD; rw [List.length_map, List.length_zipIdx]
theorem walk_enum {K : PySem.W.Frag} (hK : Z.K = K) {ds : List D} (S : SOk Z N F H σ e) (h : Rp Z F v (.lst ds) ∨ ∃ a, v = .ref a ∧ (∃ u, N.H a = some u) ∧ a ∉ N.M ∧ Top Z F H a (.lst ds)) :
    ∃ a, v = .ref a ∧ (∃ xs, SqL K H a xs) ∧ WalkOk Z N F (Ite K a) (enumD ds) := by
  obtain ⟨a, xs, rfl, ha, ra, st⟩ : ∃ a xs, v = .ref a ∧ H a = some (.lst xs) ∧ RpA Z F xs ds ∧ ∀ F' H' σ e, SOk Z N F' H' σ e → Same F F' → H' a = some (.lst xs) := by
    rcases h with h | ⟨a, rfl, ⟨u, hu⟩, m, xs, ha, ra⟩
    · cases h with
      | lst k r => exact ⟨_, _, rfl, S.le _ _ k, r, fun F' H' σ e S' f => S'.le _ _ (f _ _ k)⟩
    · have e1 := S.h0 a u hu m
      rw [ha] at e1
      cases e1
      exact ⟨a, xs, rfl, ha, ra, fun F' H' σ e S' f => S'.h0 a _ hu m⟩
  refine ⟨a, rfl, ⟨xs, SqL.of ha⟩, fun F' H' σ' e' S' f i => ⟨fun d hd => ?_, fun hl => ⟨xs, SqL.of (st _ _ _ _ S' f), by rw [ra.length]; rw [enumD_len] at hl; exact hl⟩⟩⟩
  have hx := st _ _ _ _ S' f
  rw [enumD_get, Option.map_eq_some_iff] at hd
  obtain ⟨d0, hd0, rfl⟩ := hd
  obtain ⟨w, hw, rw'⟩ := ra.get hd0
  refine ⟨⟨xs, w, SqL.of hx, hw⟩, fun x H2 ⟨T, w2, e1, hT, e2, y⟩ => ?_⟩
  subst e1 e2
  have := y xs (SqL.of hx)
  rw [hw] at this
  cases this
  have fT := none_le S'.le hT
  exact ⟨upd F' T (.tup [.int (i : Nat), w]), Gr.layF S'.le hT, .tup upd_same (.cons (.int _) (.cons ((rw'.mono f).mono (same_upd fT)) .nil))⟩
theorem wv_enum_rd {K : PySem.W.Frag} (hK : Z.K = K) {f : EV} {R : It → Hp → Prop} (h : tWv Z W (wEnum f) σ H R) : iEnum K (tCons (tEv Z W f) tNil) σ H R := by
  obtain ⟨N, F, e, S, P⟩ := h
  unfold wEnum wE at P
  refine ⟨N, F, e, S, ?_⟩
  cases q : f e with
  | no => rw [q] at P; exact P
  | ex z e1 => rw [q] at P; exact fun cls d F1 H1 f1 S1 x => P cls d F1 H1 f1 S1 x
  | ok r e0 =>
    rw [q] at P
    dsimp only at P
    intro v F1 H1 f1 S1 R1
    cases q1 : walk r e0 with
    | none => rw [q1] at P; exact P.elim
    | some pr =>
      obtain ⟨d, e1⟩ := pr
      rw [q1] at P
      cases d <;> try exact P.elim
      rename_i xs
      have h : ∀ J F2 H2, Same F F2 → SOk Z N F2 H2 σ e1 → WalkOk Z N F2 J (enumD xs) → R J H2 := P
      obtain ⟨F2, f2, S2, h2⟩ := walk_ok S1 R1 q1
      obtain ⟨a, ev, ⟨ys, h3⟩, w⟩ := walk_enum hK S2 h2
      exact ⟨a, ys, by rw [ev], h3, h _ F2 H1 (f1.trans f2) S2 w⟩
theorem st_aug {i : Nat} {g : Int → Int → Int} {f : EV} (h : tSv Z W (sAug i g f) E σ H) : tAug i (tEv Z W f) (ipI g) E σ H := by
  obtain ⟨N, F, e, S, P⟩ := h
  unfold sAug at P
  cases q : S3.slot e i with
  | fz d =>
    rw [q] at P
    cases d <;> try exact P.elim
    rename_i a
    obtain ⟨o, h1, v, rfl, r⟩ := S.slot i _ (slot_get q (by intro z; cases z))
    have ev := RdV.int (H := H) (.inl r)
    subst ev
    refine ⟨_, h1, ?_⟩
    refine bindS S P fun y F1 H1 e1 r1 f1 S1 R1 P1 => ?_
    cases q1 : S3.rd r1 e1 with
    | none => rw [q1] at P1; exact P1.elim
    | some d =>
      rw [q1] at P1
      cases d <;> try exact P1.elim
      rename_i b
      have ey := (RvOk.rd S1 R1 q1).int
      subst ey
      exact ⟨a, b, rfl, rfl, P1 F1 H1 _ (Same.refl _) (S1.set (.int _))⟩
  | _ => rw [q] at P; exact P.elim
theorem mputL_rd {a : Addr} {d dy dv d' : D} (t : Top Z F H a d) (hy : RdV Z F H y dy) (rv : Rp Z F v dv) (h : mPutL d dy dv = some d') : ∃ (xs : List V) (k : Int) (j : Nat), y = .int k ∧ H a = some (.lst xs) ∧ ixN xs.length k = some j ∧ Top Z F (upd H a (.lst (xs.set j v))) a d' := by
  cases d <;> simp only [mPutL] at h <;> try (cases h; done)
  rename_i ds
  cases dy <;> simp only at h <;> try (cases h; done)
  rename_i k
  rw [Option.map_eq_some_iff] at h
  obtain ⟨j, hj, rfl⟩ := h
  obtain ⟨xs, ha, r⟩ := t
  exact ⟨xs, k, j, hy.int, ha, by rw [r.length]; exact hj, _, upd_same, r.set j rv⟩
theorem putL_rd {i : Nat} {f g : EV} (p : tSv Z W (sPutL i f g) E σ H) : tAsg (tEv Z W f) (gSub (tVar i) (tEv Z W g) rSetL) E σ H := by
  obtain ⟨N, F, e, S, P⟩ := p
  refine bindS S P fun v F1 H1 e1 r f1 S1 R1 P1 => ?_
  cases c1 : S3.stl r e1 with
  | none => rw [c1] at P1; exact P1.elim
  | some pr =>
    obtain ⟨dv, e2⟩ := pr
    rw [c1] at P1
    dsimp only at P1
    obtain ⟨F2, f2, S2, r2⟩ := RvOk.stl S1 R1 c1
    split at P1
    · rename_i hm
      obtain ⟨ho, d0, hd0, hk0⟩ := mine_own hm
      obtain ⟨a, h1, f0, t0, g0⟩ := own_at S2 rfl ho hd0
      refine ⟨.ref a, h1, ?_⟩
      refine bindS S2 (PostS.shift P1 f2) fun y F3 H3 e3 q f3 T3 R3 P3 => ?_
      obtain ⟨F4, f4, S4, h4⟩ := RvOk.hold T3 R3
      have P4 := PostS.shift P3 f4
      cases c2 : S3.rd q e3 with
      | none => rw [c2] at P4; exact P4.elim
      | some dy =>
        rw [c2] at P4
        dsimp only at P4
        split at P4
        · rename_i hm4
          obtain ⟨ho4, d4, hd4, hk4⟩ := mine_own hm4
          obtain ⟨a', h1', f0', t4, g4⟩ := own_at S4 rfl ho4 hd4
          rw [h1] at h1'
          cases h1'
          rw [hd4] at P4
          dsimp only at P4
          cases c3 : mPutL d4 dy dv with
          | none => rw [c3] at P4; exact P4.elim
          | some d' =>
            rw [c3] at P4
            obtain ⟨xs, k, j, ey, ha, hj, t'⟩ := mputL_rd t4 (h4.rd S4 c2) (r2.mono (f3.trans f4)) c3
            exact ⟨a, xs, k, j, rfl, ey, ha, hj, P4 F4 _ σ (Same.refl _) (S4.write g4 ho4 h1 t')⟩
        · exact P4.elim
    · exact P1.elim
theorem st_whN {tmp : List Nat} {i n : Nat} {f : EV} {b : SV} (h : tSv Z W (whN tmp i f b n) E σ H) : tWhileW (wCmp rIsA (wNm (L2.wE (tEv Z W f)) i) (tC .non)) (tSv Z W b) tNext E σ H := by
  obtain ⟨N, F, e, S, P⟩ := h
  refine ⟨fun m σ H => ∃ F' e', SOk Z N F' H σ e' ∧ PostS Z N F' W E (whN tmp i f b m e'), ⟨n, F, e, S, P⟩, ?_⟩
  rintro m σ H ⟨F1, e1, S1, P1⟩
  cases m with
  | zero => exact P1.elim
  | succ m =>
    unfold whN at P1
    refine bindS S1 P1 fun x F2 H2 e2 r f2 S2 R2 P2 => ?_
    cases c1 : setS i r e2 with
    | none => rw [c1] at P2; exact P2.elim
    | some e3 =>
      rw [c1] at P2
      dsimp only at P2
      obtain ⟨F3, f3, S3'⟩ := set_ok S2 R2 c1
      have P3 := PostS.shift P2 f3
      have val : ∀ s, S3.slot e3 i = s → s ≠ .no → SlOk Z N F3 H2 (some x) s := fun s hs hn => by
        obtain ⟨o, h1, h2⟩ := S3'.slot i s (slot_get hs hn)
        have hl := (List.getElem?_eq_some_iff.mp h1).1
        rw [List.length_set] at hl
        rw [List.getElem?_set_self hl] at h1
        cases h1
        exact h2
      have out : x ≠ .non → PostS Z N F3 W E (.nx e3) → ∃ k, V.bl (decide (x = .non)) = .bl k ∧ (if k = true then ∃ Nx : St → Hp → Prop, (∀ σ' H', Nx σ' H' → ∃ m', m' < m + 1 ∧ ∃ F' e', SOk Z N F' H' σ' e' ∧ PostS Z N F' W E (whN tmp i f b m' e')) ∧ tSv Z W b { E with nx := Nx, ct := Nx, bk := E.nx } (σ.set i (some x)) H2 else tNext E (σ.set i (some x)) H2) := fun hx q =>
        ⟨false, by rw [decide_eq_false hx], iteF (q F3 H2 _ (Same.refl _) S3')⟩
      refine .inl ⟨rfl, ?_⟩
      cases c2 : S3.slot e3 i with
      | no => rw [c2] at P3; exact P3.elim
      | ow d =>
        rw [c2] at P3
        obtain ⟨a, ea, _⟩ := val _ c2 (by intro z; cases z)
        cases ea
        exact out (by intro z; cases z) P3
      | bo d =>
        rw [c2] at P3
        exfalso
        have g := slot_get c2 (by intro z; cases z)
        cases r with
        | fz d' => simp only [setS] at c1; cases c1; rcases get_set g with ⟨_, z, _⟩ | ⟨z, _⟩ <;> first | cases z | exact z rfl
        | nw d' => simp only [setS] at c1; cases c1; rcases get_set g with ⟨_, z, _⟩ | ⟨z, _⟩ <;> first | cases z | exact z rfl
        | «at» j =>
          simp only [setS, Option.map_eq_some_iff] at c1
          obtain ⟨p, _, rfl⟩ := c1
          rcases get_set g with ⟨_, z, _⟩ | ⟨z, _⟩ <;> first | cases z | exact z rfl
      | mu d =>
        rw [c2] at P3
        obtain ⟨a, ea, _⟩ := val _ c2 (by intro z; cases z)
        cases ea
        exact out (by intro z; cases z) P3
      | fz d =>
        rw [c2] at P3
        obtain ⟨w, ew, rw'⟩ := val _ c2 (by intro z; cases z)
        cases ew
        by_cases hd : d = .non
        · subst hd
          have ex := RdV.non (H := H2) (.inl rw')
          refine ⟨true, by rw [decide_eq_true ex], iteT ⟨fun σ' H' => ∃ F' e', SOk Z N F' H' σ' e' ∧ PostS Z N F' W E (whN tmp i f b m e'), fun σ' H' h => ⟨m, Nat.lt_succ_self m, h⟩, N, F3, e3, S3', ?_⟩⟩
          dsimp only at P3
          cases q2 : b e3 with
          | no => rw [q2] at P3; exact P3
          | nx e4 => rw [q2] at P3; exact fun F4 H4 σ4 f4 S4 => ⟨F4, _, S4.wipe tmp, PostS.shift P3 f4⟩
          | ct e4 => rw [q2] at P3; exact fun F4 H4 σ4 f4 S4 => ⟨F4, _, S4.wipe tmp, PostS.shift P3 f4⟩
          | bk e4 => rw [q2] at P3; exact fun F4 H4 σ4 f4 S4 => P3 F4 H4 σ4 f4 (S4.wipe tmp)
          | rt r e4 => rw [q2] at P3; exact P3
          | ex x e4 => rw [q2] at P3; exact P3
        · have P4 : PostS Z N F3 W E (.nx e3) := by
            cases d <;> first | exact (hd rfl).elim | exact P3
          exact out (RdV.notNon (H := H2) (.inl rw') hd) P4
end
section
variable {ca : Str → Option Addr} {W : WX} {X : Cx} {a b c : Expr} {fa fb fc : EV} {es : List Expr} {s1 : List Stmt} {ga : AV} {f : SV} {pos p p2 apos : Pos}
theorem wv_enum {elts : List Expr} {kk : Nat} {tpos : Pos} (hm : X.mg "enumerate" = none) (h : Ev ca W X a fa) (hg : Gl X "enumerate" := by rfl) (hs : starEach [a] X.env = (false, eval a X.env) :: starEach [] X.env := by rfl) : Wv ca W X (.Tuple elts kk tpos) (.Call (.Name "enumerate" p) [a] [] pos) (wEnum fa) :=
  PI_imp (pi_enum hg hm (pa_cons h pa_nil hs) (by rw [hs]; rfl)) fun _ _ _ => wv_enum_rd rfl
theorem sv_augA (i : Nat) {x : Str} (hN : X.N.Nodup) (h : Ev ca W X a fa) (hi : X.N[i]? = some x := by rfl) (hx : Loc X.env.scope x := by first | exact Or.inl rfl | exact Or.inr rfl)
    (hf : X.fn x = true ∨ X.env.scope.names.lookup x = some .local := by first | exact .inl rfl | exact .inr rfl | assumption) : Sv ca W X (.AugAssign (.Name x p) .Add a pos) (sAug i (fun i j => i + j) fa) := PS_imp (ps_aug hN hi hx h ip_add hf) fun _ _ _ => st_aug
theorem sv_putL {i : Nat} {xx : Str} {px p2 : Pos} (hx : PE X (.Name xx px) (tVar i)) (ha : Ev ca W X a fa) (hb : Ev ca W X b fb) (hs : swapsWithSole [.Subscript (.Name xx px) b p2] a pos.line X.env = pure false := by rfl) (hw : swappedStores [.Subscript (.Name xx px) b p2] a X.env = pure none := by rfl)
    (h1 : (assignEach [.Subscript (.Name xx px) b p2] X.env).map (·.2) = [assign (.Subscript (.Name xx px) b p2) X.env] := by rfl)
    (hq : ∀ v, assign (.Subscript (.Name xx px) b p2) X.env v = (do
      let ov ← holding [v] (eval (.Name xx px) X.env)
      let iv ← holding [v, ov] (eval b X.env)
      standAt p2
      holding [v, ov, iv] (setItem ov iv v)
      release [v, ov, iv] []) := by intro _; rfl) :
    Sv ca W X (.Assign [.Subscript (.Name xx px) b p2] a pos) (sPutL i fa fb) := PS_imp (ps_asg ha (pg_sub hx hb set_list hq) hs hw h1) fun _ _ _ => putL_rd
theorem sv_whN {i : Nat} {x : Str} {tmp : List Nat} {q1 q2 q3 q4 : Pos} {j : Nat} (n : Nat) (hN : X.N.Nodup) (hp : PassesOwn (model X.prog X.w) X.A X.env X.xe) (h : Ev ca W X a fa) (hb : Bv ca W X s1 f) (hi : X.N[i]? = some x := by rfl) (hx : Loc X.env.scope x := by first | exact Or.inl rfl | exact Or.inr rfl)
    (hf : X.fn x = true ∨ X.env.scope.names.lookup x = some .local := by first | exact .inl rfl | exact .inr rfl | assumption) :
    Sv ca W X (.While (.Compare (.NamedExpr (.Name x q1) a q2) [.Is] [.Constant .none j q3] q4) s1 [] pos) (whN tmp i fa f n) :=
  PS_imp (ps_whileW hp (ptw_cmp op_isA (pew_named hN hi hx (pew_of h) hf) pe_non rfl) hb pss_nil) fun _ _ _ => st_whN
end
end S3

/-! C7: comprehensions of two clauses: lists, sets. -/
namespace S3
open PySem L2
/-! ### terms -/
/-- what the second clause walks: frozen -/
def wFz (f : EV) : WV := wE f fun r e => match stl r e with
  | some (d, e1) => (match items d with
    | some xs => .ok xs e1
    | none => .no)
  | none => .no
section
variable {β : Type}
def cpL (t : Tg) (c : TV) (f : EV) (add : β → D → Option β) : List D → Env → β → Option β
  | [], _, acc => some acc
  | d :: ds, e, acc => (match tgt t d e with
    | some e1 => (match c e1 with
      | .ok true e2 => (match f e2 with
        | .ok r e3 => (match stl r e3 with
          | some (x, _) => (match add acc x with
            | some acc' => cpL t c f add ds e acc'
            | none => none)
          | none => none)
        | _ => none)
      | .ok false _ => cpL t c f add ds e acc
      | _ => none)
    | none => none)
def cp2 (t : Tg) (c : TV) (f1 : EV) (own1 : List Nat) (t1 : Tg) (c1 : TV) (f : EV) (add : β → D → Option β) : List D → Env → β → Option β
  | [], _, acc => some acc
  | d :: ds, e, acc => (match tgt t d e with
    | some e1 => (match c e1 with
      | .ok true e2 => (match wFz f1 e2 with
        | .ok xs _ => (match cpL t1 c1 f add xs (wipeE (lock e1) own1) acc with
          | some acc' => cp2 t c f1 own1 t1 c1 f add ds e acc'
          | none => none)
        | _ => none)
      | .ok false _ => cp2 t c f1 own1 t1 c1 f add ds e acc
      | _ => none)
    | none => none)
end
def addL (acc : List D) (x : D) : Option (List D) := if acc.length < BIG then some (acc ++ [x]) else none
def addS (ks : List Key) (x : D) : Option (List Key) := match toKey x with
  | some k => if ks.length < 4000 then some (addKey ks k) else none
  | none => none
/-- [f for t in w if c for t1 in f1 if c1] -/
def eLc2 (own : List Nat) (own1 : List Nat) (t : Tg) (w : WV) (c : TV) (t1 : Tg) (f1 : EV) (c1 : TV) (f : EV) : EV := fun e => match w e with
  | .ok xs e1 => (match cp2 t c f1 own1 t1 c1 f addL xs (wipeE (lock e1) own) [] with
    | some ys => .ok (.nw (.lst ys)) e1
    | none => .no)
  | .ex x e1 => .ex x e1
  | .no => .no
def eSc2 (own : List Nat) (own1 : List Nat) (t : Tg) (w : WV) (c : TV) (t1 : Tg) (f1 : EV) (c1 : TV) (f : EV) : EV := fun e => match w e with
  | .ok xs e1 => (match cp2 t c f1 own1 t1 c1 f addS xs (wipeE (lock e1) own) [] with
    | some ys => .ok (.nw (.st ys)) e1
    | none => .no)
  | .ex x e1 => .ex x e1
  | .no => .no
section
variable {Z : Wd} {F F' H H' : Hp} {N : En} {σ : St} {e e' : Env} {v x y : V} {W : WX} {E : Ends}
/-- the walker J gives the items ds, all frozen -/
def WalkFz (Z : Wd) (F : Hp) (J : It) (ds : List D) : Prop := ∀ F' H', Same F F' → Same F' H' → ∀ i,
  (∀ d, ds[i]? = some d → J.go i H' ∧ ∀ x H2, J.yld i H' x H2 → ∃ F2, Gr F' H' F2 H2 ∧ Rp Z F2 x d) ∧ (ds.length ≤ i → J.stop i H')
theorem wfz_seq {K : PySem.W.Frag} {a : Addr} {xs : List V} {ds : List D} (k : F a = some (.lst xs)) (ra : RpA Z F xs ds) : WalkFz Z F (Itl K a) ds := fun F' H' f l i => by
  have hx : H' a = some (.lst xs) := l _ _ (f _ _ k)
  refine ⟨fun d hd => ?_, fun hl => ⟨xs, SqL.of hx, by rw [ra.length]; exact hl⟩⟩
  obtain ⟨w, hw, rw'⟩ := ra.get hd
  refine ⟨⟨xs, w, SqL.of hx, hw⟩, fun x H2 ⟨e2, y⟩ => ?_⟩
  subst e2
  have := y xs (SqL.of hx)
  rw [hw] at this
  cases this
  exact ⟨F', Gr.refl l, rw'.mono f⟩
theorem wfz_tup {K : PySem.W.Frag} {a : Addr} {xs : List V} {ds : List D} (k : F a = some (.tup xs)) (ra : RpA Z F xs ds) : WalkFz Z F (Itt K a) ds := fun F' H' f l i => by
  have hx : H' a = some (.tup xs) := l _ _ (f _ _ k)
  refine ⟨fun d hd => ?_, fun hl => ⟨xs, SqT.of hx, by rw [ra.length]; exact hl⟩⟩
  obtain ⟨w, hw, rw'⟩ := ra.get hd
  refine ⟨⟨xs, w, SqT.of hx, hw⟩, fun x H2 ⟨e2, y⟩ => ?_⟩
  subst e2
  have := y xs (SqT.of hx)
  rw [hw] at this
  cases this
  exact ⟨F', Gr.refl l, rw'.mono f⟩
theorem wfz_str {x : Str} (hx : sOk x = true) : WalkFz Z F (Its x) (x.cps.toList.map fun c => .str ⟨#[c]⟩) := fun F' H' f l i => by
  refine ⟨fun d hd => ?_, fun hl => ?_⟩
  · rw [List.getElem?_map, Option.map_eq_some_iff] at hd
    obtain ⟨c, hc, rfl⟩ := hd
    have hc' : x.cps[i]? = some c := by rw [← hc, Array.getElem?_toList]
    refine ⟨(Array.getElem?_eq_some_iff.mp hc').1, fun v H2 ⟨e2, c2, hc2, ev⟩ => ?_⟩
    subst e2 ev
    rw [hc'] at hc2
    cases hc2
    refine ⟨F', Gr.refl l, .str _ (sOk_of (by show 1 ≤ LIM; decide) ?_)⟩
    have h3 := Array.all_eq_true_iff_forall_mem.mp (sOk_cps hx) c (Array.mem_of_getElem? hc')
    simpa using h3
  · rw [List.length_map, Array.length_toList] at hl
    exact hl
def PostF (Z : Wd) (N : En) (F : Hp) (σ : St) (W : WX) (R : It → Hp → Prop) : RW → Prop
  | .no => False
  | .ok xs e => ∀ J F' H', Same F F' → SOk Z N F' H' σ e → WalkFz Z F' J xs → R J H'
  | .ex x e => ∀ cls d F' H', Same F F' → SOk Z N F' H' σ e → ExOk Z F' H' x cls d → W cls d σ H'
def tWf (Z : Wd) (W : WX) (f : EV) : TI := fun σ H R => ∃ N F e, SOk Z N F H σ e ∧ PostF Z N F σ W R (wFz f e)
theorem wf_rd {K : PySem.W.Frag} (hK : Z.K = K) {f : EV} {R : It → Hp → Prop} (h : tWf Z W f σ H R) : iAny K (tEv Z W f) σ H R := by
  obtain ⟨N, F, e, S, P⟩ := h
  unfold wFz wE at P
  cases q : f e with
  | no => rw [q] at P; exact P.elim
  | ex z e1 =>
    rw [q] at P
    refine .inl ⟨N, F, e, S, ?_⟩
    rw [q]
    exact fun cls d F1 H1 f1 S1 x => P cls d F1 H1 f1 S1 x
  | ok r e0 =>
    rw [q] at P
    dsimp only at P
    cases q1 : stl r e0 with
    | none => rw [q1] at P; exact P.elim
    | some pr =>
      obtain ⟨d, e1⟩ := pr
      rw [q1] at P
      dsimp only at P
      cases q2 : items d with
      | none => rw [q2] at P; exact P.elim
      | some xs =>
        rw [q2] at P
        dsimp only at P
        have h : ∀ J F2 H2, Same F F2 → SOk Z N F2 H2 σ e1 → WalkFz Z F2 J xs → R J H2 := P
        cases d <;> simp only [items] at q2 <;> cases q2
        · refine .inr (.inr ⟨N, F, e, S, ?_⟩)
          rw [q]
          intro v F1 H1 f1 S1 R1
          obtain ⟨F2, f2, S2, h2⟩ := RvOk.stl S1 R1 q1
          have hs := RdV.str (H := H1) (.inl h2)
          exact ⟨_, hs.1, h _ F2 H1 (f1.trans f2) S2 (wfz_str hs.2.2)⟩
        · refine .inl ⟨N, F, e, S, ?_⟩
          rw [q]
          intro v F1 H1 f1 S1 R1
          obtain ⟨F2, f2, S2, h2⟩ := RvOk.stl S1 R1 q1
          cases h2 with
          | lst k ra => exact ⟨_, rfl, ⟨_, SqL.of (S2.le _ _ k)⟩, h _ F2 H1 (f1.trans f2) S2 (wfz_seq k ra)⟩
        · refine .inr (.inl ⟨N, F, e, S, ?_⟩)
          rw [q]
          intro v F1 H1 f1 S1 R1
          obtain ⟨F2, f2, S2, h2⟩ := RvOk.stl S1 R1 q1
          cases h2 with
          | tup k ra => exact ⟨_, rfl, ⟨_, SqT.of (S2.le _ _ k)⟩, h _ F2 H1 (f1.trans f2) S2 (wfz_tup k ra)⟩
        · refine .inl ⟨N, F, e, S, ?_⟩
          rw [q]
          intro v F1 H1 f1 S1 R1
          obtain ⟨F2, f2, S2, h2⟩ := RvOk.stl S1 R1 q1
          obtain ⟨a, e2, h3, w⟩ := walk_scr (N := ⟨F2, H1, [], fun _ => none⟩) (F := F2) (H := H1) hK S2.lockd h2
          subst hK
          cases h2 with
          | @scr a' xs' _ k ra =>
            refine ⟨_, rfl, ⟨_, Same.seq S2.le k⟩, h _ F2 H1 (f1.trans f2) S2 fun F' H' f l i => ?_⟩
            have hx := Same.seq l (Same.seq f k)
            refine ⟨fun d hd => ?_, fun hl => ⟨xs', hx, by rw [ra.length]; exact hl⟩⟩
            obtain ⟨w, hw, rw'⟩ := ra.get hd
            refine ⟨⟨xs', w, hx, hw⟩, fun x H2 ⟨e2, y⟩ => ?_⟩
            subst e2
            have := y xs' hx
            rw [hw] at this
            cases this
            exact ⟨F', Gr.refl l, rw'.mono f⟩
/-! ### a heap without one place -/
def cutA (H : Hp) (A : Addr) : Hp := fun b => if b = A then none else H b
theorem cutA_self {H : Hp} {A : Addr} : cutA H A A = none := if_pos rfl
theorem cutA_upd {H : Hp} {A : Addr} (x : HO) : upd H A x = upd (cutA H A) A x := by
  funext b
  show (if b = A then some x else H b) = (if b = A then some x else (if b = A then none else H b))
  by_cases z : b = A
  · rw [if_pos z, if_pos z]
  · rw [if_neg z, if_neg z, if_neg z]
theorem cutA_in {H : Hp} {A : Addr} {o : HO} (h : H A = some o) : H = upd (cutA H A) A o := by
  rw [← cutA_upd]
  funext b
  by_cases z : b = A
  · subst z; rw [upd_same, h]
  · rw [upd_ne z]
theorem back_all {A : Addr} {o : HO} {F1 Hm F2 H2 F3 H3 : Hp} {σ3 : St} {e3 : Env} (nA : Hm A = none) (l1 : Same F1 Hm) (g : Gr F1 (upd Hm A o) F2 H2) (T : SOk Z ⟨F2, H2, [], fun _ => none⟩ F3 H3 σ3 e3) :
    H3 A = some o ∧ F3 A = none ∧ Same F1 F3 ∧ ∀ {N : En} {σ : St} {e : Env}, SOk Z N F1 Hm σ e → SOk Z N F3 (cutA H3 A) σ e := by
  have A2 : H2 A = some o := g.h _ _ upd_same
  have FA : F2 A = none := g.nf A _ upd_same (none_le l1 nA)
  have k1 : H3 A = some o := T.h0 A _ A2 (by simp)
  have k2 : F3 A = none := T.nf A _ A2 FA
  refine ⟨k1, k2, g.f.trans T.f0, fun S1 => S1.grow (g.f.trans T.f0) (fun b o' hb => ?_) (fun b o' hb => ?_) (fun b u hb n => ?_)⟩
  · have nb : b ≠ A := ne_of_none hb nA
    show (if b = A then none else H3 b) = some o'
    rw [if_neg nb]
    exact T.h0 b o' (g.h _ _ (by rw [upd_ne nb]; exact hb)) (by simp)
  · have nb : b ≠ A := fun z => by subst z; rw [k2] at hb; cases hb
    show (if b = A then none else H3 b) = some o'
    rw [if_neg nb]
    exact T.le _ _ hb
  · have nb : b ≠ A := ne_of_none hb nA
    have hb' : upd Hm A o b = some u := by rw [upd_ne nb]; exact hb
    exact T.nf b u (g.h _ _ hb') (g.nf b u hb' n)
/-! ### the block's slots behind a target -/
theorem setAll_get : ∀ {is : List Nat} {ds : List D} {e e1 : Env}, setAll is ds e = some e1 → e1.length = e.length ∧ ∀ j, (j ∉ is → e1[j]? = e[j]?) ∧ (j ∈ is → j < e.length → ∃ d, e1[j]? = some (.fz d))
  | [], [], e, e1, h => by cases h; exact ⟨rfl, fun j => ⟨fun _ => rfl, fun h => by cases h⟩⟩
  | [], _ :: _, _, _, h => by cases h
  | _ :: _, [], _, _, h => by cases h
  | i :: is, d :: ds, e, e1, h => by
    obtain ⟨h1, h2⟩ := setAll_get (is := is) (ds := ds) h
    rw [List.length_set] at h1
    refine ⟨h1, fun j => ⟨fun hj => ?_, fun hj hl => ?_⟩⟩
    · rw [List.mem_cons, not_or] at hj
      rw [(h2 j).1 hj.2, List.getElem?_set_ne (Ne.symm hj.1)]
    · by_cases m : j ∈ is
      · exact (h2 j).2 m (by rw [List.length_set]; exact hl)
      · have e : j = i := (List.mem_cons.mp hj).resolve_right m
        subst e
        exact ⟨d, by rw [(h2 j).1 m, List.getElem?_set_self hl]⟩
theorem tgt_get {t : Tg} {d : D} {e e1 : Env} (h : tgt t d e = some e1) : e1.length = e.length ∧ ∀ j, (j ∉ tgIx t → e1[j]? = e[j]?) ∧ (j ∈ tgIx t → j < e.length → ∃ d, e1[j]? = some (.fz d)) := by
  cases t with
  | one i => exact setAll_get (is := [i]) (ds := [d]) h
  | tup is => cases d <;> simp only [tgt] at h <;> first | exact setAll_get h | cases h
theorem SOk.tgtB {N2 : En} {F Hc H2 : Hp} {NB : En} {σ σ2 : St} {e0 e2 : Env} {t : Tg} {d : D} (own : List Nat) (SB : SOk Z NB F Hc σ (wipeE (lock e0) own)) (S4 : SOk Z N2 F H2 σ2 e2) (off : Off (tgIx t) σ σ2) (h : tgt t d (wipeE (lock e0) own) = some e2) (hM : NB.M = []) : SOk Z NB F Hc σ2 e2 := by
  obtain ⟨h1, h2⟩ := tgt_get h
  have nown : ∀ (j : Nat) (s : Sl), e2[j]? = some s → s.own = false := fun j s hj => by
    by_cases m : j ∈ tgIx t
    · obtain ⟨d', hd⟩ := (h2 j).2 m (by rw [← h1]; exact (List.getElem?_eq_some_iff.mp hj).1)
      rw [hd] at hj; cases hj; rfl
    · rw [(h2 j).1 m, wipeE_get] at hj
      split at hj
      · cases hj; rfl
      · obtain ⟨u, _, rfl⟩ := get_lock hj
        cases u <;> rfl
  refine ⟨SB.le, SB.f0, SB.h0, SB.nf, by rw [off.1, SB.len, h1], fun j s hj => ?_, fun i j s t' a g1 g2 ne o => ?_, fun a ha => ?_, fun j d' hj => ?_⟩
  · by_cases m : j ∈ tgIx t
    · obtain ⟨d', hd⟩ := (h2 j).2 m (by rw [← h1]; exact (List.getElem?_eq_some_iff.mp hj).1)
      have hj2 := hj
      rw [hd] at hj
      cases hj
      obtain ⟨o, q1, q2⟩ := S4.slot j _ hj2
      exact ⟨o, q1, q2⟩
    · rw [(h2 j).1 m] at hj
      rw [off.2 j m]
      exact SB.slot j s hj
  · rw [nown i s g1] at o; cases o
  · rw [hM] at ha; cases ha
  · have := nown j _ hj
    cases this
/-- two clauses: the core -/
theorem cp2_sound {β : Type} {Acc : Hp → β → HO → Prop} {K : V → Hp → (Hp → Prop) → Prop} {add : β → D → Option β} {A : Addr} {acc0 ys : β} {o0 : HO} {g g1 : TG} {t t1 : Tg} {own own1 : List Nat} {c c1 : TV} {f1 f : EV} {J : It} {ds : List D} {Q : VK}
    (mono : ∀ F F' acc o, Same F F' → Acc F acc o → Acc F' acc o) (hK : ∀ F acc acc' x o H7 y Nx, Acc F acc o → add acc x = some acc' → Rp Z F y x → H7 A = some o → (∀ o', Acc F acc' o' → Nx (upd H7 A o')) → K y H7 Nx)
    (tk : TgOk Z g t) (sub : ∀ i ∈ tgIx t, i ∈ own) (tk1 : TgOk Z g1 t1) (sub1 : ∀ i ∈ tgIx t1, i ∈ own1) (S : SOk Z N F H σ e) (wk : WalkOk Z N F J ds)
    (hl : cp2 t c f1 own1 t1 c1 f add ds (wipeE (lock e) own) acc0 = some ys) (h0 : Acc F acc0 o0) (hA : H A = none) (P : ∀ F' Hm o, Same F F' → SOk Z N F' Hm σ e → Hm A = none → Acc F' ys o → Q (.ref A) (upd Hm A o)) :
    ∃ Wm : Nat → Nat → Hp → Prop, (∃ m, Wm 0 m (upd H A o0)) ∧ ∀ i m H, Wm i m H → (J.stop i H ∧ Q (.ref A) H) ∨ (J.go i H ∧ ∃ Nx : Hp → Prop, (∀ H', Nx H' → ∃ m', m' < m ∧ Wm (i + 1) m' H') ∧
      ∀ x H', J.yld i H x H' → g x (wipe σ own) H' fun σ2 H2 => wipe σ2 own = wipe σ own ∧ tTv Z W0 c σ2 H2 fun b H3 =>
        if b = true then tWf Z W0 f1 σ2 H3 fun J1 H4 => ∃ W1 : Nat → Nat → Hp → Prop, (∃ m, W1 0 m H4) ∧ ∀ j k H, W1 j k H →
          (J1.stop j H ∧ Nx H) ∨ (J1.go j H ∧ ∃ Nx1 : Hp → Prop, (∀ H', Nx1 H' → ∃ k', k' < k ∧ W1 (j + 1) k' H') ∧ ∀ x H', J1.yld j H x H' → g1 x (wipe σ2 own1) H' fun σ3 H5 => wipe σ3 own1 = wipe σ2 own1 ∧ tTv Z W0 c1 σ3 H5 fun b H6 =>
            if b = true then tEv Z W0 f σ3 H6 fun y H7 => K y H7 Nx1 else Nx1 H6)
        else Nx H3) := by
  refine ⟨fun i m Hx => m = ds.length - i ∧ i ≤ ds.length ∧ ∃ F' Hm acc o, Same F F' ∧ SOk Z N F' Hm σ e ∧ Hm A = none ∧ Hx = upd Hm A o ∧ Acc F' acc o ∧ cp2 t c f1 own1 t1 c1 f add (ds.drop i) (wipeE (lock e) own) acc = some ys,
    ⟨ds.length, rfl, Nat.zero_le _, F, H, acc0, o0, Same.refl _, S, hA, rfl, h0, hl⟩, ?_⟩
  rintro i m _ ⟨rfl, hi, F1, Hm, acc, o, f1', S1, nA, rfl, ra, hl1⟩
  have SH : SOk Z N F1 (upd Hm A o) σ e := S1.gr (Gr.lay S1.le nA)
  obtain ⟨w1, w2⟩ := wk F1 _ σ e SH f1' i
  by_cases hlt : i < ds.length
  · have ed : ds.drop i = ds[i] :: ds.drop (i + 1) := List.drop_eq_getElem_cons hlt
    have ei : ds[i]? = some ds[i] := List.getElem?_eq_getElem hlt
    rw [ed] at hl1
    generalize ds[i] = d at hl1 ei
    obtain ⟨go, yl⟩ := w1 d ei
    refine .inr ⟨go, fun Hx => ∃ F' Hm acc o, Same F F' ∧ SOk Z N F' Hm σ e ∧ Hm A = none ∧ Hx = upd Hm A o ∧ Acc F' acc o ∧ cp2 t c f1 own1 t1 c1 f add (ds.drop (i + 1)) (wipeE (lock e) own) acc = some ys,
      fun H' h => ⟨ds.length - (i + 1), by omega, rfl, hlt, h⟩, fun x H2 hy => ?_⟩
    obtain ⟨F2, g2, r2⟩ := yl x H2 hy
    have S2 := SH.gr g2
    have S3' := S2.lockd.wipe2 own
    unfold cp2 at hl1
    cases q : tgt t d (wipeE (lock e) own) with
    | none => rw [q] at hl1; cases hl1
    | some e2 =>
      rw [q] at hl1
      dsimp only at hl1
      refine tk ⟨F2, H2, [], fun _ => none⟩ F2 H2 (wipe σ own) (wipeE (lock e) own) x d e2 _ S3' r2 q fun σ2 S4 off => ⟨by rw [wipe_off off sub, wipe_wipe], ⟨F2, H2, [], fun _ => none⟩, F2, e2, S4, ?_⟩
      -- the block's slots over the heap without the new object
      have SB : SOk Z ⟨F1, Hm, [], fun _ => none⟩ F2 (cutA H2 A) σ2 e2 := by
        have S0 := S1.lockd.wipe2 own
        obtain ⟨_, _, _, bk⟩ := back_all nA S1.le g2 S4
        exact SOk.tgtB own (bk S0) S4 off q rfl
      cases q2 : c e2 with
      | no => rw [q2] at hl1; cases hl1
      | ex z e3 => rw [q2] at hl1; cases hl1
      | ok b e3 =>
        rw [q2] at hl1
        intro F3 H3 f3 T3
        cases b with
        | false =>
          refine iteF ?_
          obtain ⟨k1, k2, k3, bk⟩ := back_all nA S1.le g2 T3
          exact ⟨F3, cutA H3 A, acc, o, f1'.trans k3, bk S1, cutA_self, cutA_in k1, mono _ _ _ _ k3 ra, hl1⟩
        | true =>
          dsimp only at hl1
          refine iteT ⟨⟨F2, H2, [], fun _ => none⟩, F3, e3, T3, ?_⟩
          cases q3 : wFz f1 e3 with
          | no => rw [q3] at hl1; cases hl1
          | ex z e4 => rw [q3] at hl1; cases hl1
          | ok xs e4 =>
            rw [q3] at hl1
            dsimp only at hl1
            cases q4 : cpL t1 c1 f add xs (wipeE (lock e2) own1) acc with
            | none => rw [q4] at hl1; cases hl1
            | some acc1 =>
              rw [q4] at hl1
              dsimp only at hl1
              intro J1 F4 H4 f4 T4 wk1
              obtain ⟨k1, k2, k3, bk⟩ := back_all nA S1.le g2 T4
              have SB4 : SOk Z ⟨F1, Hm, [], fun _ => none⟩ F4 (cutA H4 A) σ2 e2 := by
                refine SB.grow (f3.trans f4) (fun b o' hb => ?_) (bk S1).le (fun b u hb n => ?_)
                · have nb : b ≠ A := fun z => by subst z; rw [cutA_self] at hb; cases hb
                  have hb' : H2 b = some o' := by have hb : (if b = A then none else H2 b) = some o' := hb; rwa [if_neg nb] at hb
                  show (if b = A then none else H4 b) = some o'
                  rw [if_neg nb]
                  exact T4.h0 b o' hb' (by simp)
                · have nb : b ≠ A := fun z => by subst z; rw [cutA_self] at hb; cases hb
                  have hb' : H2 b = some u := by have hb : (if b = A then none else H2 b) = some u := hb; rwa [if_neg nb] at hb
                  exact T4.nf b u hb' n
              refine ⟨fun j k Hx => k = xs.length - j ∧ j ≤ xs.length ∧ ∃ F' Hm' acc o, Same F4 F' ∧ SOk Z N F' Hm' σ e ∧ SOk Z ⟨F1, Hm, [], fun _ => none⟩ F' Hm' σ2 e2 ∧ Hm' A = none ∧ Hx = upd Hm' A o ∧ Acc F' acc o ∧ cpL t1 c1 f add (xs.drop j) (wipeE (lock e2) own1) acc = some acc1,
                ⟨xs.length, rfl, Nat.zero_le _, F4, cutA H4 A, acc, o, Same.refl _, bk S1, SB4, cutA_self, cutA_in k1, mono _ _ _ _ k3 ra, q4⟩, ?_⟩
              rintro j k _ ⟨rfl, hj, F5, Hm5, acc5, o5, f5, S5, SB5, nA5, rfl, ra5, hl5⟩
              have SBH := SB5.gr (Gr.lay (o := o5) SB5.le nA5)
              obtain ⟨v1, v2⟩ := wk1 F5 (upd Hm5 A o5) f5 SBH.le j
              by_cases hlt5 : j < xs.length
              · have ed5 : xs.drop j = xs[j] :: xs.drop (j + 1) := List.drop_eq_getElem_cons hlt5
                have ei5 : xs[j]? = some xs[j] := List.getElem?_eq_getElem hlt5
                rw [ed5] at hl5
                generalize xs[j] = d5 at hl5 ei5
                obtain ⟨go5, yl5⟩ := v1 d5 ei5
                refine .inr ⟨go5, fun Hx => ∃ F' Hm' acc o, Same F4 F' ∧ SOk Z N F' Hm' σ e ∧ SOk Z ⟨F1, Hm, [], fun _ => none⟩ F' Hm' σ2 e2 ∧ Hm' A = none ∧ Hx = upd Hm' A o ∧ Acc F' acc o ∧ cpL t1 c1 f add (xs.drop (j + 1)) (wipeE (lock e2) own1) acc = some acc1,
                  fun H' h => ⟨xs.length - (j + 1), by omega, rfl, hlt5, h⟩, fun x5 H6 hy5 => ?_⟩
                obtain ⟨F6, g6, r6⟩ := yl5 x5 H6 hy5
                have S6 := (SBH.gr g6).lockd.wipe2 own1
                unfold cpL at hl5
                cases p1 : tgt t1 d5 (wipeE (lock e2) own1) with
                | none => rw [p1] at hl5; cases hl5
                | some e6 =>
                  rw [p1] at hl5
                  dsimp only at hl5
                  refine tk1 ⟨F6, H6, [], fun _ => none⟩ F6 H6 (wipe σ2 own1) (wipeE (lock e2) own1) x5 d5 e6 _ S6 r6 p1 fun σ3 S7 off3 => ⟨by rw [wipe_off off3 sub1, wipe_wipe], ⟨F6, H6, [], fun _ => none⟩, F6, e6, S7, ?_⟩
                  cases p2 : c1 e6 with
                  | no => rw [p2] at hl5; cases hl5
                  | ex z e7 => rw [p2] at hl5; cases hl5
                  | ok b e7 =>
                    rw [p2] at hl5
                    intro F7 H7 f7 T7
                    cases b with
                    | false =>
                      refine iteF ?_
                      obtain ⟨l1, l2, l3, bk7⟩ := back_all nA5 SB5.le g6 T7
                      exact ⟨F7, cutA H7 A, acc5, o5, f5.trans l3, bk7 S5, bk7 SB5, cutA_self, cutA_in l1, mono _ _ _ _ l3 ra5, hl5⟩
                    | true =>
                      dsimp only at hl5
                      refine iteT ⟨⟨F6, H6, [], fun _ => none⟩, F7, e7, T7, ?_⟩
                      cases p3 : f e7 with
                      | no => rw [p3] at hl5; cases hl5
                      | ex z e8 => rw [p3] at hl5; cases hl5
                      | ok r e8 =>
                        rw [p3] at hl5
                        dsimp only at hl5
                        cases p4 : stl r e8 with
                        | none => rw [p4] at hl5; cases hl5
                        | some pr =>
                          obtain ⟨x', e9⟩ := pr
                          rw [p4] at hl5
                          dsimp only at hl5
                          cases p5 : add acc5 x' with
                          | none => rw [p5] at hl5; cases hl5
                          | some acc6 =>
                            rw [p5] at hl5
                            dsimp only at hl5
                            intro v F8 H8 f8 T8 R8
                            obtain ⟨F9, f9, T9, r9⟩ := RvOk.stl T8 R8 p4
                            obtain ⟨l1, l2, l3, bk9⟩ := back_all nA5 SB5.le g6 T9
                            exact hK F9 _ acc6 x' o5 H8 v _ (mono _ _ _ _ l3 ra5) p5 r9 l1 fun o' ho' => ⟨F9, cutA H8 A, acc6, o', f5.trans l3, bk9 S5, bk9 SB5, cutA_self, cutA_upd _, ho', hl5⟩
              · have e0 : xs.drop j = [] := List.drop_eq_nil_of_le (Nat.le_of_not_lt hlt5)
                rw [e0] at hl5
                unfold cpL at hl5
                have e5 := Option.some.inj hl5
                rw [← e5] at hl1
                exact .inl ⟨v2 (Nat.le_of_not_lt hlt5), F5, Hm5, acc5, o5, (f1'.trans k3).trans f5, S5, nA5, rfl, ra5, hl1⟩
  · have e0 : ds.drop i = [] := List.drop_eq_nil_of_le (Nat.le_of_not_lt hlt)
    rw [e0] at hl1
    unfold cp2 at hl1
    cases hl1
    exact .inl ⟨w2 (Nat.le_of_not_lt hlt), P F1 Hm o f1' S1 nA ra⟩
theorem lc2_rd {g g1 : TG} {t t1 : Tg} {own own1 : List Nat} {w : WV} {c c1 : TV} {f1 f : EV} {Q : VK} (tk : TgOk Z g t) (sub : ∀ i ∈ tgIx t, i ∈ own) (tk1 : TgOk Z g1 t1) (sub1 : ∀ i ∈ tgIx t1, i ∈ own1) (h : tEv Z W (eLc2 own own1 t w c t1 f1 c1 f) σ H Q) :
    tLc2 (tWv Z W w) g (tTv Z W0 c) (tWf Z W0 f1) g1 (tTv Z W0 c1) (tEv Z W0 f) own own1 σ H Q := by
  obtain ⟨N, F, e, S, P⟩ := h
  unfold eLc2 at P
  refine ⟨N, F, e, S, ?_⟩
  cases q : w e with
  | no => rw [q] at P; exact P
  | ex z e1 => rw [q] at P; exact P
  | ok xs e1 =>
    rw [q] at P
    dsimp only at P
    cases q1 : cp2 t c f1 own1 t1 c1 f addL xs (wipeE (lock e1) own) [] with
    | none => rw [q1] at P; exact P.elim
    | some ys =>
      rw [q1] at P
      dsimp only at P
      intro J F1 H1 fs S1 wk A hA
      refine cp2_sound (Acc := fun F acc o => ∃ vs, o = .lst vs ∧ RpA Z F vs acc) (K := fun y H7 Nx => ∃ acc, H7 A = some (.lst acc) ∧ acc.length < sizeLine ∧ Nx (upd H7 A (.lst (acc ++ [y])))) (add := addL) (acc0 := []) (o0 := .lst []) ?_ ?_ tk sub tk1 sub1 S1 wk q1 ⟨[], rfl, .nil⟩ hA ?_
      · rintro F F' acc o f ⟨vs, rfl, r⟩
        exact ⟨vs, rfl, r.mono f⟩
      · rintro F acc acc' x o H7 y Nx ⟨vs, rfl, r⟩ ha ry h7 hn
        unfold addL at ha
        split at ha
        · rename_i hz
          cases ha
          exact ⟨vs, h7, by rw [r.length, sizeLine_eq]; exact hz, hn _ ⟨_, rfl, r.append (.cons ry .nil)⟩⟩
        · cases ha
      · rintro F' Hm o f' S' nA ⟨vs, rfl, r⟩
        exact P (.ref A) F' _ (fs.trans f') (S'.gr (Gr.lay S'.le nA)) (S'.rvok (Gr.lay S'.le nA) ⟨A, rfl, nA, none_le S'.le nA, vs, upd_same, r⟩)
theorem sc2_rd {g g1 : TG} {t t1 : Tg} {own own1 : List Nat} {w : WV} {c c1 : TV} {f1 f : EV} {Q : VK} (tk : TgOk Z g t) (sub : ∀ i ∈ tgIx t, i ∈ own) (tk1 : TgOk Z g1 t1) (sub1 : ∀ i ∈ tgIx t1, i ∈ own1) (h : tEv Z W (eSc2 own own1 t w c t1 f1 c1 f) σ H Q) :
    SX.tSc2G Z.P Z.w (tWv Z W w) g (tTv Z W0 c) (tWf Z W0 f1) g1 (tTv Z W0 c1) (tEv Z W0 f) own own1 σ H Q := by
  obtain ⟨N, F, e, S, P⟩ := h
  unfold eSc2 at P
  refine ⟨N, F, e, S, ?_⟩
  cases q : w e with
  | no => rw [q] at P; exact P
  | ex z e1 => rw [q] at P; exact P
  | ok xs e1 =>
    rw [q] at P
    dsimp only at P
    cases q1 : cp2 t c f1 own1 t1 c1 f addS xs (wipeE (lock e1) own) [] with
    | none => rw [q1] at P; exact P.elim
    | some ys =>
      rw [q1] at P
      dsimp only at P
      intro J F1 H1 fs S1 wk A hA
      refine cp2_sound (Acc := fun F ks o => o = SetGO Z.P Z.w A ks ∧ kOk ks) (K := fun y H7 Nx => ∃ k ks, y = kV k ∧ H7 A = some (SetGO Z.P Z.w A ks) ∧ ks.length + 1 < PySem.scanBound ∧ Nx (upd H7 A (SetGO Z.P Z.w A (addKey ks k)))) (add := addS) (acc0 := []) (o0 := SetGO Z.P Z.w A []) ?_ ?_ tk sub tk1 sub1 S1 wk q1 ⟨rfl, fun x hx => by cases hx⟩ hA ?_
      · rintro F F' acc o f r
        exact r
      · rintro F ks ks' x o H7 y Nx ⟨rfl, r⟩ ha ry h7 hn
        unfold addS at ha
        cases hk : toKey x with
        | none => rw [hk] at ha; cases ha
        | some k =>
          rw [hk] at ha
          dsimp only at ha
          split at ha
          · rename_i hz
            cases ha
            have kk : kOk [k] := toKeys_ok (ds := [x]) (.cons ry .nil) (by simp only [toKeys, hk])
            exact ⟨k, ks, toKey_rd (H := H7) (.inl ry) hk, h7, by unfold PySem.scanBound; omega, hn _ ⟨rfl, kOk_add r kk⟩⟩
          · cases ha
      · rintro F' Hm o f' S' nA ⟨rfl, r⟩
        exact P (.ref A) F' _ (fs.trans f') (S'.gr (Gr.lay S'.le nA)) (S'.rvok (Gr.lay S'.le nA) ⟨A, rfl, nA, none_le S'.le nA, upd_same, r⟩)
end
section
variable {ca : Str → Option Addr} {W : WX} {X : Cx} {fe f1 : EV} {w : WV} {c c1 : TV} {elt tg iter tg1 iter1 : Expr} {ifs ifs1 : List Expr} {scope : Scope} {own : List (Str × Nat)} {own1 : List Nat} {pos : Pos} {g g1 : TG} {t t1 : Tg}
theorem wf_any {X : Cx} {tg iter : Expr} {f1 : EV} (h : Ev ca W0 X iter f1) : PI X tg iter (tWf (zw ca X) W0 f1) := PI_imp (pi_any h) fun _ _ _ => wf_rd rfl
theorem ev_lc2 (hc : X.calm = true) (hN : X.N.Nodup) (hi : Wv ca W X tg iter w) (ok : BlkOk X.N X.env.scope scope own) (hv : ∀ i ∈ own1, i ∈ own.map (·.2)) (tk : TgOk (zw ca X) g t) (sub : ∀ i ∈ tgIx t, i ∈ own.map (·.2)) (tk1 : TgOk (zw ca X) g1 t1) (sub1 : ∀ i ∈ tgIx t1, i ∈ own1)
    (hg : ∀ (s : Shared) (H : Hp) (C : Addr) (cl : List (Str × Addr)) (fp : List Addr), PG (X.blk s H scope (compEnvC scope cl C X.env) fp) tg g)
    (ht : ∀ (s : Shared) (H : Hp) (C : Addr) (cl : List (Str × Addr)) (fp : List Addr), PTs (X.blk s H scope (compEnvC scope cl C X.env) fp) ifs (tTv (zw ca X) W0 c))
    (hi1 : ∀ (s : Shared) (H : Hp) (C : Addr) (cl : List (Str × Addr)) (fp : List Addr), Ev ca W0 (X.blk s H scope (compEnvC scope cl C X.env) fp) iter1 f1)
    (hg1 : ∀ (s : Shared) (H : Hp) (C : Addr) (cl : List (Str × Addr)) (fp : List Addr), PG (X.blk s H scope (compEnvC scope cl C X.env) fp) tg1 g1)
    (ht1 : ∀ (s : Shared) (H : Hp) (C : Addr) (cl : List (Str × Addr)) (fp : List Addr), PTs (X.blk s H scope (compEnvC scope cl C X.env) fp) ifs1 (tTv (zw ca X) W0 c1))
    (he : ∀ (s : Shared) (H : Hp) (C : Addr) (cl : List (Str × Addr)) (fp : List Addr), Ev ca W0 (X.blk s H scope (compEnvC scope cl C X.env) fp) elt fe) (hs : ∀ x, foldedSetIterable iter X.env x = pure x := by intro _; rfl) (hs1 : ∀ env x, foldedSetIterable iter1 env x = pure x := by intro _ _; rfl) :
    Ev ca W X (.ListComp elt [⟨tg, iter, ifs, 0⟩, ⟨tg1, iter1, ifs1, 0⟩] scope pos) (eLc2 (own.map (·.2)) own1 t w c t1 f1 c1 fe) :=
  PE_imp (pe_lc2 hc hN hi ok hv hg ht (fun s H C cl fp => wf_any (hi1 s H C cl fp)) hg1 ht1 he hs hs1) fun _ _ _ => lc2_rd tk sub tk1 sub1
theorem ev_sc2 (hc : X.calm = true) (hN : X.N.Nodup) (hi : Wv ca W X tg iter w) (ok : BlkOk X.N X.env.scope scope own) (hv : ∀ i ∈ own1, i ∈ own.map (·.2)) (tk : TgOk (zw ca X) g t) (sub : ∀ i ∈ tgIx t, i ∈ own.map (·.2)) (tk1 : TgOk (zw ca X) g1 t1) (sub1 : ∀ i ∈ tgIx t1, i ∈ own1)
    (hg : ∀ (s : Shared) (H : Hp) (C : Addr) (cl : List (Str × Addr)) (fp : List Addr), PG (X.blk s H scope (compEnvC scope cl C X.env) fp) tg g)
    (ht : ∀ (s : Shared) (H : Hp) (C : Addr) (cl : List (Str × Addr)) (fp : List Addr), PTs (X.blk s H scope (compEnvC scope cl C X.env) fp) ifs (tTv (zw ca X) W0 c))
    (hi1 : ∀ (s : Shared) (H : Hp) (C : Addr) (cl : List (Str × Addr)) (fp : List Addr), Ev ca W0 (X.blk s H scope (compEnvC scope cl C X.env) fp) iter1 f1)
    (hg1 : ∀ (s : Shared) (H : Hp) (C : Addr) (cl : List (Str × Addr)) (fp : List Addr), PG (X.blk s H scope (compEnvC scope cl C X.env) fp) tg1 g1)
    (ht1 : ∀ (s : Shared) (H : Hp) (C : Addr) (cl : List (Str × Addr)) (fp : List Addr), PTs (X.blk s H scope (compEnvC scope cl C X.env) fp) ifs1 (tTv (zw ca X) W0 c1))
    (he : ∀ (s : Shared) (H : Hp) (C : Addr) (cl : List (Str × Addr)) (fp : List Addr), Ev ca W0 (X.blk s H scope (compEnvC scope cl C X.env) fp) elt fe) (hs : ∀ x, foldedSetIterable iter X.env x = pure x := by intro _; rfl) (hs1 : ∀ env x, foldedSetIterable iter1 env x = pure x := by intro _ _; rfl) :
    Ev ca W X (.SetComp elt [⟨tg, iter, ifs, 0⟩, ⟨tg1, iter1, ifs1, 0⟩] scope pos) (eSc2 (own.map (·.2)) own1 t w c t1 f1 c1 fe) :=
  PE_imp (SX.pe_sc2G hc hN hi ok hv hg ht (fun s H C cl fp => wf_any (hi1 s H C cl fp)) hg1 ht1 he hs hs1) fun _ _ _ => sc2_rd tk sub tk1 sub1
end
end S3

/-! E1: an exception of an own class over ValueError whose __init__ says super().__init__('..') and keeps its arguments in fields of their names: what its making leaves. -/
namespace PySem
namespace S3X
open PySem.W PySem.Calls PyProof.Rows PySem.HandSPX

/-- the assignments self.f = f -/
def IsAsg : List Str → List Stmt → Prop
  | [], [] => True
  | f :: fs, s :: r => (∃ q1 q2 q3 q4, s = .Assign [.Attribute (.Name "self" q1) f q2] (.Name f q3) q4) ∧ IsAsg fs r
  | _, _ => False
/-- the text of such an __init__ -/
structure InitTxt (ps : Arguments) (sc : Scope) (body : List Stmt) (fs : List Str) : Prop where
  head : ∃ ar, (ps.posonlyargs ++ ps.args).head? = some ar ∧ ar.arg = "self"
  body : ∃ (txt : Str) (j : Nat) (p0 p1 p2 p3 p4 p5 : Pos) (asg : List Stmt), body = .Expr (.Call (.Attribute (.Call (.Name "super" p0) [] [] p1) "__init__" p2) [.Constant (.str txt) j p3] [] p4) p5 :: asg ∧ (p2.endLine == p4.line) = true ∧ IsAsg fs asg
  su : sc.names.lookup ("super" : Str) = some .globalImplicit
  cl : sc.names.lookup ("__class__" : Str) = some .free
  se : sc.names.lookup ("self" : Str) = some .local
  fl : ∀ f ∈ fs, sc.names.lookup f = some .local
  nd : (("self" : Str) :: fs).Nodup
  db : ∀ f ∈ fs, (f == ("__debug__" : Str)) = false
  nc : ∀ x ∈ sc.names, x.2 ≠ .cell
  co : sc.isCoroutine = false
  gn : sc.isGenerator = false
  kd : sc.kind = .function
/-- what the written part says of the class at C -/
structure ExT (prog : Program) (K : Frag) (C fI cc cda : Addr) (fd : FuncData) (fs : List Str) : Prop where
  cls : ∃ nm q N bs bm sn sub ab col dd k0 k1 k2 k3 k5, K.lookup C = some (excClassObj nm q C N bs bm true sn sub ab col dd k0 k1 k2 k3 k5 "ValueError.__new__") ∧ refsVE bm = true
  sa : findIn K (.ref C) "__setattr__" = some (some (.builtin "object.__setattr__"))
  exC : subIn K (.ref C) (.type "BaseException") = some true
  tyC : typeIn K (.ref C) = some (.type "type")
  kC : keepIn K (.ref C) = true
  noN : ∀ f ∈ fs, findIn K (.ref C) f = some none
  iC : findIn K (.ref C) "__init__" = some (some (.ref fI))
  tI : typeIn K (.ref fI) = some (.type "function")
  sup : ks_superIn K C C "__init__" = some (some (.builtin "ValueError.__init__"))
  vB : subIn K (.ref C) (.type "ValueError") = some true
  mC : mroIn K C (.ref C) = some true
  opq : nsIn K cStatics "thirdparty.any" = some none
  fn : ∃ oc od osl, K.lookup fI = some ⟨oc, od, .func fd, osl⟩
  fe : ∃ name qual params body scope dV kV doc pm an ct, fd = ksFn name qual params body scope dV kV doc pm an (.ref cda) ct cc ∧ InitTxt params scope body fs
  cd : codeIn K (.ref cda) fd.qualname = true
  code : ∃ ccl cdd vs ccs file tf, K.lookup cda = some ⟨ccl, cdd, .fields vs, ccs⟩ ∧ vs[2]? = some (.str file tf) ∧ ((prog.main.file : Str) == file) = true
  cell : ∃ cl cld csl, K.lookup cc = some ⟨cl, cld, .cell (some (.ref C)), csl⟩
  bd : ∀ (s : Shared) (e : Addr) (us : List Value), us.length = fs.length → BindsTo s fd ⟨.ref e :: us, []⟩ (("self", .ref e) :: fs.zip us)
  top : (prog.main.scope.names.lookup ("super" : Str)).isSome = false
abbrev exO (C : Addr) (d : Option Addr) (t : Addr) : Obj := { cls := .ref C, dict := d, data := .fields #[.ref t, .none, .none, .none, .bool false, .none] }
/-- fields put one after the other -/
def putAll : List (Str × Value) → (Str → Option Value) → Str → Option Value
  | [], m => m
  | (f, v) :: r, m => putAll r fun y => if y = f then some v else m y
section
variable {prog : Program} {w : World} {A : Around} {E : Value → Shared → Prop} {R : Result → Shared → Prop} {K : Frag} {C fI cc cda : Addr} {fd : FuncData} {fs : List Str}
theorem ldN {M : Model} {s : Shared} {env : Env} {m : Str → Option Value} {x : Str} {pos : Pos} {v : Value} {Q : Value → Shared → Prop} (hn : s.heap.Ns env.locals m) (hv : m x = some v) (h : Q v s)
    (hk : env.scope.kind = .function) (hl : env.kindOf x = some .local) (hd : (x == ("__debug__" : Str)) = false) : wpAny M A (eval (.Name x pos) env) Q E s := wpAny_Name (wpAny_loadName_local hk hl hn hv h) hd
theorem clsIn_of (T : ExT prog K C fI cc cda fd fs) : ∃ cd, clsIn K C = some cd ∧ refsVE cd.mro = true ∧ cd.hasDict = true := by
  obtain ⟨nm, q, N, bs, bm, sn, sub, ab, col, dd, k0, k1, k2, k3, k5, hC, hbm⟩ := T.cls
  refine ⟨{ name := nm, bases := bs, mro := .ref C :: bm, ns := N, qualname := q, hasDict := true, slotNames := sn, subclasses := sub, abstract := ab, collection := col, hasDel := false }, ?_, hbm, rfl⟩
  unfold clsIn; rw [hC] <;> rfl
/-- the further fields -/
theorem asgs_old (T : ExT prog K C fI cc cda fd fs) {env : Env} {m : Str → Option Value} {e : Addr} (hk : env.scope.kind = .function) (se : env.kindOf "self" = some .local) (ms : m "self" = some (.ref e)) :
    ∀ {l : List (Str × Value)} {body : List Stmt} {s : Shared} {dx t1 : Addr} {m0 : Str → Option Value} {nl : List Str} {Q : Flow → Shared → Prop}, IsAsg (l.map (·.1)) body → (∀ p ∈ l, m p.1 = some p.2 ∧ env.kindOf p.1 = some .local ∧ (p.1 == ("__debug__" : Str)) = false ∧ p.1 ∈ fs) →
      K.In s.heap → s.heap.Ns env.locals m → env.locals ≠ dx → env.locals ≠ e → dx ≠ e → (∀ o, K.lookup dx ≠ some o) → s.heap.get? e = some (exO C (some dx) t1) → s.heap.Ns1 dx m0 → Within m0 nl → nl.length + l.length ≤ 900 →
      (∀ h' tk, (∀ b o, b ≠ dx → s.heap.get? b = some o → h'.get? b = some o) → h'.Ns1 dx (putAll l m0) → Q .next { s with heap := h', toks := tk }) → wpAny (model prog w) A (execs body env) Q E s := by
  obtain ⟨cd, hcl, hmr, hdi⟩ := clsIn_of T
  intro l
  induction l with
  | nil =>
    intro body s dx t1 m0 nl Q hb _ _ _ _ _ _ _ _ hns _ _ hq
    cases body with
    | cons _ _ => exact hb.elim
    | nil => exact wpAny_execs_nil (hq s.heap s.toks (fun _ _ _ h => h) hns)
  | cons p l ih =>
    intro body s dx t1 m0 nl Q hb hp X hn nL ne nd nK he hns hw hz hq
    obtain ⟨f, v⟩ := p
    cases body with
    | nil => exact hb.elim
    | cons st body =>
      obtain ⟨⟨q1, q2, q3, q4, rfl⟩, hb⟩ := hb
      obtain ⟨mv, kf, df, hf⟩ := hp (f, v) List.mem_cons_self
      refine wpAny_execs_cons (plainObj_wpAny_Assign_Attribute ?_)
      refine ldN hn mv (ldN hn ms ?_ hk se (by decide)) hk kf df
      obtain ⟨hp', g, d, t, os⟩ := s
      obtain ⟨oD, esD, epD, hoD, hdD, _⟩ := hns.count hw
      refine set_plain X (ox := exO C (some dx) t1) (od := some oD) ⟨he, rfl, rfl, hoD⟩ T.sa ?_
      refine PySem.OEX.osa_old X he hns hw (by rw [List.length_cons] at hz; omega) hcl hmr hdi (T.noN f hf) (fun h' tk' k hn' => ?_)
      have X' : K.In h' := fun a o q => k a o (fun z => nK o (by rw [← z]; exact q)) (X a o q)
      refine ih hb (fun p hp' => hp p (List.mem_cons_of_mem _ hp')) X' (hn.at fun o q => k _ _ nL q) nL ne nd nK (k _ _ (Ne.symm nd) he) hn' (Within.cons f v hw) (by rw [List.length_cons] at hz ⊢; omega) fun h2 tk2 k2 hn2 => ?_
      exact hq h2 tk2 (fun b o hb ho => k2 b o hb (k b o hb ho)) hn2
end
end S3X
end PySem

/-! E2: the __init__ run, the exception made. -/
namespace PySem
namespace S3X
open PySem.W PySem.Calls PyProof.Rows PySem.HandSPX
section
variable {prog : Program} {w : World} {A : Around} {E : Value → Shared → Prop} {R : Result → Shared → Prop} {K : Frag} {C fI cc cda : Addr} {fd : FuncData} {fs : List Str}
theorem quiet_of {env : Env} (h : env.scope.kind = .function) : interactive env = false := by
  unfold interactive
  first
    | (rw [h]; rfl)
    | simp [Env.blockKind, h]
theorem not_in {h : Heap} {b : Addr} (X : K.In h) (n : h.get? b = none) : ∀ o, K.lookup b ≠ some o := fun o q => by
  have := X _ _ q
  rw [n] at this; cases this
theorem call_line {o : Expr} {name : Str} {apos pos : Pos} {args : List Expr} {env : Env} (hf : methodCallForm (args.length + 0) (backTo pos (starEach args env)) [] = true) (hl : (apos.endLine == pos.line) = true) :
    eval (.Call (.Attribute o name apos) args [] pos) env = (do
      let ov ← attributeBase o name env (eval o env)
      standAt apos.atName
      let (f, first) ← holding [ov] (getMethod ov name (do return (← importBound o env).getD true))
      callWith pos f first (backTo pos (starEach args env)) []) := by
  have e : backToKw pos (keywordEach [] env) = [] := rfl
  have hp : methodCallPos true o env apos pos = pure pos := by unfold methodCallPos; simp [hl]
  have hc : ∀ ov, calleeOf true o env ov name = getMethod ov name (do return (← importBound o env).getD true) := fun _ => rfl
  rw [arm_eval_Call]
  unfold methodCall
  simp only [List.length_nil, e, hf, hp, hc, pure_bind]
/-- super().__init__('..') -/
theorem sup_run (T : ExT prog K C fI cc cda fd fs) {name qual : Str} {params : Arguments} {scope : Scope} {body : List Stmt} {dV kV doc pm ct : Value} {an : Option Addr} (hfd : fd = ksFn name qual params body scope dV kV doc pm an (.ref cda) ct cc) (I : InitTxt params scope body fs)
    {L e t0 : Addr} {h : Heap} {g : Array GenState} {d : Drawn} {t : Nat} {os : OsState} {m mg mb : Str → Option Value} {txt : Str} {j : Nat} {p0 p1 p2 p3 p4 p5 : Pos} {Q : Flow → Shared → Prop} (hl : (p2.endLine == p4.line) = true) (X : K.In h) (hn : h.Ns L m) (ms : m "self" = some (.ref e)) (G : h.Ns mainGlobals mg) (hms : mg "super" = none) (B : h.Ns builtinsNs mb) (hbs : mb "super" = some (.type "super"))
    (hx : h.get? e = some (exO C none t0)) (hnx : ∀ o, K.lookup e ≠ some o)
    (hq : ∀ h' t1 tk, (∀ b o, b ≠ e → h.get? b = some o → h'.get? b = some o) → h'.get? e = some (exO C none t1) → Q .next ⟨h', g, d, tk, os⟩) :
    _root_.PySem.wpAt (model prog w) A (.func body (ksEnv qual scope L fI (.ref cda) cc)) (exec (.Expr (.Call (.Attribute (.Call (.Name "super" p0) [] [] p1) "__init__" p2) [.Constant (.str txt) j p3] [] p4) p5) (ksEnv qual scope L fI (.ref cda) cc)) Q E ⟨h, g, d, t, os⟩ := by
  obtain ⟨cdC, hcl, hmr, hdi⟩ := clsIn_of T
  obtain ⟨nm, q, N, bs, bm, sn, sub, ab, col, dd, k0, k1, k2, k3, k5, hC, hbm⟩ := T.cls
  obtain ⟨oc, od, osl, hf⟩ := T.fn
  obtain ⟨ar, har, hself⟩ := I.head
  obtain ⟨ccl, cdd, vs, ccs, file, tf, hcode, hvs, hfile⟩ := T.code
  obtain ⟨cl, cld, csl, hcell⟩ := T.cell
  refine ks_wpAt_Expr_any (ks_wpAt_MethodCall (pl := do return (← importBound (.Call (.Name "super" p0) [] [] p1) (ksEnv qual scope L fI (.ref cda) cc)).getD true) ?_ (call_line (by rfl) hl)) (hi := quiet_of I.kd)
  refine ks_wpAt_super_base (of := ⟨oc, od, .func fd, osl⟩) (fd := fd) I.su I.cl (by decide) rfl (X _ _ hf) rfl (by rw [hfd]; exact har) rfl (X _ _ hcode) rfl hvs hfile T.top ?_
  refine ks_loadName_global I.kd I.su (loadGlobal_builtin G hms B hbs ⟨rfl, ?_⟩)
  refine wpAny_loadName_free I.kd I.cl rfl ⟨_, X _ _ hcell, rfl⟩ ?_
  refine wpAny_loadName_local I.kd (by rw [hself]; exact I.se) hn (by rw [hself]; exact ms) ?_
  refine ks_wpAny_isType_cls (X _ _ hC) rfl ⟨rfl, ?_⟩
  refine ks_wpAny_call_super (X _ _ hC) rfl hx rfl (fun c z => by cases z) (looks_mroIn X T.mC) (fun h1 e1 kk1 => ?_)
  have hx1 := kk1 _ _ hx
  have X1 : K.In h1 := X.keeps kk1
  have J1 : InstAt h1 e (exO C none t0) C none := ⟨hx1, rfl, rfl, trivial⟩
  have hI : Looks (model prog w) h1 (isInstance (.ref e) (.type "ValueError")) true := J1.type.andThen (looks_subIn X1 T.vB)
  have sp := T.sup
  unfold ks_superIn at sp
  rw [hcl] at sp
  refine kxs_getMethod kxs_ValueError e1 (looks_opaque X1 T.opq) (l₀ := cdC.mro) ?_ rfl X1 sp hI (fun z => hnx _ (by rw [z]; exact hC)) (by decide) ?_
  · exact fun A Q E s k q => wpAny_bind ((looks_clsIn X1 hcl) A _ E s k (wpAny_pure q))
  have k2 : ∀ b o, h1.get? b = some o → (h1.push (kxs_mw "ValueError.__init__" e)).get? b = some o := fun b o z => Heap.get?_push_of_some _ z
  have hu : (h1.push (kxs_mw "ValueError.__init__" e)).get? h1.objs.size = some (kxs_mw "ValueError.__init__" e) := Heap.get?_push_at rfl rfl
  refine kxs_callWith (i := "ValueError.__init__") (x := e) (by rfl) (evalArgs_plain (spliced_cons (Constant_str (k := j) (pos := p3) (spliced_nil ⟨hu, ?_⟩))))
  have hC2 := (X1.keeps k2) _ _ hC
  have he2 := k2 _ _ hx1
  refine wpAny_call (codeAny_of_tree ?_)
  show wpAny _ A.in1 (callAny (.ref _) ⟨_, []⟩) _ _ _
  simp only [callAny]
  refine wpAny_bind (wpAny_load hu ?_)
  simp only [kxs_mw, show (Value.type "method-wrapper" == Value.type "method" || Value.type "method-wrapper" == Value.type "builtin_function_or_method" || Value.type "method-wrapper" == Value.type "method-wrapper") = true by decide, if_true]
  refine KFB.if_so (by decide) ?_
  refine wpAny_bind (check_bound_init F.excBase_ValueError.toExcCallFacts hC2 he2 rfl ?_)
  refine wpAny_bind (wpAny_pure (wpAny_pure ?_))
  refine ⟨plainId_quiet F.excBase_ValueError.init.plain _, codeAny_builtin F.excBase_ValueError.initEntry ?_⟩
  refine exc_init_tree (cls := .ref C) (t0 := t0) (dv := none) (c2 := .none) (c3 := .none) (b4 := .bool false) he2 (by rw [sizeLine_eq]; simp) (fun h3 kk3 e3 _ => ?_)
  exact hq h3 _ _ (fun b o hb ho => kk3 b o hb (k2 b o (kk1 b o ho))) e3
end
end S3X
end PySem

/-! E3: an exception made by its class's call; the rule for raise. -/
namespace PySem
namespace S3X
open PySem.W PySem.Calls PyProof.Rows PySem.HandSPX
theorem lookup_rev : ∀ {l : List (Str × Value)} {f : Str} {v : Value}, (l.map (·.1)).Nodup → (f, v) ∈ l → l.reverse.lookup f = some v
  | [], _, _, _, h => by cases h
  | (g, u) :: l, f, v, nd, h => by
    rw [List.map_cons, List.nodup_cons] at nd
    rw [List.reverse_cons, List.lookup_append]
    rcases List.mem_cons.mp h with e | e
    · obtain ⟨e1, e2⟩ := Prod.mk.inj e
      rw [e1, e2]
      have : l.reverse.lookup g = none := by
        rw [List.lookup_eq_none_iff]
        intro p hp
        have hp' := List.mem_reverse.mp hp
        have : p.1 ≠ g := fun z => nd.1 (by rw [← z]; exact List.mem_map.mpr ⟨p, hp', rfl⟩)
        simpa using Ne.symm this
      rw [this]
      simp [List.lookup]
    · rw [lookup_rev nd.2 e]
      rfl
theorem keys_zip : ∀ {fs : List Str} {us : List Value}, us.length = fs.length → (fs.zip us).map (·.1) = fs
  | [], _, _ => rfl
  | f :: fs, [], h => by cases h
  | f :: fs, u :: us, h => by rw [List.zip_cons_cons, List.map_cons, keys_zip (Nat.succ.inj h)]
section
variable {prog : Program} {w : World} {A : Around} {E : Value → Shared → Prop} {R : Result → Shared → Prop} {K : Frag} {C fI cc cda : Addr} {fd : FuncData} {fs : List Str}
theorem init_run (T : ExT prog K C fI cc cda fd fs) {s : Shared} {e t0 : Addr} {us : List Value} {mg mb : Str → Option Value} (hfs : fs ≠ []) (hz : fs.length ≤ 800) (hl : us.length = fs.length) (X : K.In s.heap) (hlim : s.heap.NoLimit) (G : s.heap.Ns mainGlobals mg) (hms : mg "super" = none) (B : s.heap.Ns builtinsNs mb) (hbs : mb "super" = some (.type "super"))
    (hx : s.heap.get? e = some (exO C none t0)) (hnx : ∀ o, K.lookup e ≠ some o) (hroom : A.depth < recursionLimit)
    (hq : ∀ h' tk dx t1, (∀ b o, b ≠ e → s.heap.get? b = some o → h'.get? b = some o) → h'.get? e = some (exO C (some dx) t1) → s.heap.objs.size ≤ dx → dx ≠ e → h'.Ns1 dx (putAll (fs.zip us) fun _ => none) → R (.ok (.ret .none)) { s with heap := h', toks := tk }) :
    codeAny (model prog w) A (.call (.ref fI) ⟨.ref e :: us, []⟩) R s := by
  obtain ⟨oc, od, osl, hf⟩ := T.fn
  obtain ⟨name, qual, params, body, scope, dV, kV, doc, pm, an, ct, hfd, I⟩ := T.fe
  obtain ⟨cdC, hcl, hmr, hdi⟩ := clsIn_of T
  have hkeys : ((("self" : Str), Value.ref e) :: fs.zip us).map (·.1) = ("self" : Str) :: fs := by rw [List.map_cons, keys_zip hl]
  have hnd : (((("self" : Str), Value.ref e) :: fs.zip us).map (·.1)).Nodup := by rw [hkeys]; exact I.nd
  have lk : ∀ {f v}, (f, v) ∈ (("self" : Str), Value.ref e) :: fs.zip us → ((("self" : Str), Value.ref e) :: fs.zip us).reverse.lookup f = some v := fun h => lookup_rev hnd h
  have hT := T
  have hbd := T.bd s e us hl
  have hcd := T.cd
  subst hfd
  refine ks_codeAny_call_defAt (body := body) (binds := ("self", .ref e) :: fs.zip us) hroom (X _ _ hf) rfl hlim (codeRec_of X hcd) rfl hbd I.nc (fun x hx => ?_) (fun h1 hns k1 => ?_) I.co I.gn I.kd
  · rcases List.mem_cons.mp hx with q | q
    · rw [q]; exact I.se
    · exact I.fl _ (by rw [← keys_zip hl]; exact List.mem_map.mpr ⟨x, q, rfl⟩)
  obtain ⟨hp, g, d, t, os⟩ := s
  have X1 : K.In h1 := X.keeps k1
  have hL : ∀ {b : Addr} {o : Obj}, hp.get? b = some o → hp.objs.size ≠ b := fun z => Nat.ne_of_gt (Heap.lt_size z)
  obtain ⟨txt, j, p0, p1, p2, p3, p4, p5, asg, hb, hl2, ha⟩ := I.body
  show _root_.PySem.wpAt (model prog w) (A.deeper (ksEnv qual scope hp.objs.size fI (.ref cda) cc)) (.func body (ksEnv qual scope hp.objs.size fI (.ref cda) cc)) (execs body (ksEnv qual scope hp.objs.size fI (.ref cda) cc)) _ _ _
  have hex : execs body (ksEnv qual scope hp.objs.size fI (.ref cda) cc) = execs (.Expr (.Call (.Attribute (.Call (.Name "super" p0) [] [] p1) "__init__" p2) [.Constant (.str txt) j p3] [] p4) p5 :: asg) (ksEnv qual scope hp.objs.size fI (.ref cda) cc) := by rw [← hb]
  rw [hex]
  refine ks_wpAt_execs_cons (sup_run hT rfl I hl2 X1 hns (lk List.mem_cons_self) (G.keeps k1) hms (B.keeps k1) hbs (k1 _ _ hx) hnx (fun h2 t2 tk2 k2 e2 => ?_))
  show _root_.PySem.wpAt _ _ _ (execs asg _) _ _ _
  refine wpAt_of_wpAny ?_
  cases hfs' : fs with
  | nil => exact (hfs hfs').elim
  | cons f fs' =>
    cases hus' : us with
    | nil => rw [hus', hfs'] at hl; cases hl
    | cons v us' =>
      rw [hfs'] at ha
      cases asg with
      | nil => exact ha.elim
      | cons st asg =>
        obtain ⟨⟨q1, q2, q3, q4, rfl⟩, ha⟩ := ha
        have hff : f ∈ fs := by rw [hfs']; exact List.mem_cons_self
        have hzip : fs.zip us = (f, v) :: fs'.zip us' := by rw [hfs', hus', List.zip_cons_cons]
        have X2 : K.In h2 := fun a o q => k2 a o (fun z => hnx o (by rw [← z]; exact q)) (X1 a o q)
        have n2 := hns.at fun o q => k2 _ _ (hL hx) q
        refine wpAny_execs_cons (plainObj_wpAny_Assign_Attribute ?_)
        refine ldN n2 (lk (List.mem_cons_of_mem _ (by rw [hzip]; exact List.mem_cons_self))) (ldN n2 (lk List.mem_cons_self) ?_ I.kd I.se (by decide)) I.kd (I.fl f hff) (I.db f hff)
        refine set_plain X2 (ox := exO C none t2) (od := none) ⟨e2, rfl, rfl, trivial⟩ T.sa ?_
        refine exc_osa X2 e2 hcl hmr hdi (T.noN f hff) (fun h3 tk3 dx k3 dn dne e3 n3 => ?_)
        have X3 : K.In h3 := fun a o q => k3 a o (fun z => hnx o (by rw [← z]; exact q)) (X2 a o q)
        have h2L : ∀ {b : Addr} {o : Obj}, h2.get? b = some o → b ≠ dx := fun z => Nat.ne_of_lt (Nat.lt_of_lt_of_le (Heap.lt_size z) dn)
        have dxn : h2.get? dx = none := by
          cases q : h2.get? dx with
          | none => rfl
          | some o => exact absurd rfl (h2L q)
        obtain ⟨oL, _, _, hoL, _⟩ := id n2
        have old : ∀ {b : Addr} {o : Obj}, b ≠ e → hp.get? b = some o → h2.get? b = some o := fun hb z => k2 _ _ hb (k1 _ _ z)
        have hlen : us'.length = fs'.length := by rw [hfs', hus'] at hl; exact Nat.succ.inj hl
        have szz : hp.objs.size ≤ dx := Nat.le_of_lt (Nat.lt_of_lt_of_le (Heap.lt_size hoL) dn)
        refine asgs_old hT (env := ksEnv qual scope hp.objs.size fI (.ref cda) cc) (m := fun x => ((("self" : Str), Value.ref e) :: fs.zip us).reverse.lookup x) (e := e) I.kd I.se (lk List.mem_cons_self) (l := fs'.zip us') (dx := dx) (t1 := t2) (nl := [f]) (by rw [keys_zip hlen]; exact ha) (fun p hp' => ?_) X3 (n2.at fun o q => k3 _ _ (hL hx) q) (h2L hoL) (hL hx) dne (not_in X2 dxn) e3 n3
          (Within.cons f v (fun y hy => absurd rfl hy)) (by rw [List.length_zip, hlen, Nat.min_self]; rw [hfs', List.length_cons] at hz; show 1 + fs'.length ≤ 900; omega) (fun h4 tk4 k4 n4 => ?_)
        · have hm : p.1 ∈ fs := by rw [hfs', ← keys_zip hlen]; exact List.mem_cons_of_mem _ (List.mem_map.mpr ⟨p, hp', rfl⟩)
          exact ⟨lk (List.mem_cons_of_mem _ (by rw [hzip]; exact List.mem_cons_of_mem _ hp')), I.fl _ hm, I.db _ hm, hm⟩
        · refine hq h4 tk4 dx t2 (fun b o hb z => ?_) ?_ szz dne (by rw [hzip]; exact n4)
          · have z2 := old hb z
            exact k4 b o (h2L z2) (k3 b o hb z2)
          · exact k4 _ _ (Ne.symm dne) e3
end
end S3X
end PySem

/-! E4: C(..), C such a class; raise C(..). -/
namespace PySem
namespace S3X
open PySem.W PySem.Calls PyProof.Rows PySem.HandSPX
section
variable {prog : Program} {w : World} {A : Around} {E : Value → Shared → Prop} {R : Result → Shared → Prop} {K : Frag} {C fI cc cda : Addr} {fd : FuncData} {fs : List Str}
theorem made (T : ExT prog K C fI cc cda fd fs) {s : Shared} {us : List Value} {mg mb : Str → Option Value} (hfs : fs ≠ []) (hz : fs.length ≤ 800) (hl : us.length = fs.length) (X : K.In s.heap) (hlim : s.heap.NoLimit) (G : s.heap.Ns mainGlobals mg) (hms : mg "super" = none) (B : s.heap.Ns builtinsNs mb) (hbs : mb "super" = some (.type "super"))
    (hroom : A.depth + 1 < recursionLimit)
    (hq : ∀ h' tk e d t1, (∀ b o, s.heap.get? b = some o → h'.get? b = some o) → s.heap.objs.size ≤ e → h'.get? e = some (exO C (some d) t1) → s.heap.objs.size ≤ d → d ≠ e → h'.Ns1 d (putAll (fs.zip us) fun _ => none) → R (.ok (.ret (.ref e))) { s with heap := h', toks := tk }) :
    codeAny (model prog w) A (.call (.ref C) ⟨us, []⟩) R s := by
  obtain ⟨nm, q, N, bs, bm, sn, sub, ab, col, dd, k0, k1, k2, k3, k5, hC, hbm⟩ := T.cls
  obtain ⟨hp, g, dr, tk, os⟩ := s
  have k : ∀ b o, hp.get? b = some o → ((hp.push (kdv_tup us)).push (excO C hp.objs.size)).get? b = some o := fun b o e => Heap.get?_push_of_some _ (Heap.get?_push_of_some _ e)
  have hget : ((hp.push (kdv_tup us)).push (excO C hp.objs.size)).get? (hp.objs.size + 1) = some (excO C hp.objs.size) := by heap_get
  have hnx : ∀ o, K.lookup (hp.objs.size + 1) ≠ some o := fun o z => by
    have y : hp.get? (hp.objs.size + 1) = some o := X _ _ z
    exact absurd (Nat.lt_of_succ_lt (Heap.lt_size y)) (Nat.lt_irrefl _)
  refine call_own F.excBase_ValueError (fun X => refsVE_contains X bm hbm) (X _ _ hC) (looks_findIn X T.iC) (fun self => bind_fn X self T.tI) (by rw [sizeLine_eq]; omega) ?_
  refine init_run (s := ⟨(hp.push (kdv_tup us)).push (excO C hp.objs.size), g, dr, tk, os⟩) T hfs hz hl (X.keeps k) (hlim.keeps k) (G.keeps k) hms (B.keeps k) hbs hget hnx ?_ fun h' tk' dx t1 k' hx dn dne hns => ?_
  · show A.depth + 1 < recursionLimit
    exact hroom
  · have old : ∀ b o, hp.get? b = some o → h'.get? b = some o := fun b o e => k' b o (Nat.ne_of_lt (Nat.lt_succ_of_lt (Heap.lt_size e))) (k b o e)
    have z : hp.objs.size + 1 + 1 ≤ dx := by
      first
        | (simpa only [Heap.size_push] using dn)
        | exact dn
        | (have q := dn; rw [Heap.size_push, Heap.size_push] at q; exact q)
    exact ⟨rfl, hq h' tk' (hp.objs.size + 1) dx t1 old (Nat.le_succ _) hx (Nat.le_trans (Nat.le_trans (Nat.le_succ _) (Nat.le_succ _)) z) dne hns⟩
end
end S3X
end PySem
namespace L2
open PySem PySem.Spec PyProof.Rows PySem.S3X
theorem zip_lookup_none : ∀ {fs : List Str} {vs : List V} {f : Str}, f ∉ fs → (fs.zip vs).lookup f = none
  | [], _, _, _ => rfl
  | _ :: _, [], _, _ => rfl
  | g :: fs, v :: vs, f, h => by
    rw [List.zip_cons_cons, lookup_put, if_neg (fun e => h (by rw [e]; exact List.mem_cons_self))]
    exact zip_lookup_none fun z => h (List.mem_cons_of_mem _ z)
theorem relO_zip : ∀ {fs : List Str} {vs : List V} {us : List Value} {m0 : Str → Option Value}, fs.Nodup → Vals vs us → us.length = fs.length → ∀ f, (f ∉ fs → RelO none (m0 f)) → RelO ((fs.zip vs).lookup f) (putAll (fs.zip us) m0 f)
  | [], _, _, _, _, _, _, f, h => h (by simp)
  | g :: fs, _, _, _, _, .nil, hl, _, _ => by cases hl
  | g :: fs, v :: vs, u :: us, m0, nd, .cons r rr, hl, f, h => by
    rw [List.nodup_cons] at nd
    rw [List.zip_cons_cons, lookup_put, List.zip_cons_cons]
    show RelO _ (putAll (fs.zip us) (fun y => if y = g then some u else m0 y) f)
    by_cases e : f = g
    · subst e
      rw [if_pos rfl]
      have : ∀ {l : List (Str × Value)} {m : Str → Option Value}, f ∉ l.map (·.1) → putAll l m f = m f := fun {l} => by
        induction l with
        | nil => intro m _; rfl
        | cons p l ih =>
          intro m hn
          obtain ⟨a, b⟩ := p
          show putAll l _ f = _
          rw [ih fun z => hn (List.mem_cons_of_mem _ z), if_neg fun e => hn (by rw [e]; exact List.mem_cons_self)]
      rw [this (by rw [keys_zip (Nat.succ.inj hl)]; exact nd.1), if_pos rfl]
      exact r
    · rw [if_neg e]
      refine relO_zip nd.2 rr (Nat.succ.inj hl) f fun hn => ?_
      rw [if_neg e]
      exact h fun z => (List.mem_cons.mp z).elim e hn
section
variable {X : Cx} {C fI cc cda : Addr} {fd : FuncData} {fs : List Str} {e : Expr} {es : List Expr} {ta : TA} {p pos : Pos} {x : Str}
/-- C(e, ..) -/
def tMkX (C : Addr) (fs : List Str) (ta : TA) : St → Hp → XK → Prop := fun σ H Q => ta σ H fun vs H1 => vs.length = fs.length ∧ ∀ d, H1 d = none → Q (.ref C) (some d) (upd H1 d (.xd (fs.zip vs)))
theorem pmk_x {k : Nat} (T : ExT X.prog X.K C fI cc cda fd fs) (hfs : fs ≠ []) (hz : fs.length ≤ 800) (hnd : fs.Nodup) (hms : X.mg "super" = none) (hr : Room k X.A) (ha : PA X (e :: es) ta) (hg : Gl X x) (hm : X.mg x = some (.ref C))
    (hdb : (x == ("__debug__" : Str)) = false := by decide) (he : starEach (e :: es) X.env = (false, eval e X.env) :: starEach es X.env := by rfl) (hpl : (backTo pos (starEach es X.env)).any (·.1) = false := by rfl) :
    PMk X (.Call (.Name x p) (e :: es) [] pos) (tMkX C fs ta) := by
  intro pins s σ H Q I h
  refine wpAny_Call_Name_kw (ld_glob I hg hm ?_ hdb)
  refine PySem.W.callWith_K (h₀ := X.base) I.ok.mod.kin T.kC (thn (ha.run pos pins s σ H _ I h) fun us s1 hh => ?_) he hpl
  obtain ⟨vs, H1, I1, r1, hl, q1⟩ := hh
  refine ⟨I1.kIn, ?_⟩
  show wpAny _ _ (call (.ref C) us) _ _ _
  have hlim := I1.nolimit
  have hlu : us.length = fs.length := by rw [← r1.length]; exact hl
  obtain ⟨mb, h1, h2⟩ := I1.mod.blt
  have G := I1.mod.glob.keeps I1.bk
  have B := h1.keeps I1.bk
  obtain ⟨hp, g, dr, tk, os⟩ := s1
  refine wpAny_call (made T hfs hz hlu I1.kIn hlim G hms B ((h2 _ (by decide)).trans rfl) (by have := hr.dp; omega) fun h' tk' e d t1 kk hne hoe hnd' dne hns => ?_)
  show MkP X pins σ Q (.ref e) ⟨h', g, dr, tk', os⟩
  obtain ⟨G', g1, g2⟩ := restrict h' fun b => decide (b ≠ e)
  have gk : ∀ b, b ≠ e → G'.get? b = h'.get? b := fun b hb => g1 b (decide_eq_true hb)
  have ge : G'.get? e = none := g2 e (by simp)
  have old : ∀ b o, hp.get? b = some o → G'.get? b = some o := fun b o q => (gk b (Nat.ne_of_lt (Nat.lt_of_lt_of_le (Heap.lt_size q) hne))).trans (kk b o q)
  have ob : ObjOk X.prog X.w (upd H1 d (.xd (fs.zip vs))) G' d (.xd (fs.zip vs)) :=
    ⟨_, hns.at (fun o q => (gk d dne).trans q), fun f => relO_zip hnd r1 hlu f fun _ => True.intro⟩
  have J : Inv X pins σ (upd H1 d (.xd (fs.zip vs))) ⟨G', g, dr, tk', os⟩ := I1.laid (t' := tk') old hnd' ob
  refine ⟨e, exO C (some d) t1, _, ⟨G', g, dr, tk', os⟩, _, .ref C, some d, rfl, J, fun b o q => ?_, ge, hoe, ⟨rfl, rfl⟩, rfl, rfl, ?_, rfl, I1.bare, raises_own T.exC T.tyC, q1 d (I1.hok.fresh hnd')⟩
  · by_cases hb : b = e
    · have q' : G'.get? b = some o := q
      rw [hb, ge] at q'; cases q'
    · exact (gk b hb).symm.trans q
  · rw [upd_ne (Ne.symm dne)]
    exact I1.hok.fresh hne
end
end L2

/-! E5: raise C(..), try: .. except D as n: .. -/
namespace S3
open PySem PySem.Spec L2
/-- raise C(..): the class's name, its fields -/
def sRaise (c : Str) (fs : List Str) (a : AV) : SV := fun e => match a e with
  | .ok rs e1 => (match fzs rs with
    | some ds => if ds.length = fs.length then .ex ⟨c, fs.zip ds⟩ e1 else .no
    | none => .no)
  | .ex x e1 => .ex x e1
  | .no => .no
def wipeAll (e : Env) : Env := e.map fun _ => .no
/-- no exception in it, no object -/
def xfree : Nat → D → Bool
  | _, .non => true | _, .bl _ => true | _, .int _ => true | _, .str _ => true
  | n + 1, .lst xs => xs.all (xfree n)
  | n + 1, .tup xs => xs.all (xfree n)
  | _, _ => false
/-- try: b except C as (slot i): h; behind the suite no slot is known -/
def sTry (sub : Str → Bool) (i : Nat) (b h : SV) : SV := fun e => match b e with
  | .ex x e1 => if sub x.c then (match h (e1.set i (.fz (.xn x.c x.fs))) with
      | .nx e2 => .nx (wipeAll e2)
      | .rt (.fz d) e2 => if xfree 6 d then .rt (.fz d) (wipeAll e2) else .no
      | _ => .no) else .ex x e1
  | r => r
/-- n.f, isinstance(n, C) of a caught exception -/
def opXf (f : Str) : D → Option RV
  | .xn _ fs => (fs.lookup f).map .fz
  | _ => none
def opXis (sub : Str → Bool) : D → Option RV
  | .xn c _ => some (.fz (.bl (sub c)))
  | _ => none
def nokey (c : Str) : Prop := c ≠ "" ∧ c ≠ " " ∧ c ≠ "  "
/-- the classes' places with the exception's own -/
def caX (ca : Str → Option Addr) (a : Addr) (cls : Value) (d : Option Addr) : Str → Option Addr := fun s =>
  if s = "" then some a else if s = " " then d else if s = "  " then (match cls with | .ref C => some C | _ => none) else ca s
theorem caX_up {ca : Str → Option Addr} {a : Addr} {cls : Value} {d : Option Addr} (k : ca "" = none ∧ ca " " = none ∧ ca "  " = none) {c : Str} {C : Addr} (h : ca c = some C) : caX ca a cls d c = some C ∧ nokey c := by
  have h1 : c ≠ "" := fun z => by rw [z, k.1] at h; cases h
  have h2 : c ≠ " " := fun z => by rw [z, k.2.1] at h; cases h
  have h3 : c ≠ "  " := fun z => by rw [z, k.2.2] at h; cases h
  unfold caX
  rw [if_neg h1, if_neg h2, if_neg h3]
  exact ⟨h, h1, h2, h3⟩
theorem caX_a {ca : Str → Option Addr} {a : Addr} {cls : Value} {d : Option Addr} : caX ca a cls d "" = some a := by unfold caX; exact if_pos rfl
theorem caX_d {ca : Str → Option Addr} {a : Addr} {cls : Value} {d : Option Addr} : caX ca a cls d " " = d := by unfold caX; rw [if_neg (by decide)]; exact if_pos rfl
theorem caX_c {ca : Str → Option Addr} {a : Addr} {cls : Value} {d : Option Addr} : caX ca a cls d "  " = (match cls with | .ref C => some C | _ => none) := by unfold caX; rw [if_neg (by decide), if_neg (by decide)]; exact if_pos rfl
theorem caX_r {ca : Str → Option Addr} {a C : Addr} {d : Option Addr} : caX ca a (.ref C) d "  " = some C := caX_c
theorem caX_of {ca : Str → Option Addr} {a : Addr} {cls : Value} {d : Option Addr} {c : Str} {C : Addr} (n : nokey c) (h : caX ca a cls d c = some C) : ca c = some C := by
  unfold caX at h
  rwa [if_neg n.1, if_neg n.2.1, if_neg n.2.2] at h
section
variable {P : Program} {w : World} {K : PySem.W.Frag} {ca ca' : Str → Option Addr} {F H : Hp}
mutual
theorem Rp.up (k : ca "" = none) (u : ∀ c C, ca c = some C → ca' c = some C) : ∀ {v : V} {d : D}, Rp ⟨P, w, K, ca⟩ F v d → Rp ⟨P, w, K, ca'⟩ F v d
  | _, _, .non => .non
  | _, _, .bl b => .bl b
  | _, _, .int i => .int i
  | _, _, .str x h => .str x h
  | _, _, .lst h r => .lst h (RpA.up k u r)
  | _, _, .scr h r => .scr h (RpA.up k u r)
  | _, _, .tup h r => .tup h (RpA.up k u r)
  | _, _, .kt h r => .kt h (RpA.up k u r)
  | _, _, .dk h r => .dk h (RpP.up k u r)
  | _, _, .dt h r => .dt h (RpP.up k u r)
  | _, _, .st h n => .st h n
  | _, _, .obj c h r => .obj (u _ _ c) h (RpP.up k u r)
  | _, _, .xn a b c n h r => by
    have z : ca "" = some _ := a
    rw [k] at z
    cases z
theorem RpA.up (k : ca "" = none) (u : ∀ c C, ca c = some C → ca' c = some C) : ∀ {v : List V} {d : List D}, RpA ⟨P, w, K, ca⟩ F v d → RpA ⟨P, w, K, ca'⟩ F v d
  | _, _, .nil => .nil
  | _, _, .cons h r => .cons (Rp.up k u h) (RpA.up k u r)
theorem RpP.up (k : ca "" = none) (u : ∀ c C, ca c = some C → ca' c = some C) : ∀ {κ : Type} {v : List (κ × V)} {d : List (κ × D)}, RpP ⟨P, w, K, ca⟩ F v d → RpP ⟨P, w, K, ca'⟩ F v d
  | _, _, _, .nil => .nil
  | _, _, _, .cons h r => .cons (Rp.up k u h) (RpP.up k u r)
end
theorem Rp.down : ∀ {n : Nat} {v : V} {d : D}, xfree n d = true → Rp ⟨P, w, K, ca⟩ F v d → Rp ⟨P, w, K, ca'⟩ F v d := by
  have key : ∀ n, (∀ {v : V} {d : D}, xfree n d = true → Rp ⟨P, w, K, ca⟩ F v d → Rp ⟨P, w, K, ca'⟩ F v d) := by
    intro n
    induction n with
    | zero =>
      intro v d h r
      cases d <;> first | (cases h; done) | skip
      · cases r; exact .non
      · cases r; exact .bl _
      · cases r; exact .int _
      · cases r with | str _ z => exact .str _ z
    | succ n ih =>
      intro v d h r
      have all : ∀ {vs : List V} {ds : List D}, ds.all (xfree n) = true → RpA ⟨P, w, K, ca⟩ F vs ds → RpA ⟨P, w, K, ca'⟩ F vs ds := fun {vs ds} => by
        induction ds generalizing vs with
        | nil => intro _ z; cases z; exact .nil
        | cons d ds ih2 =>
          intro hd z
          rw [List.all_cons, Bool.and_eq_true] at hd
          cases z with
          | cons z1 z2 => exact .cons (ih hd.1 z1) (ih2 hd.2 z2)
      cases d <;> first | (cases h; done) | skip
      · cases r; exact .non
      · cases r; exact .bl _
      · cases r; exact .int _
      · cases r with | str _ z => exact .str _ z
      · cases r with | lst k z => exact .lst k (all h z)
      · cases r with | tup k z => exact .tup k (all h z)
  intro n v d h r
  exact key n h r
theorem Top.up (k : ca "" = none) (u : ∀ c C, ca c = some C → ca' c = some C) {a : Addr} {d : D} (h : Top ⟨P, w, K, ca⟩ F H a d) : Top ⟨P, w, K, ca'⟩ F H a d := by
  cases d <;> simp only [Top] at h ⊢
  case lst => obtain ⟨_, h, r⟩ := h; exact ⟨_, h, r.up k u⟩
  case dk => obtain ⟨_, h, r⟩ := h; exact ⟨_, h, r.up k u⟩
  case dt => obtain ⟨_, h, r⟩ := h; exact ⟨_, h, r.up k u⟩
  case st => exact h
  case obj => obtain ⟨_, _, _, c, h, r⟩ := h; exact ⟨_, _, _, u _ _ c, h, r.up k u⟩
theorem SOk.up {N : En} {σ : St} {e : Env} (k : ca "" = none) (u : ∀ c C, ca c = some C → ca' c = some C) (S : SOk ⟨P, w, K, ca⟩ N F H σ e) : SOk ⟨P, w, K, ca'⟩ N F H σ e where
  le := S.le
  f0 := S.f0
  h0 := S.h0
  nf := S.nf
  len := S.len
  slot := fun i s hs => by
    obtain ⟨o, h1, h2⟩ := S.slot i s hs
    refine ⟨o, h1, ?_⟩
    cases s with
    | no => trivial
    | fz d => obtain ⟨v, e, r⟩ := h2; exact ⟨v, e, r.up k u⟩
    | ow d => obtain ⟨b, e, x, y, t⟩ := h2; exact ⟨b, e, x, y, t.up k u⟩
    | bo d =>
      obtain ⟨v, e, r⟩ := h2
      rcases r with r | ⟨b, e2, x, y, z, t⟩
      · exact ⟨v, e, .inl (r.up k u)⟩
      · exact ⟨v, e, .inr ⟨b, e2, x, y, z, t.up k u⟩⟩
    | mu d => obtain ⟨b, e, x, y, t⟩ := h2; exact ⟨b, e, x, y, t.up k u⟩
  sep := fun i j s t b h1 h2 ne o l1 l2 => by
    have lv : ∀ {o : Option V} {s : Sl}, Live ⟨P, w, K, ca'⟩ F o s b → Live ⟨P, w, K, ca⟩ F o s b := fun {o s} l => by
      cases s <;> simp only [Live] at l ⊢
      all_goals first | exact l | exact ⟨l.1, fun r => l.2 (r.up k u)⟩ | exact l.elim
    exact S.sep i j s t b h1 h2 ne o (lv l1) (lv l2)
  mh := S.mh
  mus := S.mus
theorem SOk.wipeAll {N : En} {σ σ' : St} {e : Env} (S : SOk ⟨P, w, K, ca⟩ N F H σ e) (hl : σ'.length = σ.length) : SOk ⟨P, w, K, ca'⟩ N F H σ' (wipeAll e) where
  le := S.le
  f0 := S.f0
  h0 := S.h0
  nf := S.nf
  len := by unfold S3.wipeAll; rw [List.length_map, hl, S.len]
  slot := fun i s hs => by
    unfold S3.wipeAll at hs
    rw [List.getElem?_map, Option.map_eq_some_iff] at hs
    obtain ⟨s0, h1, rfl⟩ := hs
    have : i < σ'.length := by rw [hl, S.len]; exact (List.getElem?_eq_some_iff.mp h1).1
    exact ⟨_, List.getElem?_eq_getElem this, trivial⟩
  sep := fun i j s t b h1 h2 ne o l1 l2 => by
    unfold S3.wipeAll at h1
    rw [List.getElem?_map, Option.map_eq_some_iff] at h1
    obtain ⟨s0, _, rfl⟩ := h1
    cases o
  mh := S.mh
  mus := fun i d h => by
    unfold S3.wipeAll at h
    rw [List.getElem?_map, Option.map_eq_some_iff] at h
    obtain ⟨s0, _, q⟩ := h
    cases q
end
end S3

/-! E6: the rules for raise, try, and for what a suite reads of the exception. -/
namespace S3
open PySem PySem.Spec L2
section
variable {ca : Str → Option Addr} {W : WX} {X : Cx} {e : Expr} {es : List Expr} {fa : AV} {p pos pos2 : Pos} {x : Str}
/-- what is known of a class that is raised -/
structure ClsT (ca : Str → Option Addr) (P : Program) (K : PySem.W.Frag) (mg : Str → Option Value) (c : Str) (fs : List Str) : Prop where
  ex : ∃ C fI cc cda fd, ca c = some C ∧ PySem.S3X.ExT P K C fI cc cda fd fs ∧ mg c = some (.ref C)
theorem rpp_zip : ∀ {Z : Wd} {F : Hp} {fs : List Str} {vs : List V} {ds : List D}, RpA Z F vs ds → RpP Z F (fs.zip vs) (fs.zip ds)
  | _, _, [], _, _, _ => by rw [List.zip_nil_left, List.zip_nil_left]; exact .nil
  | _, _, _ :: _, _, _, .nil => .nil
  | _, _, _ :: _, _, _, .cons h r => .cons h (rpp_zip r)
theorem sv_raise {k : Nat} {fs : List Str} (T : ClsT ca X.prog X.K X.mg x fs) (hms : X.mg "super" = none) (hr : Room k X.A) (tk : Takes X W) (ha : Av ca W X (e :: es) fa) (hfs : fs ≠ [] := by decide) (hz : fs.length ≤ 800 := by decide) (hnd : fs.Nodup := by decide) (hc : X.calm = true := by rfl)
    (hg : Gl X x := by rfl) (hdb : (x == ("__debug__" : Str)) = false := by decide) (he : starEach (e :: es) X.env = (false, eval e X.env) :: starEach es X.env := by rfl) (hpl : (backTo pos (starEach es X.env)).any (·.1) = false := by rfl) :
    Sv ca W X (.Raise (some (.Call (.Name x p) (e :: es) [] pos)) none pos2) (sRaise x fs fa) := by
  obtain ⟨C, fI, cc, cda, fd, hC, T, hm⟩ := T.ex
  refine PS_imp (ps_raise hc tk (pmk_x T hfs hz hnd hms hr ha hg hm hdb he hpl)) fun D σ H h => ?_
  obtain ⟨N, F, e1, S, P⟩ := h
  refine ⟨N, F, e1, S, ?_⟩
  unfold sRaise at P
  cases q : fa e1 with
  | no => rw [q] at P; exact P.elim
  | ex y e2 => rw [q] at P; exact fun cls d F' H' s S' E' => P cls d F' H' σ s S' E'
  | ok rs e2 =>
    rw [q] at P
    dsimp only at P
    intro vs F' H1 s S1 hh
    cases q2 : fzs rs with
    | none => rw [q2] at P; exact P.elim
    | some ds =>
      rw [q2] at P
      dsimp only at P
      by_cases hl : ds.length = fs.length
      · rw [if_pos hl] at P
        have ra := fzs_rd hh q2
        refine ⟨by rw [ra.length]; exact hl, fun d hd => ?_⟩
        have g := Gr.layF (o := .xd (fs.zip vs)) S1.le hd
        refine P (.ref C) (some d) (upd F' d (.xd (fs.zip vs))) _ σ (s.trans g.f) (S1.gr g) ⟨C, hC, rfl, fun z => ?_, fun _ => ⟨d, fs.zip vs, rfl, upd_same, rpp_zip (ra.mono g.f)⟩⟩
        exfalso
        cases fs with
        | nil => exact hfs rfl
        | cons f fs =>
          cases ds with
          | nil => cases hl
          | cons d ds => cases z
      · rw [if_neg hl] at P; exact P.elim
end
section
variable {ca : Str → Option Addr} {W : WX} {X : Cx} {x n : Str} {c : Value} {i : Nat} {body suite : List Stmt} {b₀ : Stmt} {np pos pos' : Pos} {b h : SV}
theorem sv_try {sub : Str → Bool} (i : Nat) (hs : X.stack = X.env :: X.outer) (hf : X.env.frame = some X.env.locals) (hN : X.N.Nodup) (k0 : ca "" = none ∧ ca " " = none ∧ ca "  " = none) (hsub : ∀ m C, ca m = some C → PySem.W.exmOne X.K (.ref C) c = some (sub m)) (hc : Names X x c) (tk : Takes X W)
    (hb : ∀ (W : WX) (pn : List (Addr × Obj)) (xe : Value → Shared → Prop), Takes (X.tr pn xe) W → PassesOwn (model X.prog X.w) X.A X.env xe → Bv ca W (X.tr pn xe) body b)
    (hsu : ∀ (a : Addr) (oe : Obj) (cls : Value) (d : Option Addr) (pn : List (Addr × Obj)), Zc cls d oe → (∃ vs, oe.data = .fields vs) → Bv (caX ca a cls d) (fun _ _ _ _ => False) (X.suite a ((a, oe) :: pn)) (b₀ :: suite) h)
    (hi : X.N[i]? = some n := by rfl) (hln : X.env.kindOf n = some .local := by rfl) :
    Sv ca W X (.Try body [.ExceptHandler (some (.Name x np)) (some n) (b₀ :: suite) pos'] [] [] pos) (sTry sub i b h) := by
  refine PS_imp (ps_try_as (tb := fun W => tSv (zw ca X) W b) (ts := fun a cls d => tSv (zw (caX ca a cls d) X) (fun _ _ _ _ => False) h) hs hf hN hi hln hc tk hb hsu) fun D σ H hh => ?_
  obtain ⟨N, F, e1, S, P⟩ := hh
  refine ⟨N, F, e1, S, ?_⟩
  unfold sTry at P
  cases q : b e1 with
  | no => rw [q] at P; exact P
  | nx e2 => rw [q] at P; exact P
  | rt r e2 => rw [q] at P; exact P
  | bk e2 => rw [q] at P; exact P
  | ct e2 => rw [q] at P; exact P
  | ex y e2 =>
    rw [q] at P
    dsimp only at P
    intro cls d F' H' σ' s S1 E1
    obtain ⟨C, hC, rfl, hd0, hd1⟩ := id E1
    refine ⟨sub y.c, hsub _ _ hC, fun hb1 a na => ?_, fun hb1 => ?_⟩
    · rw [if_pos hb1] at P
      obtain ⟨u, nk⟩ := caX_up (a := a) (cls := .ref C) (d := d) k0 hC
      have up : ∀ m C', ca m = some C' → caX ca a (.ref C) d m = some C' := fun m C' z => (caX_up k0 z).1
      have S2 : SOk (zw (caX ca a (.ref C) d) X) N F' H' σ' e2 := S1.up k0.1 up
      have rx : Rp (zw (caX ca a (.ref C) d) X) F' (.ref a) (.xn y.c y.fs) := by
        by_cases z : y.fs = []
        · rw [z]
          exact .xn (xs := []) (caX_a (ca := ca) (a := a) (cls := .ref C) (d := d)) (caX_r (ca := ca) (a := a) (d := d)) u nk (.inl ⟨rfl, (caX_d (ca := ca) (a := a) (cls := .ref C) (d := d)).trans (hd0 z)⟩) .nil
        · obtain ⟨dd, vs, z1, z2, z3⟩ := hd1 z
          exact .xn (caX_a (ca := ca) (a := a) (cls := .ref C) (d := d)) (caX_r (ca := ca) (a := a) (d := d)) u nk (.inr ⟨dd, (caX_d (ca := ca) (a := a) (cls := .ref C) (d := d)).trans z1, z2⟩) (z3.up k0.1 up)
      refine ⟨N, F', _, S2.set (i := i) rx, ?_⟩
      cases q2 : h (e2.set i (.fz (.xn y.c y.fs))) with
      | no => rw [q2] at P; exact P.elim
      | ex _ _ => rw [q2] at P; exact P.elim
      | bk _ => rw [q2] at P; exact P.elim
      | ct _ => rw [q2] at P; exact P.elim
      | nx e3 =>
        rw [q2] at P
        exact fun F2 H2 σ2 s2 S3' => P F2 H2 (σ2.set i none) (s.trans s2) (S3'.wipeAll (List.length_set ..))
      | rt r e3 =>
        rw [q2] at P
        cases r with
        | nw _ => exact P.elim
        | «at» _ => exact P.elim
        | fz dv =>
          dsimp only at P
          by_cases z : xfree 6 dv = true
          · rw [if_pos z] at P
            exact fun v F2 H2 σ2 s2 S3' R => P v F2 H2 σ2 (s.trans s2) (S3'.wipeAll rfl) (Rp.down z R)
          · rw [if_neg z] at P; exact P.elim
    · have hb1' : ¬ sub y.c = true := by rw [hb1]; decide
      rw [if_neg hb1'] at P
      exact P (.ref C) d F' H' σ' s S1 E1
end
end S3

/-! E7: in an except suite: isinstance(n, C), n.f. -/
namespace S3
open PySem PySem.Spec L2
/-- what is asked of an exception's class -/
structure XcK (K : PySem.W.Frag) (C : Addr) (fs : List Str) : Prop where
  cl : (PySem.W.clsIn K C).isSome = true
  ga : PySem.W.findIn K (.ref C) "__getattribute__" = some (some (.builtin "BaseException.__getattribute__"))
  gt : PySem.W.findIn K (.ref C) "__getattr__" = some none
  sb : PySem.W.subIn K (.ref C) (.type "BaseException") = some true
  ha : PySem.W.findIn K (.ref C) "__class__" = some (some (.builtin "object.__class__"))
  hn : PySem.W.specialIn K (.builtin "object.__class__") "__get__" = some (some (.builtin "getset_descriptor.__get__"))
  ht : PySem.W.takesIn K (.builtin "object.__class__") = some true
  hm : PySem.W.mroIn K C (.type "object") = some true
  hd : PySem.W.hasDictIn K C = true
  no : ∀ f ∈ fs, PySem.W.findIn K (.ref C) f = some none
section
variable {X : Cx} {a : Addr} {oe : Obj} {cls : Value} {d : Option Addr} {pn : List (Addr × Obj)}
/-- the exception as an instance -/
theorem inst_at {pins : List (Addr × Obj)} {σ : L2.St} {H : Hp} {s : Shared} {C : Addr} (hz : Zc (.ref C) d oe) (hf : ∃ vs, oe.data = .fields vs) (I : Inv (X.suite a ((a, oe) :: pn)) pins σ H s) (hd : d = none ∨ ∃ dd vs, d = some dd ∧ H dd = some (.xd vs)) : ∃ od, PySem.W.InstAt s.heap a oe C od := by
  obtain ⟨hget, _⟩ := I.pin (a, oe) (List.mem_append_left _ List.mem_cons_self)
  obtain ⟨vs, hv⟩ := hf
  rcases hd with rfl | ⟨dd, ws, rfl, hdd⟩
  · exact ⟨none, hget, hz.1, by unfold PySem.W.notCls; rw [hv] <;> rfl, by rw [hz.2]; trivial⟩
  · have hx : ObjOk X.prog X.w H s.heap dd (.xd ws) := I.hok dd _ hdd
    obtain ⟨mA, hns, hr⟩ := hx
    obtain ⟨od, ho, hl⟩ := lookIn_ns hns
    exact ⟨some od, hget, hz.1, by unfold PySem.W.notCls; rw [hv] <;> rfl, by rw [hz.2]; exact ho⟩
def rXis (K : PySem.W.Frag) (a : Addr) (cls : Value) (d : Option Addr) (cv : Value) (fs : List Str) : List V → Hp → VK → Prop := fun xs H Q => ∃ c C b, xs = [.ref a, c] ∧ (∀ u, RelV c u → u = cv) ∧ cls = .ref C ∧ XcK K C fs ∧ (d = none ∨ ∃ dd vs, d = some dd ∧ H dd = some (.xd vs)) ∧ PySem.W.kitOne K (.ref C) cv = some b ∧ Q (.bl b) H
theorem call_xis (hz : Zc cls d oe) (hf : ∃ vs, oe.data = .fields vs) {cv : Value} {fs : List Str} : CallR (X.suite a ((a, oe) :: pn)) (.builtin "isinstance") (rXis X.K a cls d cv fs) := by
  intro pins s σ H xs us Q I r h
  obtain ⟨c, C, b, rfl, hcv, rfl, T, hd, e, q⟩ := h
  cases r with
  | cons rx rr =>
    cases rr with
    | cons rt rr =>
      cases rr
      cases rx
      have ec := hcv _ rt
      subst ec
      obtain ⟨od, J⟩ := inst_at hz hf I hd
      exact PySem.W.kia_one (PySem.W.kitx_exc T.cl T.ga T.gt T.sb T.ha T.hn T.ht T.hm) I.kIn J e (fun z => nomatch z) fun tk => ⟨.bl b, H, I.kept (t' := tk) fun _ _ z => z, rfl, q⟩
end
theorem RpP.lookF {Z : Wd} {F : Hp} : ∀ {xs : List (Str × V)} {ds : List (Str × D)} {f : Str} {y : D}, RpP Z F xs ds → ds.lookup f = some y → ∃ v, xs.lookup f = some v ∧ Rp Z F v y
  | [], _, _, _, h, q => by cases h; cases q
  | (k, v) :: xs, _, f, y, h, q => by
    cases h with
    | cons h r =>
      rw [List.lookup_cons] at q ⊢
      split at q
      · cases q; exact ⟨v, rfl, h⟩
      · exact RpP.lookF r q
section
variable {ca : Str → Option Addr} {W : WX} {X : Cx} {a : Addr} {oe : Obj} {cls : Value} {d : Option Addr} {pn : List (Addr × Obj)} {e : Expr} {fe : EV} {p p2 pos : Pos} {fs : List Str}
/-- what a frozen exception stands for -/
theorem xn_of {F H : Hp} {x : V} {c : Str} {ds : List (Str × D)} (l : Same F H) (h : RdV (zw (caX ca a cls d) (X.suite a ((a, oe) :: pn))) F H x (.xn c ds)) :
    ∃ C xs, x = .ref a ∧ cls = .ref C ∧ ca c = some C ∧ ((ds = [] ∧ d = none) ∨ ∃ dd, d = some dd ∧ F dd = some (.xd xs)) ∧ RpP (zw (caX ca a cls d) (X.suite a ((a, oe) :: pn))) F xs ds := by
  rcases h with h | ⟨_, _, _, t⟩
  · cases h with
    | xn h1 h2 h3 nk h4 r =>
      have e1 : caX ca a cls d "" = some _ := h1
      rw [caX_a] at e1
      cases e1
      have e2 : caX ca a cls d "  " = some _ := h2
      rw [caX_c] at e2
      have e3 : ca c = some _ := caX_of nk h3
      have hd' := h4.imp (fun (z : _ ∧ _) => And.intro z.1 ((caX_d (ca := ca) (a := a) (cls := cls) (d := d)).symm.trans z.2)) fun ⟨dd, x, y⟩ => (⟨dd, (caX_d (ca := ca) (a := a) (cls := cls) (d := d)).symm.trans x, y⟩ : ∃ dd, d = some dd ∧ F dd = some (HO.xd _))
      cases cls <;> try (cases e2; done)
      cases e2
      exact ⟨_, _, rfl, rfl, e3, hd', r⟩
  · exact t.elim
theorem s_xis {sub : Str → Bool} {vv : V} {cv : Value} (T : ∀ m C, ca m = some C → XcK X.K C fs ∧ PySem.W.kitOne X.K (.ref C) cv = some (sub m)) (hr : ∀ u, RelV vv u → u = cv) :
    Sound1 (zw (caX ca a cls d) (X.suite a ((a, oe) :: pn))) (fun x => rXis X.K a cls d cv fs [x, vv]) (opXis sub) := by
  intro F H x dx rr Q l hx ho q
  cases dx <;> simp only [opXis] at ho <;> cases ho
  obtain ⟨C, xs, rfl, rfl, hc, hd, r⟩ := xn_of l hx
  obtain ⟨T1, T2⟩ := T _ _ hc
  refine ⟨vv, C, _, rfl, hr, rfl, T1, ?_, T2, fin_bl l q⟩
  rcases hd with ⟨_, z⟩ | ⟨dd, z, y⟩
  · exact .inl z
  · exact .inr ⟨dd, xs, z, l _ _ y⟩
/-- isinstance(n, C) -/
theorem ev_xis {sub : Str → Bool} {n : Str} {vv : V} {cv : Value} (hz : Zc cls d oe) (hf : ∃ vs, oe.data = .fields vs) (T : ∀ m C, ca m = some C → XcK X.K C fs ∧ PySem.W.kitOne X.K (.ref C) cv = some (sub m))
    (hv : PE (X.suite a ((a, oe) :: pn)) (.Name n p2) (tC vv)) (hr : ∀ u, RelV vv u → u = cv) (hm : X.mg "isinstance" = none) (he : Ev (caX ca a cls d) W (X.suite a ((a, oe) :: pn)) e fe) (hg : Gl (X.suite a ((a, oe) :: pn)) "isinstance" := by rfl)
    (hs : starEach [e, .Name n p2] X.env = (false, eval e X.env) :: starEach [.Name n p2] X.env := by rfl) :
    Ev (caX ca a cls d) W (X.suite a ((a, oe) :: pn)) (.Call (.Name "isinstance" p) [e, .Name n p2] [] pos) (eOp1 (opXis sub) fe) :=
  PE_imp (pe_callB (call_xis hz hf) hg hm (by decide +kernel) (pa_cons he (pa_cons hv pa_nil) hs) (by decide) (by decide) hs (by rfl)) fun _ _ _ => one (s_xis (fs := fs) T hr)
/-- n.f -/
def tXf (K : PySem.W.Frag) (a : Addr) (cls : Value) (d : Option Addr) (f : Str) (te : TE) : TE := fun σ H Q => te σ H fun x H1 => ∃ C dd xs v, x = .ref a ∧ cls = .ref C ∧ XcK K C [f] ∧ d = some dd ∧ H1 dd = some (.xd xs) ∧ xs.lookup f = some v ∧ Q v H1
theorem pe_xf {f : Str} {te : TE} (hz : Zc cls d oe) (hf : ∃ vs, oe.data = .fields vs) (he : PE (X.suite a ((a, oe) :: pn)) e te) (hb : attributeBase e f X.env (eval e X.env) = eval e X.env := by rfl) :
    PE (X.suite a ((a, oe) :: pn)) (.Attribute e f pos) (tXf X.K a cls d f te) := by
  refine ⟨fun pins s σ H Q I h => ?_⟩
  refine attr_of hb (thn (he.run pins s σ H _ I h) fun u s1 hh => ?_)
  obtain ⟨x, H1, I1, rx, C, dd, xs, v, ex, ec, T, ed, ea, hl, q⟩ := hh
  subst ex
  obtain rfl : u = Value.ref a := rx
  subst ec
  subst ed
  obtain ⟨ha, _⟩ := I1.pin (a, oe) (List.mem_append_left _ List.mem_cons_self)
  obtain ⟨vs, hdt⟩ := hf
  have hx : ObjOk X.prog X.w H1 s1.heap dd (.xd xs) := I1.hok dd _ ea
  obtain ⟨mA, hns, hr⟩ := hx
  obtain ⟨od, ho, hlk⟩ := lookIn_ns hns
  obtain ⟨u, hu, ru⟩ := RelO.some_of (v := v) (o := mA f) (by rw [← hl]; exact hr f)
  have J : PySem.W.InstAt s1.heap a oe C (some od) := ⟨ha, hz.1, by unfold PySem.W.notCls; rw [hdt] <;> rfl, by rw [hz.2]; exact ho⟩
  exact PySem.HandSPX.exc_get I1.kIn J T.ga T.gt T.sb (PySem.W.findObj_own T.hd (T.no f (by simp)) rfl (by rw [hlk, hu])) (handed_of ru) ⟨v, H1, I1.tok _, ru, q⟩
theorem ev_xf {f : Str} (hz : Zc cls d oe) (hf : ∃ vs, oe.data = .fields vs) (T : ∀ m C, ca m = some C → XcK X.K C [f]) (he : Ev (caX ca a cls d) W (X.suite a ((a, oe) :: pn)) e fe) (hb : attributeBase e f X.env (eval e X.env) = eval e X.env := by rfl) :
    Ev (caX ca a cls d) W (X.suite a ((a, oe) :: pn)) (.Attribute e f pos) (eOp1 (opXf f) fe) := by
  refine PE_imp (pe_xf hz hf he hb) fun σ H Q h => ?_
  refine one (r := fun x H1 Q => ∃ C dd xs v, x = .ref a ∧ cls = .ref C ∧ XcK X.K C [f] ∧ d = some dd ∧ H1 dd = some (.xd xs) ∧ xs.lookup f = some v ∧ Q v H1) ?_ h
  intro F H x dx rr Q l hx ho q
  cases dx <;> simp only [opXf] at ho <;> try (cases ho; done)
  rw [Option.map_eq_some_iff] at ho
  obtain ⟨y, hy, rfl⟩ := ho
  obtain ⟨C, xs, rfl, rfl, hc, hd, r⟩ := xn_of l hx
  rcases hd with ⟨z, _⟩ | ⟨dd, z, z2⟩
  · rw [z] at hy; cases hy
  · obtain ⟨v, h1, h2⟩ := RpP.lookF r hy
    exact ⟨C, dd, xs, v, rfl, rfl, T _ _ hc, z, l _ _ z2, h1, fin_fz l q h2⟩
end
end S3

/-! F1: match over a tuple: cases of a head word or several and names behind it. -/
namespace S3
open PySem PySem.Spec L2
def hitL : List Str → D → Option Bool
  | [], _ => some false
  | l :: ls, h => match dEq h (.str l) with
    | some true => some true
    | some false => hitL ls h
    | none => none
def mGo : List (List Str × List Nat × SV) → List D → SV
  | [], _, e => .nx e
  | (ls, is, b) :: cs, ds, e => if ds.length = is.length + 1 then (match ds with
      | h :: rest => (match hitL ls h with
        | some true => (match setAll is rest e with
          | some e1 => b e1
          | none => .no)
        | some false => mGo cs ds e
        | none => .no)
      | [] => .no) else mGo cs ds e
def sMatch (f : EV) (cs : List (List Str × List Nat × SV)) : SV := sE f fun r e => match rd r e with
  | some (.tup ds) => mGo cs ds e
  | _ => .no
inductive LitPats : List Pattern → List Str → Prop
  | nil : LitPats [] []
  | cons {l : Str} {j : Nat} {p q : Pos} {ps : List Pattern} {ls : List Str} : LitPats ps ls → LitPats (.MatchValue (.Constant (.str l) j p) q :: ps) (l :: ls)
inductive HeadPat : Pattern → List Str → Prop
  | one {l : Str} {j : Nat} {p q : Pos} : HeadPat (.MatchValue (.Constant (.str l) j p) q) [l]
  | or {l : Str} {j : Nat} {p q q2 : Pos} {ps : List Pattern} {ls : List Str} : LitPats ps ls → HeadPat (.MatchOr (.MatchValue (.Constant (.str l) j p) q :: ps) q2) (l :: ls)
inductive CapPats (X : Cx) : List Pattern → List Nat → List Str → Prop
  | nil : CapPats X [] [] []
  | cons {n : Str} {q : Pos} {i : Nat} {ps : List Pattern} {is : List Nat} {ns : List Str} : X.N[i]? = some n → X.env.scope.names.lookup n = some .local → CapPats X ps is ns → CapPats X (.MatchAs none (some n) q :: ps) (i :: is) (n :: ns)
section
variable {ca : Str → Option Addr} {W : WX} {X : Cx}
inductive CasesOk (ca : Str → Option Addr) (W : WX) (X : Cx) : List MatchCase → List (List Str × List Nat × SV) → Prop
  | nil : CasesOk ca W X [] []
  | cons {p0 : Pattern} {ps : List Pattern} {pos : Pos} {body : List Stmt} {rest : List MatchCase} {ls : List Str} {is : List Nat} {ns : List Str} {b : SV} {cs : List (List Str × List Nat × SV)} : HeadPat p0 ls → CapPats X ps is ns → Bv ca W X body b → CasesOk ca W X rest cs →
      CasesOk ca W X (⟨.MatchSequence (p0 :: ps) pos, none, body⟩ :: rest) ((ls, is, b) :: cs)
theorem head_lit (hu : X.A.units + 65 < cLine) {pins : List (Addr × Obj)} {σ : L2.St} {F H : Hp} {s : Shared} {x : V} {u : Value} {d : D} {l : Str} {j : Nat} {p q : Pos} {b : Bool} {Q : Option (List (Str × Value)) → Shared → Prop} (I : Inv X pins σ H s) (r : RelV x u) (le : Same F H) (rx : Rp (zw ca X) F x d) (hb : dEq d (.str l) = some b)
    (hq : ∀ s' F' H', Gr F H F' H' → Inv X pins σ H' s' → Q (if b then some [] else none) s') (hl : sOk l = true) :
    wpAny (model X.prog X.w) X.A (matchPattern (.MatchValue (.Constant (.str l) j p) q) X.env u) Q X.xe s := by
  refine wpAny_matchPattern_Value (Calls.Constant_str ?_)
  have h := s_eq (Z := zw ca X) F H x (.str l) d (.str l) (.fz (.bl b)) (fun v H' => v = .bl b ∧ ∃ F', Gr F H F' H') le (.inl rx) (.inl (.str l hl)) (by unfold opEq; rw [hb]; rfl) (fun v F' H' g n => by cases n; exact ⟨rfl, F', g⟩)
  refine wpAny_mono (op_eqD (by omega) pins _ σ H x (.str l) u _ _ (I.tok _) r ⟨_, rfl⟩ h) (fun c s2 hc => ?_) fun _ _ z => z
  obtain ⟨v, H', I', rv, rfl, F', g⟩ := hc
  cases rv
  refine wpAny_truthy_bool ?_
  cases b
  · exact hq _ _ _ g I'
  · exact hq _ _ _ g I'
theorem first_lits (hu : X.A.units + 65 < cLine) {pins : List (Addr × Obj)} {σ : L2.St} {x : V} {u : Value} {d : D} {ps : List Pattern} {ls : List Str} (hp : LitPats ps ls) : ∀ {F H : Hp} {s : Shared} {b : Bool} {Q : Option (List (Str × Value)) → Shared → Prop}, Inv X pins σ H s → RelV x u → Same F H → Rp (zw ca X) F x d → hitL ls d = some b → (ls.all sOk = true) →
    (∀ s' F' H', Gr F H F' H' → Inv X pins σ H' s' → Q (if b then some [] else none) s') → wpAny (model X.prog X.w) X.A (matchFirst ps X.env u) Q X.xe s := by
  induction hp with
  | nil =>
    intro F H s b Q I r le rx hb _ hq
    cases hb
    exact wpAny_matchFirst_nil (hq _ _ _ (Gr.refl le) I)
  | @cons l j p q ps ls hp ih =>
    intro F H s b Q I r le rx hb hk hq
    rw [List.all_cons, Bool.and_eq_true] at hk
    unfold hitL at hb
    cases q1 : dEq d (.str l) with
    | none => rw [q1] at hb; cases hb
    | some b1 =>
      rw [q1] at hb
      refine wpAny_matchFirst_cons (head_lit hu I r le rx q1 (fun s1 F1 H1 g1 I1 => ?_) hk.1)
      cases b1 with
      | true => cases hb; exact hq _ _ _ g1 I1
      | false => exact ih I1 r g1.le (rx.mono g1.f) hb hk.2 fun s2 F2 H2 g2 I2 => hq _ _ _ (g1.trans g2) I2
theorem head_ok (hu : X.A.units + 65 < cLine) {pins : List (Addr × Obj)} {σ : L2.St} {x : V} {u : Value} {d : D} {p0 : Pattern} {ls : List Str} (hp : HeadPat p0 ls) {F H : Hp} {s : Shared} {b : Bool} {Q : Option (List (Str × Value)) → Shared → Prop} (I : Inv X pins σ H s) (r : RelV x u) (le : Same F H) (rx : Rp (zw ca X) F x d) (hb : hitL ls d = some b) (hk : ls.all sOk = true)
    (hq : ∀ s' F' H', Gr F H F' H' → Inv X pins σ H' s' → Q (if b then some [] else none) s') : wpAny (model X.prog X.w) X.A (matchPattern p0 X.env u) Q X.xe s := by
  cases hp with
  | one =>
    unfold hitL at hb
    rw [List.all_cons, Bool.and_eq_true] at hk
    rename_i l j p q
    cases q1 : dEq d (.str l) with
    | none => rw [q1] at hb; cases hb
    | some b1 =>
      rw [q1] at hb
      refine head_lit hu I r le rx q1 (fun s1 F1 H1 g1 I1 => ?_) hk.1
      cases b1 with
      | true => cases hb; exact hq _ _ _ g1 I1
      | false => cases hb; exact hq _ _ _ g1 I1
  | or hl =>
    refine wpAny_matchPattern_Or (first_lits hu (LitPats.cons hl) I r le rx hb hk fun s1 F1 H1 g1 I1 => ?_)
    cases b with
    | true => exact hq _ _ _ g1 I1
    | false => exact hq _ _ _ g1 I1
theorem cap_each {ps : List Pattern} {is : List Nat} {ns : List Str} (hp : CapPats X ps is ns) {M : Model} {A : Around} {E : Value → Shared → Prop} : ∀ {vs : List Value} {s : Shared} {Q : Option (List (Str × Value)) → Shared → Prop}, vs.length = ps.length → Q (some (ns.zip vs)) s → wpAny M A (matchEach ps X.env vs) Q E s := by
  induction hp with
  | nil =>
    intro vs s Q hl hq
    cases vs with
    | nil => exact wpAny_matchEach_nil hq
    | cons _ _ => cases hl
  | cons hi hn hp ih =>
    intro vs s Q hl hq
    cases vs with
    | nil => cases hl
    | cons v vs =>
      refine wpAny_matchEach_cons (wpAny_matchPattern_Capture (ih (Nat.succ.inj hl) ?_))
      exact hq
theorem cap_store (hN : X.N.Nodup) {pins : List (Addr × Obj)} {N : En} {F H : Hp} {ps : List Pattern} {is : List Nat} {ns : List Str} (hp : CapPats X ps is ns) : ∀ {xs : List V} {vs : List Value} {ds : List D} {σ : L2.St} {e e1 : Env} {s : Shared} {Q : Unit → Shared → Prop}, Vals xs vs → RpA (zw ca X) F xs ds → setAll is ds e = some e1 → Inv X pins σ H s → SOk (zw ca X) N F H σ e →
    (∀ σ' s', Inv X pins σ' H s' → SOk (zw ca X) N F H σ' e1 → Q () s') → wpAny (model X.prog X.w) X.A (assignInOrder ((ns.zip vs).map fun (n, _) => bindName X.env n) ((ns.zip vs).map (·.2))) Q X.xe s := by
  induction hp with
  | nil =>
    intro xs vs ds σ e e1 s Q r ra hs I S hq
    cases ds with
    | nil => cases hs; exact wpAny_assignInOrder_none (hq _ _ I S)
    | cons _ _ => cases hs
  | @cons n q i ps is ns hi hn hp ih =>
    intro xs vs ds σ e e1 s Q r ra hs I S hq
    cases ds with
    | nil => cases hs
    | cons d ds =>
      cases ra with
      | cons rx ra =>
        cases r with
        | cons rv r =>
          refine wpAny_assignInOrder_more (wpAny_bindName (store_ok I hN hi (.inl hn) rv (fun s' I' => ?_) (.inr hn)))
          exact ih r ra hs I' (S.set rx) hq
theorem CapPats.len {ps : List Pattern} {is : List Nat} {ns : List Str} (hp : CapPats X ps is ns) : ps.length = is.length ∧ (ps.findIdx? (·.isStar) = none) ∧ (ps.all fun p => !p.isStar) = true := by
  induction hp with
  | nil => exact ⟨rfl, rfl, rfl⟩
  | cons _ _ _ ih => exact ⟨congrArg Nat.succ ih.1, by rw [List.findIdx?_cons, ih.2.1]; rfl, by rw [List.all_cons, ih.2.2]; rfl⟩
theorem HeadPat.nostar {p : Pattern} {ls : List Str} (h : HeadPat p ls) : p.isStar = false ∧ p.isWildcard = false := by cases h <;> exact ⟨rfl, rfl⟩
theorem sv_match {subject : Expr} {f : EV} {cases : List MatchCase} {pos : Pos} {cs : List (List Str × List Nat × SV)} (hu : X.A.units + 65 < cLine) (hN : X.N.Nodup) (hcs : CasesOk ca W X cases cs) (hf : Ev ca W X subject f) (hk : (cs.all fun c => c.1.all sOk) = true := by (simp only [List.all_cons, List.all_nil]; decide +kernel)) (hc : X.calm = true := by rfl) :
    Sv ca W X (.Match subject cases pos) (sMatch f cs) := by
  refine ⟨fun pins s σ H D I h => ?_⟩
  obtain ⟨N, F, e, S, P⟩ := h
  have h1 : tEv (zw ca X) W f σ H (fun x H1 => ∃ F e ds, SOk (zw ca X) N F H1 σ e ∧ RdV (zw ca X) F H1 x (.tup ds) ∧ PostS (zw ca X) N F W D (mGo cs ds e)) := bindS S P fun x F1 H1 e1 r f1 S1 R1 P1 => by
    cases q : S3.rd r e1 with
    | none => rw [q] at P1; exact P1.elim
    | some d =>
      rw [q] at P1
      cases d <;> try (exact P1.elim)
      exact ⟨F1, e1, _, S1, RvOk.rd S1 R1 q, P1⟩
  refine wpAny_Match (thn (hf.run pins s σ H _ I h1) fun u s1 hh => ?_)
  obtain ⟨x, H1, I1, rx, F1, e1, ds, S1, hx, P1⟩ := hh
  obtain ⟨a, xs, rfl, ha, ra⟩ := hx.tup S1.le
  obtain rfl : u = Value.ref a := rx
  clear h1
  have go : ∀ {cases : List MatchCase} {cs : List (List Str × List Nat × SV)}, CasesOk ca W X cases cs → (cs.all fun c => c.1.all sOk) = true → ∀ {s : Shared} {first : Bool} {F H : Hp} {e : Env}, Inv X pins σ H s → SOk (zw ca X) N F H σ e → H a = some (.tup xs) → RpA (zw ca X) F xs ds → PostS (zw ca X) N F W D (mGo cs ds e) →
      wpAny (model X.prog X.w) X.A (matchCases cases X.env (.ref a) first) (SP X pins D) X.xe s := by
    intro cases cs hcs
    induction hcs with
    | nil =>
      intro _ s first F H e I S _ _ P
      exact wpAny_matchCases_nil ⟨σ, H, I, P F H σ (Same.refl _) S⟩
    | @cons p0 ps pos body rest ls is ns b cs hh hp hb hr ih =>
      intro hk s first F H e I S ha ra P
      rw [List.all_cons, Bool.and_eq_true] at hk
      obtain ⟨its, rv, ht, hz⟩ := I.tuple (SqT.of ha)
      have lens : its.length = xs.length := rv.length.symm
      have lenx : xs.length = ds.length := ra.length
      have hsz : xs.length ≤ 16777216 := by rw [sizeLine_eq] at hz; exact hz
      obtain ⟨hpl, hpi, hpw⟩ := hp.len
      have P' := P
      unfold mGo at P'
      refine wpAny_matchCases_cons (wpAny_matchPattern_Sequence (wpAny_collectionFlag (PyProof.Rows.IsTup.typeIs ht) flag_seq_tuple ?_) (by rw [List.findIdx?_cons, hh.nostar.1, hpi]; rfl) (by rw [List.all_cons, hh.nostar.1, hh.nostar.2]; rfl))
      rw [if_pos rfl]
      refine PyProof.Rows.pyLen_tuple ht (by rw [List.size_toArray, lens]; omega) ?_
      by_cases hl : ds.length = is.length + 1
      · rw [if_pos hl] at P'
        have e1 : (((its.toArray.size : Nat) : Int) != (((p0 :: ps).length : Nat) : Int)) = false := by
          rw [List.size_toArray, List.length_cons, hpl, lens, lenx, hl]; simp
        rw [e1, if_neg Bool.false_ne_true]
        have e2 : (p0 :: ps).length = its.toArray.size := by rw [List.size_toArray, List.length_cons, hpl, lens, lenx, hl]
        rw [e2]
        have I2 := (I.tok (s.toks + 1 + 1))
        refine PyProof.Rows.unpackItems_tuple (I.ok.hd hc) ht fun h' hx' => ?_
        have I3 : Inv X pins σ H { s with heap := h', toks := s.toks + 1 + 1 } := I.kept (t' := s.toks + 1 + 1) fun b o q => hx' b o (Nat.ne_of_lt (Heap.lt_size q)) q
        rw [List.toList_toArray]
        cases ds with
        | nil => cases hl
        | cons d ds =>
          cases ra with
          | cons rx ra =>
            cases rv with
            | cons r1 rv =>
              rename_i v1 vs1 u1 us1
              dsimp only at P'
              cases q : hitL ls d with
              | none => rw [q] at P'; exact P'.elim
              | some hb1 =>
                rw [q] at P'
                refine wpAny_matchEach_cons (head_ok hu hh I3 r1 S.le rx q hk.1 fun s4 F4 H4 g4 I4 => ?_) hh.nostar.1
                cases hb1 with
                | false =>
                  exact ih hk.2 I4 (S.gr g4) (g4.h _ _ ha) (RpA.mono g4.f (.cons rx ra)) (PostS.shift P' g4.f)
                | true =>
                  dsimp only at P'
                  refine cap_each hp (by have := rv.length; have := ra.length; rw [hpl]; rw [List.length_cons] at hl; omega) ?_
                  cases q2 : setAll is ds e with
                  | none => rw [q2] at P'; exact P'.elim
                  | some e5 =>
                    rw [q2] at P'
                    refine cap_store hN hp rv (RpA.mono g4.f ra) q2 I4 (S.gr g4) fun σ5 s5 I5 S5 => ?_
                    exact hb.run pins s5 σ5 H4 D I5 ⟨N, F4, e5, S5, PostS.shift P' g4.f⟩
      · rw [if_neg hl] at P'
        have e1 : (((its.toArray.size : Nat) : Int) != (((p0 :: ps).length : Nat) : Int)) = true := by
          rw [List.size_toArray, List.length_cons, hpl, lens, lenx]; simp; omega
        rw [e1, if_pos rfl]
        exact ih hk.2 (I.tok _) S ha ra P'
  exact go hcs hk I1 S1 ha ra P1
end
end S3

/-! F2: sep.join(a), a.split(sep), sep a written text. -/
namespace S3
open PySem PySem.Spec L2
def txtsOf : List D → Option (List Str)
  | [] => some []
  | .str x :: r => (txtsOf r).map (x :: ·)
  | _ :: _ => none
def joinOk (a : Str) (ys : List Str) : Option RV := if (ys.map (·.length)).sum + ys.length * a.length ≤ 16777216 then some (.fz (.str (Str.join a ys))) else none
def opJoin (a : Str) : D → Option RV
  | .lst xs => (txtsOf xs).bind (joinOk a)
  | .tup xs => (txtsOf xs).bind (joinOk a)
  | _ => none
/-- the parts of a split, as a list -/
def opSplit (b : Str) : D → Option RV
  | .str a => if a.length + 2 ≤ 16777216 ∧ (b.length == 0) = false then some (.nw (.lst ((Txt.split a b).map .str))) else none
  | _ => none
section
variable {Z : Wd} {F H : Hp}
theorem txtsOf_rd : ∀ {vs : List V} {ds : List D} {ys : List Str}, RpA Z F vs ds → txtsOf ds = some ys → vs = ys.map V.str ∧ ys.all sOk = true
  | _, _, _, .nil, h => by cases h; exact ⟨rfl, rfl⟩
  | _, d :: ds, ys, .cons r ra, h => by
    cases d <;> simp only [txtsOf] at h <;> try (cases h; done)
    rw [Option.map_eq_some_iff] at h
    obtain ⟨zs, h1, rfl⟩ := h
    obtain ⟨e1, e2⟩ := txtsOf_rd ra h1
    cases r with
    | str x k => exact ⟨by rw [e1]; rfl, by rw [List.all_cons, k, e2]; rfl⟩
theorem app_ok {x y : Str} (h1 : x.cps.all (· < 0x110000) = true) (h2 : y.cps.all (· < 0x110000) = true) : (x ++ y).cps.all (· < 0x110000) = true := by
  show (x.cps ++ y.cps).all _ = true
  rw [Array.all_append, h1, h2]; rfl
theorem join_cps {a : Str} (ha : a.cps.all (· < 0x110000) = true) : ∀ {ys : List Str}, (ys.all fun y => y.cps.all (· < 0x110000)) = true → (Str.join a ys).cps.all (· < 0x110000) = true
  | [], _ => by show (Str.empty).cps.all _ = true; exact Array.all_empty
  | [y], h => by rw [List.all_cons, Bool.and_eq_true] at h; exact h.1
  | y :: z :: r, h => by
    rw [List.all_cons, Bool.and_eq_true] at h
    show (y ++ a ++ Str.join a (z :: r)).cps.all _ = true
    exact app_ok (app_ok h.1 ha) (join_cps ha h.2)
theorem join_len (a : Str) : ∀ ys : List Str, (Str.join a ys).length ≤ (ys.map (·.length)).sum + ys.length * a.length
  | [] => by show (0 : Nat) ≤ _; omega
  | [y] => by show y.length ≤ y.length + 0 + 1 * a.length; omega
  | y :: z :: r => by
    show (y ++ a ++ Str.join a (z :: r)).length ≤ _
    rw [str_len, str_len, List.map_cons, List.sum_cons]
    have := join_len a (z :: r)
    have e : (y :: z :: r).length * a.length = (z :: r).length * a.length + a.length := by rw [List.length_cons, Nat.succ_mul]
    omega
theorem join_sOk {a : Str} {ys : List Str} (ha : sOk a = true) (h : ys.all sOk = true) (hz : (ys.map (·.length)).sum + ys.length * a.length ≤ 16777216) : sOk (Str.join a ys) = true := by
  refine sOk_of (Nat.le_trans (join_len a ys) hz) (join_cps (sOk_cps ha) ?_)
  rw [List.all_eq_true] at h ⊢
  exact fun y hy => sOk_cps (h y hy)
def rJoin (K : PySem.W.Frag) : V → List V → Hp → VK → Prop := fun x xs H Q => ∃ a p, ∃ ys : List Str, x = .str a ∧ xs = [.ref p] ∧ (SqL K H p (ys.map V.str) ∨ SqT K H p (ys.map V.str)) ∧
      (ys.map (·.length)).sum + ys.length * a.length ≤ 16777216 ∧ Q (.str (Txt.join a ys)) H
theorem s_join {a : Str} (ha : sOk a = true) : Sound1 Z (fun y => rJoin Z.K (.str a) [y]) (opJoin a) := by
  intro F H x dx rr Q l hx ho q
  have fin : ∀ {vs : List V} {ds : List D}, RpA Z F vs ds → (txtsOf ds).bind (joinOk a) = some rr → ∃ ys, vs = ys.map V.str ∧ (ys.map (·.length)).sum + ys.length * a.length ≤ 16777216 ∧ Q (.str (Txt.join a ys)) H := fun {vs ds} ra h => by
    rw [Option.bind_eq_some_iff] at h
    obtain ⟨ys, h1, h2⟩ := h
    obtain ⟨e1, e2⟩ := txtsOf_rd ra h1
    unfold joinOk at h2
    split at h2
    · rename_i hz
      cases h2
      exact ⟨ys, e1, hz, by rw [show Txt.join a ys = Str.join a ys from TL.join_eq a ys]; exact fin_fz l q (.str _ (join_sOk ha e2 hz))⟩
    · cases h2
  cases dx <;> simp only [opJoin] at ho <;> try (cases ho; done)
  · obtain ⟨p, vs, rfl, hp, ra⟩ := hx.lst l
    obtain ⟨ys, e, hz, q'⟩ := fin ra ho
    exact ⟨a, p, ys, rfl, rfl, .inl (by rw [← e]; exact SqL.of hp), hz, q'⟩
  · obtain ⟨p, vs, rfl, hp, ra⟩ := hx.tup l
    obtain ⟨ys, e, hz, q'⟩ := fin ra ho
    exact ⟨a, p, ys, rfl, rfl, .inr (by rw [← e]; exact SqT.of hp), hz, q'⟩
end
section
variable {ca : Str → Option Addr} {W : WX} {X : Cx} {e : Expr} {fe : EV} {a : Str} {j : Nat} {p apos pos : Pos}
theorem ev_join (he : Ev ca W X e fe) (hz : sOk a = true := by decide +kernel) (hs : starEach [e] X.env = [(false, eval e X.env)] := by rfl)
    (hbase : attributeBase (.Constant (.str a) j p) "join" X.env (eval (.Constant (.str a) j p) X.env) = eval (.Constant (.str a) j p) X.env := by rfl) (hline : (apos.endLine == pos.line) = true := by rfl) :
    Ev ca W X (.Call (.Attribute (.Constant (.str a) j p) "join" apos) [e] [] pos) (eOp1 (opJoin a) fe) :=
  PE_imp (pe_join pe_str he hs hbase hline) fun _ _ _ h => ⟨⟨a, rfl⟩, one (s_join hz) h⟩
end
end S3

/-! F3: the facts of the classes bundled; the law's end over classes. -/
namespace S3
open PySem PySem.Spec L2
def subs (l : List Str) (m : Str) : Bool := decide (m ∈ l)
/-- classes by their names -/
def caL (l : List (Str × Addr)) (s : Str) : Option Addr := l.lookup s
theorem caL_all {P : Str → Addr → Prop} : ∀ {l : List (Str × Addr)}, (∀ p ∈ l, P p.1 p.2) → ∀ m C, caL l m = some C → P m C
  | [], _, m, C, h => by cases h
  | (n, D) :: l, a, m, C, h => by
    unfold caL at h
    rw [List.lookup_cons] at h
    split at h
    · rename_i e
      cases h
      rw [beq_iff_eq.mp e]
      exact a (n, D) List.mem_cons_self
    · exact caL_all (fun p hp => a p (List.mem_cons_of_mem _ hp)) m C h
structure XsOk (ca : Str → Option Addr) (K : PySem.W.Frag) (fs : List Str) : Prop where
  k0 : ca "" = none ∧ ca " " = none ∧ ca "  " = none
  x : ∀ m C, ca m = some C → XcK K C fs
structure IsOwn (ca : Str → Option Addr) (K : PySem.W.Frag) (mg : Str → Option Value) (n : Str) (sub : Str → Bool) : Prop where
  ex : ∃ C2, mg n = some (.ref C2) ∧ ∀ m C, ca m = some C → PySem.W.kitOne K (.ref C) (.ref C2) = some (sub m)
structure IsBlt (ca : Str → Option Addr) (K : PySem.W.Frag) (mg : Str → Option Value) (n : Str) (T : String) (sub : Str → Bool) : Prop where
  no : mg n = none
  ex : ∀ m C, ca m = some C → PySem.W.kitOne K (.ref C) (.type T) = some (sub m)
structure ExcOf (ca : Str → Option Addr) (K : PySem.W.Frag) (mg : Str → Option Value) (n : Str) (sub : Str → Bool) : Prop where
  ex : ∃ C2, mg n = some (.ref C2) ∧ ∀ m C, ca m = some C → PySem.W.exmOne K (.ref C) (.ref C2) = some (sub m)
section
variable {ca : Str → Option Addr} {W : WX} {X : Cx} {a : Addr} {oe : Obj} {cls : Value} {d : Option Addr} {pn : List (Addr × Obj)} {e : Expr} {fe : EV} {p p2 pos : Pos} {fs : List Str}
theorem ev_xisO {sub : Str → Bool} {n : Str} (hz : Zc cls d oe) (hf : ∃ vs, oe.data = .fields vs) (S : XsOk ca X.K fs) (T : IsOwn ca X.K X.mg n sub) (hm : X.mg "isinstance" = none) (he : Ev (caX ca a cls d) W (X.suite a ((a, oe) :: pn)) e fe) (hg : Gl (X.suite a ((a, oe) :: pn)) "isinstance" := by rfl) (hgT : Gl (X.suite a ((a, oe) :: pn)) n := by rfl) (hdb : (n == ("__debug__" : Str)) = false := by decide)
    (hs : starEach [e, .Name n p2] X.env = (false, eval e X.env) :: starEach [.Name n p2] X.env := by rfl) :
    Ev (caX ca a cls d) W (X.suite a ((a, oe) :: pn)) (.Call (.Name "isinstance" p) [e, .Name n p2] [] pos) (eOp1 (opXis sub) fe) := by
  obtain ⟨C2, h1, h2⟩ := T.ex
  exact ev_xis (fs := fs) (cv := .ref C2) (vv := .ref C2) hz hf (fun m C h => ⟨S.x m C h, h2 m C h⟩) (pe_glob hgT h1 rfl hdb) (fun u h => h) hm he hg hs
theorem ev_xisB {sub : Str → Bool} {n : Str} {T : String} (hz : Zc cls d oe) (hf : ∃ vs, oe.data = .fields vs) (S : XsOk ca X.K fs) (B : IsBlt ca X.K X.mg n T sub) (hm : X.mg "isinstance" = none) (he : Ev (caX ca a cls d) W (X.suite a ((a, oe) :: pn)) e fe) (hg : Gl (X.suite a ((a, oe) :: pn)) "isinstance" := by rfl) (hgT : Gl (X.suite a ((a, oe) :: pn)) n := by rfl)
    (hvT : bootBuiltins n = some (.type T) := by decide +kernel) (hn : n ≠ "__name__" := by decide) (hdb : (n == ("__debug__" : Str)) = false := by decide)
    (hs : starEach [e, .Name n p2] X.env = (false, eval e X.env) :: starEach [.Name n p2] X.env := by rfl) :
    Ev (caX ca a cls d) W (X.suite a ((a, oe) :: pn)) (.Call (.Name "isinstance" p) [e, .Name n p2] [] pos) (eOp1 (opXis sub) fe) :=
  ev_xis (fs := fs) (cv := .type T) (vv := .ty T) hz hf (fun m C h => ⟨S.x m C h, B.ex m C h⟩) (pe_bltn hgT B.no hvT rfl hn hdb) (fun u h => h) hm he hg hs
theorem ev_xfF {f : Str} (hz : Zc cls d oe) (hf : ∃ vs, oe.data = .fields vs) (S : XsOk ca X.K fs) (he : Ev (caX ca a cls d) W (X.suite a ((a, oe) :: pn)) e fe) (hm : f ∈ fs := by decide) (hb : attributeBase e f X.env (eval e X.env) = eval e X.env := by rfl) :
    Ev (caX ca a cls d) W (X.suite a ((a, oe) :: pn)) (.Attribute e f pos) (eOp1 (opXf f) fe) :=
  ev_xf hz hf (fun m C h => let T := S.x m C h; ⟨T.cl, T.ga, T.gt, T.sb, T.ha, T.hn, T.ht, T.hm, T.hd, fun g hg => by rw [List.mem_singleton.mp hg]; exact T.no f hm⟩) he hb
end
section
variable {ca : Str → Option Addr} {W : WX} {X : Cx} {x n : Str} {i : Nat} {body suite : List Stmt} {b₀ : Stmt} {np pos pos' : Pos} {b h : SV} {fs : List Str}
theorem sv_tryN {sub : Str → Bool} (i : Nat) (hs : X.stack = X.env :: X.outer) (hf : X.env.frame = some X.env.locals) (hN : X.N.Nodup) (S : XsOk ca X.K fs) (T : ExcOf ca X.K X.mg x sub) (tk : Takes X W)
    (hb : ∀ (W : WX) (pn : List (Addr × Obj)) (xe : Value → Shared → Prop), Takes (X.tr pn xe) W → PassesOwn (model X.prog X.w) X.A X.env xe → Bv ca W (X.tr pn xe) body b)
    (hsu : ∀ (a : Addr) (oe : Obj) (cls : Value) (d : Option Addr) (pn : List (Addr × Obj)), Zc cls d oe → (∃ vs, oe.data = .fields vs) → Bv (caX ca a cls d) (fun _ _ _ _ => False) (X.suite a ((a, oe) :: pn)) (b₀ :: suite) h)
    (hi : X.N[i]? = some n := by rfl) (hln : X.env.kindOf n = some .local := by rfl) (hg : Gl X x := by rfl) (hdb : (x == ("__debug__" : Str)) = false := by decide) :
    Sv ca W X (.Try body [.ExceptHandler (some (.Name x np)) (some n) (b₀ :: suite) pos'] [] [] pos) (sTry sub i b h) := by
  obtain ⟨C2, h1, h2⟩ := T.ex
  exact sv_try i hs hf hN S.k0 h2 ⟨hg, hdb, .inl h1⟩ tk hb hsu hi hln
end
/-- what a law is asked: any script -/
def spL (K : PySem.W.Frag) : Sp := fun vs H Q _ => ∃ a ns, vs = [.ref a] ∧ (ns : List Int).length ≤ 63 ∧ SqL K H a (ns.map V.int) ∧ ∀ H', Q (.bl true) H'
theorem spL_ok {P : Program} {w : World} {K : PySem.W.Frag} {mg : Str → Option Value} {base : Heap} {CX : CXT} {k : Nat} {f : Addr} {fd : FuncData} {ps : List Str} {ca : Str → Option Addr} {phi : List D → RC} (F : FnOk P w K mg base CX k f fd ps (spOf ⟨P, w, K, ca⟩ [.v] phi))
    (sol : ∀ ns : List Int, ns.length ≤ 63 → phi [.scr (ns.map .int)] = .ok false (.bl true) []) : FnOk P w K mg base CX k f fd ps (spL K) := by
  have up : ∀ vs H Q E, spL K vs H Q E → spOf ⟨P, w, K, ca⟩ [.v] phi vs H Q E := fun vs H Q E ⟨a, ns, e, hl, hS, hq⟩ => by
    subst e
    obtain ⟨F0, ds, x1, x2, x3, x4⟩ := law_end (Z := ⟨P, w, K, ca⟩) hS (sol ns hl)
    refine ⟨F0, ds, x1, x2, x3, ?_⟩
    revert x4
    cases phi ds with
    | no => exact id
    | ex x o => exact fun z c d F' H' g o r => (z c d F' H' g o r).elim
    | ok n dd o => exact fun z v F' H' g o r => by rw [z v F' H' g o r]; exact hq H'
  exact ⟨fun vs H Q E h => F.len vs H Q E (up _ _ _ _ h), fun A outer s H args us vs Q E r I b v h => F.run A outer s H args us vs Q E r I b v (up _ _ _ _ h)⟩
end S3

/-! P1: reckoning with the terms: what simp may unfold; loops by an invariant. -/
namespace S3
open PySem
section
variable {e e' : Env} {f g h : EV} {s t : SV} {c d : TV}
@[simp] theorem slot0 (s : Sl) (e : Env) : slot (s :: e) 0 = s := rfl
@[simp] theorem slotS (s : Sl) (e : Env) (i : Nat) : slot (s :: e) (i + 1) = slot e i := rfl
theorem slotG (e : Env) (i : Nat) : slot e i = (e[i]?).getD .no := by unfold slot; rw [List.getD_eq_getElem?_getD]
@[simp] theorem eC_e (x : D) : eC x e = .ok (.fz x) e := rfl
@[simp] theorem eSlot_e (i : Nat) : eSlot i e = match slot e i with | .no => .no | .fz d => .ok (.fz d) e | _ => .ok (.at i) e := rfl
@[simp] theorem eBind_e {k : RV → EV} : eBind f k e = match f e with | .ok r e1 => k r e1 | .ex x e1 => .ex x e1 | .no => .no := rfl
@[simp] theorem eOp1_e (op : D → Option RV) : eOp1 op f e = match f e with | .ok r e1 => (match rd r e1 with | some x => ofOp (op x) e1 | none => .no) | .ex x e1 => .ex x e1 | .no => .no := rfl
@[simp] theorem eOp2_e (op : D → D → Option RV) : eOp2 op f g e = match f e with | .ok r e1 => (match g e1 with | .ok q e2 => (match rd r e2, rd q e2 with | some x, some y => ofOp (op x y) e2 | _, _ => .no) | .ex x e1 => .ex x e1 | .no => .no) | .ex x e1 => .ex x e1 | .no => .no := rfl
@[simp] theorem eOp3_e (op : D → D → D → Option RV) : eOp3 op f g h e = match f e with | .ok r e1 => (match g e1 with | .ok q e2 => (match h e2 with | .ok p e3 => (match rd r e3, rd q e3, rd p e3 with | some x, some y, some z => ofOp (op x y z) e3 | _, _, _ => .no) | .ex x e1 => .ex x e1 | .no => .no) | .ex x e1 => .ex x e1 | .no => .no) | .ex x e1 => .ex x e1 | .no => .no := rfl
@[simp] theorem ofOp_s (r : RV) : ofOp (some r) e = .ok r e := rfl
@[simp] theorem ofOp_n : ofOp none e = .no := rfl
@[simp] theorem rd_fz (d : D) : rd (.fz d) e = some d := rfl
@[simp] theorem rd_nw (d : D) : rd (.nw d) e = some d := rfl
@[simp] theorem rd_at (i : Nat) : rd (.at i) e = (slot e i).val := rfl
@[simp] theorem val_fz (d : D) : (Sl.fz d).val = some d := rfl
@[simp] theorem val_ow (d : D) : (Sl.ow d).val = some d := rfl
@[simp] theorem val_bo (d : D) : (Sl.bo d).val = some d := rfl
@[simp] theorem val_mu (d : D) : (Sl.mu d).val = some d := rfl
@[simp] theorem val_no : (Sl.no).val = none := rfl
@[simp] theorem stl_fz (d : D) : stl (.fz d) e = some (d, e) := rfl
@[simp] theorem stl_nw (d : D) : stl (.nw d) e = some (d, e) := rfl
@[simp] theorem stl_at (i : Nat) : stl (.at i) e = match slot e i with | .fz d => some (d, e) | .ow d => some (d, e.set i (.fz d)) | _ => none := rfl
@[simp] theorem eI_e : eI f e = match f e with | .ok r e1 => (match r with | .fz (.int i) => .ok (.fz (.int i)) e1 | _ => .no) | .ex x e1 => .ex x e1 | .no => .no := rfl
@[simp] theorem aNil_e : aNil e = .ok [] e := rfl
@[simp] theorem aCons_e (a : AV) : aCons f a e = match f e with | .ok r e1 => (match a e1 with | .ok rs e2 => .ok (r :: rs) e2 | .ex x e2 => .ex x e2 | .no => .no) | .ex x e1 => .ex x e1 | .no => .no := rfl
@[simp] theorem aKeep_e (a : AV) : aKeep f a e = match f e with | .ok r e1 => (match stl r e1 with | some (d, e1') => (match a e1' with | .ok rs e2 => .ok (.fz d :: rs) e2 | .ex x e2 => .ex x e2 | .no => .no) | none => .no) | .ex x e1 => .ex x e1 | .no => .no := rfl
@[simp] theorem fzs_nil : fzs [] = some [] := rfl
@[simp] theorem fzs_cons (d : D) (r : List RV) : fzs (.fz d :: r) = (fzs r).map (d :: ·) := rfl
@[simp] theorem eDisp_e (mk : List D → RV) (a : AV) : eDisp mk a e = match a e with | .ok rs e1 => (match fzs rs with | some ds => if ds.length ≤ 16777216 then .ok (mk ds) e1 else .no | none => .no) | .ex x e1 => .ex x e1 | .no => .no := rfl
@[simp] theorem argD_nil : argD [] [] e = some [] := rfl
@[simp] theorem argD_v (ms : List Md) (d : D) (rs : List RV) : argD (.v :: ms) (.fz d :: rs) e = (argD ms rs e).map (d :: ·) := rfl
@[simp] theorem argD_r (ms : List Md) (r : RV) (rs : List RV) : argD (.r :: ms) (r :: rs) e = (match rd r e with | some d => (argD ms rs e).map (d :: ·) | none => none) := rfl
@[simp] theorem argD_m (ms : List Md) (i : Nat) (rs : List RV) : argD (.m :: ms) (.at i :: rs) e = (match slot e i with | .ow d => (argD ms rs e).map (d :: ·) | .mu d => (argD ms rs e).map (d :: ·) | _ => none) := rfl
@[simp] theorem mutIx_nil (rs : List RV) : mutIx [] rs = [] := by cases rs <;> rfl
@[simp] theorem mutIx_v (ms : List Md) (r : RV) (rs : List RV) : mutIx (.v :: ms) (r :: rs) = mutIx ms rs := by cases r <;> rfl
@[simp] theorem mutIx_r (ms : List Md) (r : RV) (rs : List RV) : mutIx (.r :: ms) (r :: rs) = mutIx ms rs := by cases r <;> rfl
@[simp] theorem mutIx_m (ms : List Md) (i : Nat) (rs : List RV) : mutIx (.m :: ms) (.at i :: rs) = i :: mutIx ms rs := rfl
@[simp] theorem atIx_nil : atIx [] = [] := rfl
@[simp] theorem atIx_at (i : Nat) (rs : List RV) : atIx (.at i :: rs) = i :: atIx rs := rfl
@[simp] theorem atIx_fz (d : D) (rs : List RV) : atIx (.fz d :: rs) = atIx rs := rfl
@[simp] theorem atIx_nw (d : D) (rs : List RV) : atIx (.nw d :: rs) = atIx rs := rfl
@[simp] theorem apart_e (ms : List Md) (rs : List RV) : apart ms rs = (mutIx ms rs).all fun i => (atIx rs).count i == 1 := rfl
@[simp] theorem wback_nil : wback [] [] e = some e := rfl
@[simp] theorem wback_cons (i : Nat) (is : List Nat) (d : D) (ds : List D) : wback (i :: is) (d :: ds) e = (match slot e i with | .ow _ => wback is ds (e.set i (.ow d)) | .mu _ => wback is ds (e.set i (.mu d)) | _ => none) := rfl
@[simp] theorem rv_t (d : D) : rv true d = .nw d := rfl
@[simp] theorem rv_f (d : D) : rv false d = .fz d := rfl
@[simp] theorem eCall_e (phi : List D → RC) (ms : List Md) (a : AV) : eCall phi ms a e = match a e with
  | .ok rs e1 => (match argD ms rs e1 with
    | some ds => if apart ms rs then (match phi ds with
        | .ok n d outs => (match wback (mutIx ms rs) outs e1 with | some e2 => .ok (rv n d) e2 | none => .no)
        | .ex x outs => (match wback (mutIx ms rs) outs e1 with | some e2 => .ex x e2 | none => .no)
        | .no => .no) else .no
    | none => .no)
  | .ex x e1 => .ex x e1
  | .no => .no := rfl
@[simp] theorem mine_ow (k : D → Bool) (d : D) : mine k (.ow d) = k d := rfl
@[simp] theorem mine_mu (k : D → Bool) (d : D) : mine k (.mu d) = k d := rfl
@[simp] theorem reown_mu (a b : D) : reown (.mu a) b = .mu b := rfl
@[simp] theorem reown_ow (a b : D) : reown (.ow a) b = .ow b := rfl
@[simp] theorem isLst_l (xs : List D) : isLst (.lst xs) = true := rfl
@[simp] theorem eMut_e (i : Nat) (k : D → Bool) (op : D → List D → Option (D × RV)) (a : AV) : eMut i k op a e = if mine k (slot e i) then (match a e with
  | .ok rs e1 => (match fzs rs with
    | some ds => if mine k (slot e1 i) then (match (slot e1 i).val with
      | some d => (match op d ds with | some (d', r) => .ok r (e1.set i (reown (slot e1 i) d')) | none => .no)
      | none => .no) else .no
    | none => .no)
  | .ex x e1 => .ex x e1
  | .no => .no) else .no := rfl
@[simp] theorem tVal_e : tVal f e = match f e with | .ok r e1 => (match rd r e1 with | some d => (match asBool d with | some b => .ok b e1 | none => .no) | none => .no) | .ex x e1 => .ex x e1 | .no => .no := rfl
@[simp] theorem tTru_e : tTru f e = match f e with | .ok r e1 => (match rd r e1 with | some d => (match truth d with | some b => .ok b e1 | none => .no) | none => .no) | .ex x e1 => .ex x e1 | .no => .no := rfl
@[simp] theorem asBool_b (b : Bool) : asBool (.bl b) = some b := rfl
@[simp] theorem truth_b (b : Bool) : truth (.bl b) = some b := rfl
@[simp] theorem truth_non : truth .non = some false := rfl
@[simp] theorem truth_int (i : Int) : truth (.int i) = some (i != 0) := rfl
@[simp] theorem truth_str (x : Str) : truth (.str x) = some (x.length != 0) := rfl
@[simp] theorem truth_lst (xs : List D) : truth (.lst xs) = some (!xs.isEmpty) := rfl
@[simp] theorem truth_tup (xs : List D) : truth (.tup xs) = some (!xs.isEmpty) := rfl
@[simp] theorem tAndS_e : tAndS c d e = match c e with | .ok true e1 => d e1 | r => r := rfl
@[simp] theorem tOrS_e : tOrS c d e = match c e with | .ok false e1 => d e1 | r => r := rfl
@[simp] theorem tNotS_e : tNotS c e = match c e with | .ok b e1 => .ok (!b) e1 | r => r := rfl
@[simp] theorem eIf_e : eIf c f g e = match c e with | .ok true e1 => f e1 | .ok false e1 => g e1 | .ex x e1 => .ex x e1 | .no => .no := rfl
@[simp] theorem eAnd_e : eAnd f g e = match f e with | .ok r e1 => (match rd r e1 with | some d => (match truth d with | some true => g e1 | some false => .ok r e1 | none => .no) | none => .no) | .ex x e1 => .ex x e1 | .no => .no := rfl
@[simp] theorem eOr_e : eOr f g e = match f e with | .ok r e1 => (match rd r e1 with | some d => (match truth d with | some true => .ok r e1 | some false => g e1 | none => .no) | none => .no) | .ex x e1 => .ex x e1 | .no => .no := rfl
@[simp] theorem eNot_e : eNot f e = eOp1 (fun d => (truth d).map fun b => .fz (.bl (!b))) f e := rfl
@[simp] theorem eChain_e (o o' : D → D → Option RV) : eChain o o' f g h e = match f e with
  | .ok r e1 => (match g e1 with
    | .ok q e2 => (match rd r e2, rd q e2 with
      | some x, some y => (match o x y with
        | some (.fz (.bl true)) => (match h e2 with
          | .ok p e3 => (match rd q e3, rd p e3 with | some y, some z => ofOp (o' y z) e3 | _, _ => .no)
          | .ex x e1 => .ex x e1
          | .no => .no)
        | some (.fz (.bl false)) => .ok (.fz (.bl false)) e2
        | _ => .no)
      | _, _ => .no)
    | .ex x e1 => .ex x e1
    | .no => .no)
  | .ex x e1 => .ex x e1
  | .no => .no := rfl
@[simp] theorem sSeq_e : sSeq s t e = match s e with | .nx e1 => t e1 | r => r := rfl
@[simp] theorem sNx_e : sNx e = .nx e := rfl
@[simp] theorem sBk_e : sBk e = .bk e := rfl
@[simp] theorem sCt_e : sCt e = .ct e := rfl
@[simp] theorem sRetN_e : sRetN e = .rt (.fz .non) e := rfl
@[simp] theorem sExpr_e : sExpr f e = match f e with | .ok r e1 => .nx e1 | .ex x e1 => .ex x e1 | .no => .no := rfl
@[simp] theorem sRet_e : sRet f e = match f e with | .ok r e1 => ret r e1 | .ex x e1 => .ex x e1 | .no => .no := rfl
@[simp] theorem ret_fz (d : D) : ret (.fz d) e = .rt (.fz d) e := rfl
@[simp] theorem ret_nw (d : D) : ret (.nw d) e = .rt (.nw d) e := rfl
@[simp] theorem ret_at (i : Nat) : ret (.at i) e = match slot e i with | .fz d => .rt (.fz d) e | .ow d => .rt (.nw d) (e.set i .no) | _ => .no := rfl
@[simp] theorem sIf_e : sIf c s t e = match c e with | .ok true e1 => s e1 | .ok false e1 => t e1 | .ex x e1 => .ex x e1 | .no => .no := rfl
@[simp] theorem sSet_e (i : Nat) : sSet i f e = match f e with | .ok r e1 => (match setS i r e1 with | some e2 => .nx e2 | none => .no) | .ex x e1 => .ex x e1 | .no => .no := rfl
@[simp] theorem setS_fz (i : Nat) (d : D) : setS i (.fz d) e = some (e.set i (.fz d)) := rfl
@[simp] theorem setS_nw (i : Nat) (d : D) : setS i (.nw d) e = some (e.set i (.ow d)) := rfl
@[simp] theorem setS_at (i j : Nat) : setS i (.at j) e = (stl (.at j) e).map fun p => p.2.set i (.fz p.1) := rfl
@[simp] theorem sUnp_e (is : List Nat) : sUnp is f e = match f e with | .ok r e1 => (match stl r e1 with | some (.tup ds, e1) => (match setAll is ds e1 with | some e2 => .nx e2 | none => .no) | _ => .no) | .ex x e1 => .ex x e1 | .no => .no := rfl
@[simp] theorem setAll_nil : setAll [] [] e = some e := rfl
@[simp] theorem setAll_cons (i : Nat) (is : List Nat) (d : D) (ds : List D) : setAll (i :: is) (d :: ds) e = setAll is ds (e.set i (.fz d)) := rfl
@[simp] theorem tgt_one (i : Nat) (d : D) : tgt (.one i) d e = some (e.set i (.fz d)) := rfl
@[simp] theorem tgt_tup (is : List Nat) (ds : List D) : tgt (.tup is) (.tup ds) e = setAll is ds e := rfl
@[simp] theorem wipeE_nil : wipeE e [] = e := rfl
@[simp] theorem wipeE_cons (i : Nat) (is : List Nat) : wipeE e (i :: is) = (wipeE e is).set i .no := rfl
@[simp] theorem lock_nil : lock [] = [] := rfl
@[simp] theorem lock_cons (s : Sl) : lock (s :: e) = s.lock :: lock e := rfl
@[simp] theorem lock_fz (d : D) : (Sl.fz d).lock = .fz d := rfl
@[simp] theorem lock_ow (d : D) : (Sl.ow d).lock = .bo d := rfl
@[simp] theorem lock_mu (d : D) : (Sl.mu d).lock = .bo d := rfl
@[simp] theorem lock_bo (d : D) : (Sl.bo d).lock = .bo d := rfl
@[simp] theorem lock_no : (Sl.no).lock = .no := rfl
@[simp] theorem tYesS_e : tYesS e = .ok true e := rfl
@[simp] theorem wAny_e : wAny f e = match f e with | .ok r e1 => (match walk r e1 with | some (d, e1) => (match items d with | some xs => .ok xs e1 | none => .no) | none => .no) | .ex x e1 => .ex x e1 | .no => .no := rfl
@[simp] theorem walk_fz (d : D) : walk (.fz d) e = some (d, e) := rfl
@[simp] theorem walk_nw (d : D) : walk (.nw d) e = some (d, e) := rfl
@[simp] theorem walk_at (i : Nat) : walk (.at i) e = match slot e i with | .fz d => some (d, e) | .ow d => some (d, e.set i (.fz d)) | .bo d => some (d, e) | _ => none := rfl
@[simp] theorem items_l (xs : List D) : items (.lst xs) = some xs := rfl
@[simp] theorem items_t (xs : List D) : items (.tup xs) = some xs := rfl
@[simp] theorem items_s (xs : List D) : items (.scr xs) = some xs := rfl
@[simp] theorem items_str (x : Str) : items (.str x) = some (x.cps.toList.map fun c => .str ⟨#[c]⟩) := rfl
@[simp] theorem wR1_e : wR1 g e = match g e with | .ok r e1 => (match r with | .fz (.int y) => if -(2 ^ 62) ≤ y ∧ y < 2 ^ 62 then .ok (rng 0 y) e1 else .no | _ => .no) | .ex x e1 => .ex x e1 | .no => .no := by
  unfold wR1 wE eI eBind
  cases g e with
  | ok r e1 => cases r with
    | fz d => cases d <;> rfl
    | _ => rfl
  | _ => rfl
@[simp] theorem wR2_e : wR2 f g e = match f e with
  | .ok r e1 => (match r with
    | .fz (.int x) => (match g e1 with
      | .ok r e2 => (match r with
        | .fz (.int y) => if -(2 ^ 62) ≤ x ∧ x < 2 ^ 62 ∧ -(2 ^ 62) ≤ y ∧ y < 2 ^ 62 then .ok (rng x y) e2 else .no
        | _ => .no)
      | .ex x e1 => .ex x e1
      | .no => .no)
    | _ => .no)
  | .ex x e1 => .ex x e1
  | .no => .no := by
  unfold wR2 wE eI eBind
  cases f e with
  | ok r e1 => cases r with
    | fz d =>
      cases d with
      | int x =>
        dsimp only
        cases g e1 with
        | ok r e1 => cases r with
          | fz d => cases d <;> rfl
          | _ => rfl
        | _ => rfl
      | _ => rfl
    | _ => rfl
  | _ => rfl
theorem sFor_e {tmp : List Nat} {tg : Tg} {w : WV} {b : SV} : sFor tmp tg w b e = match w e with | .ok xs e1 => forL tmp tg b xs e1 | .ex x e1 => .ex x e1 | .no => .no := rfl
@[simp] theorem finish_nx (ms : List Md) : finish ms (.nx e) = match outsE ms e with | some o => .ok false .non o | none => .no := rfl
@[simp] theorem finish_fz (ms : List Md) (d : D) : finish ms (.rt (.fz d) e) = match outsE ms e with | some o => .ok false d o | none => .no := rfl
@[simp] theorem finish_nw (ms : List Md) (d : D) : finish ms (.rt (.nw d) e) = match outsE ms e with | some o => .ok true d o | none => .no := rfl
@[simp] theorem finish_ex (ms : List Md) (x : Exn) : finish ms (.ex x e) = match outsE ms e with | some o => .ex x o | none => .no := rfl
@[simp] theorem outsE_nil : outsE [] e = some [] := by cases e <;> rfl
@[simp] theorem outsE_v (ms : List Md) (s : Sl) : outsE (.v :: ms) (s :: e) = outsE ms e := by cases s <;> rfl
@[simp] theorem outsE_r (ms : List Md) (s : Sl) : outsE (.r :: ms) (s :: e) = outsE ms e := by cases s <;> rfl
@[simp] theorem outsE_m (ms : List Md) (d : D) : outsE (.m :: ms) (.mu d :: e) = (outsE ms e).map (d :: ·) := rfl
end
/-! operators at their kinds -/
@[simp] theorem opAdd_i (i j : Int) : opAdd (.int i) (.int j) = some (.fz (.int (i + j))) := rfl
@[simp] theorem opSub_i (i j : Int) : opSub (.int i) (.int j) = some (.fz (.int (i - j))) := rfl
@[simp] theorem opAdd_s (x y : Str) : opAdd (.str x) (.str y) = if x.length + y.length ≤ BIG then some (.fz (.str (x ++ y))) else none := rfl
@[simp] theorem opAdd_l (x y : List D) : opAdd (.lst x) (.lst y) = if x.length + y.length ≤ BIG then some (.nw (.lst (x ++ y))) else none := rfl
@[simp] theorem opMul_i (i j : Int) : opMul (.int i) (.int j) = if (-(2 ^ 64) < i ∧ i < 2 ^ 64) ∨ (-(2 ^ 64) < j ∧ j < 2 ^ 64) then some (.fz (.int (i * j))) else none := rfl
@[simp] theorem opMod_i (i j : Int) : opMod (.int i) (.int j) = if 0 < j then some (.fz (.int (i % j))) else none := rfl
@[simp] theorem opDiv_i (i j : Int) : opDiv (.int i) (.int j) = if 0 < j ∧ j < 1073741824 then some (.fz (.int (i / j))) else none := rfl
@[simp] theorem opLt_i (i j : Int) : opLt (.int i) (.int j) = some (.fz (.bl (decide (i < j)))) := rfl
@[simp] theorem opLe_i (i j : Int) : opLe (.int i) (.int j) = some (.fz (.bl (decide (i ≤ j)))) := rfl
@[simp] theorem opGt_i (i j : Int) : opGt (.int i) (.int j) = some (.fz (.bl (decide (j < i)))) := rfl
@[simp] theorem opGe_i (i j : Int) : opGe (.int i) (.int j) = some (.fz (.bl (decide (j ≤ i)))) := rfl
@[simp] theorem opInt_i (i : Int) : opInt (.int i) = some (.fz (.int i)) := rfl
@[simp] theorem opAbs_i (i : Int) : opAbs (.int i) = some (.fz (.int (if i < 0 then -i else i))) := rfl
@[simp] theorem opLen_s (x : Str) : opLen (.str x) = some (.fz (.int x.length)) := rfl
@[simp] theorem opLen_l (x : List D) : opLen (.lst x) = some (.fz (.int x.length)) := rfl
@[simp] theorem opLen_t (x : List D) : opLen (.tup x) = some (.fz (.int x.length)) := rfl
@[simp] theorem opIx_l (xs : List D) (i : Int) : opIx (.lst xs) (.int i) = (L2.atI xs i).map .fz := rfl
@[simp] theorem opIx_t (xs : List D) (i : Int) : opIx (.tup xs) (.int i) = (L2.atI xs i).map .fz := rfl
@[simp] theorem opIx_s (z : Str) (i : Int) : opIx (.str z) (.int i) = (L2.atI z.cps.toList i).map fun c => .fz (.str ⟨#[c]⟩) := rfl
@[simp] theorem mApp_l (xs : List D) (y : D) : mAppend (.lst xs) [y] = if xs.length < BIG then some (.lst (xs ++ [y]), .fz .non) else none := rfl
@[simp] theorem mkLst_e (xs : List D) : mkLst xs = .nw (.lst xs) := rfl
@[simp] theorem mkTup_e (xs : List D) : mkTup xs = .fz (.tup xs) := rfl
@[simp] theorem bRV_s (b : Bool) : bRV (some b) = some (.fz (.bl b)) := rfl
@[simp] theorem bRV_n : bRV none = none := rfl
theorem py_ii (i j : Int) : PyData.eqv (.int i) (.int j) = decide (i = j) := by
  by_cases h : i = j
  · subst h; simp [PyData.eqv]
  · simp [PyData.eqv, h]
theorem dEq_ii (i j : Int) : dEq (.int i) (.int j) = some (decide (i = j)) := by
  show some (PyData.eqv (.int i) (.int j)) = _
  rw [py_ii]
theorem opEq_i (i j : Int) : opEq (.int i) (.int j) = some (.fz (.bl (decide (i = j)))) := by unfold opEq; rw [dEq_ii]; rfl
theorem opNe_i (i j : Int) : opNe (.int i) (.int j) = some (.fz (.bl (!decide (i = j)))) := by unfold opNe; rw [dEq_ii]; rfl
theorem atI_nat {α : Type} {xs : List α} {i : Int} {x : α} (h0 : 0 ≤ i) (h : xs[i.toNat]? = some x) : L2.atI xs i = some x := by
  have hl := (List.getElem?_eq_some_iff.mp h).1
  unfold L2.atI L2.ixN
  rw [if_pos h0, if_pos (by omega)]
  exact h
theorem atI_lt {α : Type} {xs : List α} {i : Int} (h0 : 0 ≤ i) (h : i < xs.length) : ∃ x, xs[i.toNat]? = some x ∧ L2.atI xs i = some x := by
  have hl : i.toNat < xs.length := by omega
  exact ⟨_, List.getElem?_eq_getElem hl, atI_nat h0 (List.getElem?_eq_getElem hl)⟩

/-! ### loops -/
/-- a turn's end, then: J if the loop goes on, R of the loop's end otherwise -/
def turnP (tmp : List Nat) (J : Env → Prop) (R : RS → Prop) : RS → Prop
  | .nx e => J (wipeE e tmp)
  | .ct e => J (wipeE e tmp)
  | .bk e => R (.nx (wipeE e tmp))
  | .rt r e => R (.rt r e)
  | .ex x e => R (.ex x e)
  | .no => R .no
@[simp] theorem turnP_nx (tmp J R e) : turnP tmp J R (.nx e) = J (wipeE e tmp) := rfl
@[simp] theorem turnP_ct (tmp J R e) : turnP tmp J R (.ct e) = J (wipeE e tmp) := rfl
@[simp] theorem turnP_bk (tmp J R e) : turnP tmp J R (.bk e) = R (.nx (wipeE e tmp)) := rfl
@[simp] theorem turnP_rt (tmp J R e r) : turnP tmp J R (.rt r e) = R (.rt r e) := rfl
@[simp] theorem turnP_ex (tmp J R e r) : turnP tmp J R (.ex r e) = R (.ex r e) := rfl
theorem forL_inv {tmp : List Nat} {t : Tg} {b : SV} {ds : List D} {R : RS → Prop} (I : Nat → Env → Prop) {e : Env} (h0 : I 0 e)
    (hs : ∀ i d e, ds[i]? = some d → I i e → ∃ e1, tgt t d e = some e1 ∧ turnP tmp (I (i + 1)) R (b e1)) (he : ∀ e, I ds.length e → R (.nx e)) : R (forL tmp t b ds e) := by
  induction ds generalizing I e with
  | nil => exact he e h0
  | cons d ds ih =>
    obtain ⟨e1, h1, h2⟩ := hs 0 d e rfl h0
    unfold forL
    rw [h1]
    dsimp only
    have next : ∀ e2, I 1 e2 → R (forL tmp t b ds e2) := fun e2 h => ih (fun i => I (i + 1)) h (fun i d e hd hi => hs (i + 1) d e (by simpa using hd) hi) (fun e h => he e (by simpa using h))
    cases q : b e1 with
    | nx e2 => rw [q] at h2; exact next _ h2
    | ct e2 => rw [q] at h2; exact next _ h2
    | bk e2 => rw [q] at h2; exact h2
    | rt r e2 => rw [q] at h2; exact h2
    | ex x e2 => rw [q] at h2; exact h2
    | no => rw [q] at h2; exact h2
/-- a loop, then the rest; R: the end of the loop leads to Q -/
theorem seq_for {tmp : List Nat} {t : Tg} {w : WV} {b : SV} {g : SV} {e e0 : Env} {ds : List D} {Q : RS → Prop} (hw : w e = .ok ds e0) (I : Nat → Env → Prop) (h0 : I 0 e0)
    (hs : ∀ R : RS → Prop, (∀ r e, Q (.rt r e) → R (.rt r e)) → (∀ e, Q (g e) → R (.nx e)) → (∀ x e, Q (.ex x e) → R (.ex x e)) → ∀ i d e, ds[i]? = some d → I i e → ∃ e1, tgt t d e = some e1 ∧ turnP tmp (I (i + 1)) R (b e1))
    (he : ∀ e, I ds.length e → Q (g e)) : Q (sSeq (sFor tmp t w b) g e) := by
  rw [sSeq_e, sFor_e, hw]
  exact forL_inv (R := fun r => Q (match r with | .nx e1 => g e1 | r => r)) I h0 (hs _ (fun _ _ h => h) (fun _ h => h) (fun _ _ h => h)) he
theorem sole_for {tmp : List Nat} {t : Tg} {w : WV} {b : SV} {e e0 : Env} {ds : List D} {Q : RS → Prop} (hw : w e = .ok ds e0) (I : Nat → Env → Prop) (h0 : I 0 e0)
    (hs : ∀ i d e, ds[i]? = some d → I i e → ∃ e1, tgt t d e = some e1 ∧ turnP tmp (I (i + 1)) Q (b e1)) (he : ∀ e, I ds.length e → Q (.nx e)) : Q (sFor tmp t w b e) := by
  rw [sFor_e, hw]
  exact forL_inv I h0 hs he
/-- while: by a measure -/
theorem whL_inv {tmp : List Nat} {c : TV} {b : SV} {R : RS → Prop} (I : Nat → Env → Prop) {n m : Nat} {e : Env} (hm : m < n) (h0 : I m e)
    (hs : ∀ m e, I m e → (∃ e1, c e = .ok false e1 ∧ R (.nx e1)) ∨ (∃ e1, c e = .ok true e1 ∧ turnP tmp (fun e => ∃ m', m' < m ∧ I m' e) R (b e1))) : R (whL tmp c b n e) := by
  induction n generalizing m e with
  | zero => omega
  | succ n ih =>
    unfold whL
    rcases hs m e h0 with ⟨e1, h1, h2⟩ | ⟨e1, h1, h2⟩
    · rw [h1]; exact h2
    · rw [h1]
      dsimp only
      have next : ∀ e2, (∃ m', m' < m ∧ I m' e2) → R (whL tmp c b n e2) := fun e2 ⟨m', l, h⟩ => ih (by omega) h
      cases q : b e1 with
      | nx e2 => rw [q] at h2; exact next _ h2
      | ct e2 => rw [q] at h2; exact next _ h2
      | bk e2 => rw [q] at h2; exact h2
      | rt r e2 => rw [q] at h2; exact h2
      | ex x e2 => rw [q] at h2; exact h2
      | no => rw [q] at h2; exact h2
theorem seq_while {tmp : List Nat} {c : TV} {b : SV} {g : SV} {n m : Nat} {e : Env} {Q : RS → Prop} (I : Nat → Env → Prop) (hm : m < n) (h0 : I m e)
    (hs : ∀ R : RS → Prop, (∀ r e, Q (.rt r e) → R (.rt r e)) → (∀ e, Q (g e) → R (.nx e)) → (∀ x e, Q (.ex x e) → R (.ex x e)) → ∀ m e, I m e → (∃ e1, c e = .ok false e1 ∧ Q (g e1)) ∨ (∃ e1, c e = .ok true e1 ∧ turnP tmp (fun e => ∃ m', m' < m ∧ I m' e) R (b e1))) : Q (sSeq (whL tmp c b n) g e) := by
  rw [sSeq_e]
  exact whL_inv (R := fun r => Q (match r with | .nx e1 => g e1 | r => r)) I hm h0 (hs _ (fun _ _ h => h) (fun _ h => h) (fun _ _ h => h))
theorem rng_get {a b : Int} {i : Nat} {d : D} (h : (rng a b)[i]? = some d) : d = .int (a + i) ∧ (i : Int) < b - a := by
  unfold rng at h
  rw [List.getElem?_map, Option.map_eq_some_iff] at h
  obtain ⟨j, h1, rfl⟩ := h
  obtain ⟨hl, h2⟩ := List.getElem?_eq_some_iff.mp h1
  rw [List.getElem_range] at h2
  subst h2
  rw [List.length_range] at hl
  exact ⟨rfl, by omega⟩
theorem rng0_get {b : Int} {i : Nat} {d : D} (h : (rng 0 b)[i]? = some d) : d = .int i ∧ (i : Int) < b := by
  have := rng_get h
  rw [Int.zero_add] at this
  exact ⟨this.1, by omega⟩
@[simp] theorem rng_len (a b : Int) : (rng a b).length = (b - a).toNat := by simp [rng]
/-- one item of a list comprehension -/
def lc1 (t : Tg) (c : TV) (f : EV) (e : Env) (d : D) : Option (Option D) := match tgt t d e with
  | some e1 => (match c e1 with
    | .ok true e2 => (match f e2 with
      | .ok r e3 => (match stl r e3 with
        | some (x, _) => some (some x)
        | none => none)
      | _ => none)
    | .ok false _ => some none
    | _ => none)
  | none => none
theorem lcL_fm {α : Type} {t : Tg} {c : TV} {f : EV} {l : List α} {mk : α → D} {e : Env} (G : α → Option D) (h : ∀ a ∈ l, lc1 t c f e (mk a) = some (G a)) {acc : List D} : lcL t c f (l.map mk) e acc = some (acc ++ l.filterMap G) := by
  induction l generalizing acc with
  | nil => simp [lcL]
  | cons a l ih =>
    have h1 := h a List.mem_cons_self
    have h2 := fun acc => ih (fun b hb => h b (List.mem_cons_of_mem _ hb)) (acc := acc)
    rw [List.map_cons]
    unfold lc1 at h1
    unfold lcL
    cases q1 : tgt t (mk a) e with
    | none => rw [q1] at h1; cases h1
    | some e1 =>
      rw [q1] at h1
      dsimp only at h1 ⊢
      cases q2 : c e1 with
      | no => rw [q2] at h1; cases h1
      | ex x e2 => rw [q2] at h1; cases h1
      | ok b e2 =>
        rw [q2] at h1
        cases b with
        | false =>
          dsimp only at h1 ⊢
          rw [h2, List.filterMap_cons, ← Option.some.inj h1]
        | true =>
          dsimp only at h1 ⊢
          cases q3 : f e2 with
          | no => rw [q3] at h1; cases h1
          | ex x e3 => rw [q3] at h1; cases h1
          | ok r e3 =>
            rw [q3] at h1
            dsimp only at h1 ⊢
            cases q4 : stl r e3 with
            | none => rw [q4] at h1; cases h1
            | some p =>
              obtain ⟨x, e4⟩ := p
              rw [q4] at h1
              dsimp only at h1 ⊢
              rw [h2, List.filterMap_cons, ← Option.some.inj h1]
              simp
theorem lcL_mp {α : Type} {t : Tg} {c : TV} {f : EV} {l : List α} {mk : α → D} {e : Env} (G : α → D) (h : ∀ a ∈ l, lc1 t c f e (mk a) = some (some (G a))) {acc : List D} : lcL t c f (l.map mk) e acc = some (acc ++ l.map G) := by
  rw [lcL_fm (fun a => some (G a)) h, ← List.filterMap_eq_map]
  rfl
theorem eLc_ok {own : List Nat} {t : Tg} {w : WV} {c : TV} {f : EV} {e e1 : Env} {xs ys : List D} (hw : w e = .ok xs e1) (hl : lcL t c f xs (wipeE (lock e1) own) [] = some ys) (hz : xs.length ≤ 16777216) : eLc own t w c f e = .ok (.nw (.lst ys)) e1 := by
  unfold eLc
  rw [hw]
  dsimp only
  rw [hl]
  dsimp only
  rw [if_pos hz]
theorem atI0 {α : Type} (c : α) (cs : List α) : L2.atI (c :: cs) 0 = some c := atI_nat (by decide) rfl
theorem lcL_rng {t : Tg} {c : TV} {f : EV} {a b : Int} {e : Env} (G : Nat → D) (h : ∀ i : Nat, (i : Int) < b - a → lc1 t c f e (.int (a + (i : Int))) = some (some (G i))) : lcL t c f (rng a b) e [] = some ((List.range (b - a).toNat).map G) := by
  unfold rng
  rw [lcL_mp (mk := fun i : Nat => D.int (a + (i : Int))) G (fun i hi => h i (by have := List.mem_range.mp hi; omega)), List.nil_append]
theorem run_is {T : Def} {phi : String → List D → RC} {ds : List D} (h : ds.length = T.ms.length) : T.run phi ds = finish T.ms (T.body phi (startE T.ms ds T.n)) := if_pos h
theorem opPow_i (i j : Int) : opPow (.int i) (.int j) = if 0 ≤ j ∧ j ≤ 1000000 ∧ i.natAbs < 2 ^ 64 then some (.fz (.int (i ^ j.toNat))) else none := rfl
theorem okD_ints (n : Nat) (ps : List Int) : okD (n + 1) (.lst (ps.map .int)) = true := by
  show (ps.map D.int).all (okD n) = true
  rw [List.all_map, List.all_eq_true]
  intro p _
  cases n <;> rfl
theorem opEq_nil (ps : List Int) : opEq (.lst (ps.map .int)) (.lst []) = some (.fz (.bl ps.isEmpty)) := by
  unfold opEq dEq
  rw [okD_ints 5]
  show bRV (some (PyData.eqv (.list ((ps.map D.int).map (py 5))) (.list []))) = _
  cases ps <;> simp [PyData.eqv, PyData.eqvAll]
end S3

/-! P2: kinds of plain data whose == is =; slices; what walks of lists give. -/
namespace S3
open PySem
class Enc (α : Type) [DecidableEq α] where
  enc : α → D
  pd : α → PyData
  dep : Nat
  ok : ∀ a n, dep ≤ n → okD n (enc a) = true
  pyE : ∀ a n, dep ≤ n → py n (enc a) = pd a
  eqv : ∀ a b, PyData.eqv (pd a) (pd b) = decide (a = b)
abbrev enc {α : Type} [DecidableEq α] [Enc α] : α → D := Enc.enc
theorem eqvAll_map {α : Type} [DecidableEq α] [Enc α] (l m : List α) : PyData.eqvAll (l.map Enc.pd) (m.map Enc.pd) = decide (l = m) := by
  induction l generalizing m with
  | nil => cases m <;> simp [PyData.eqvAll]
  | cons a l ih =>
    cases m with
    | nil => simp [PyData.eqvAll]
    | cons b m =>
      simp only [List.map_cons, PyData.eqvAll]
      rw [ih, Enc.eqv]
      by_cases h1 : a = b <;> by_cases h2 : l = m <;> simp [h1, h2]
instance : Enc Str where
  enc := .str
  pd := .str
  dep := 0
  ok := fun a n _ => by cases n <;> rfl
  pyE := fun a n _ => by cases n <;> rfl
  eqv := fun a b => by
    by_cases h : a = b
    · subst h; simp [PyData.eqv]
    · simp [PyData.eqv, h]
instance : Enc Int where
  enc := .int
  pd := .int
  dep := 0
  ok := fun a n _ => by cases n <;> rfl
  pyE := fun a n _ => by cases n <;> rfl
  eqv := fun a b => py_ii a b
instance {α β : Type} [DecidableEq α] [DecidableEq β] [Enc α] [Enc β] : Enc (α × β) where
  enc := fun p => .tup [enc p.1, enc p.2]
  pd := fun p => .tuple [Enc.pd p.1, Enc.pd p.2]
  dep := max (Enc.dep α) (Enc.dep β) + 1
  ok := fun a n h => by
    cases n with
    | zero => omega
    | succ n =>
      show [enc a.1, enc a.2].all (okD n) = true
      simp [Enc.ok a.1 n (by omega), Enc.ok a.2 n (by omega)]
  pyE := fun a n h => by
    cases n with
    | zero => omega
    | succ n =>
      show PyData.tuple ([enc a.1, enc a.2].map (py n)) = _
      simp [Enc.pyE a.1 n (by omega), Enc.pyE a.2 n (by omega)]
  eqv := fun a b => by
    obtain ⟨a1, a2⟩ := a
    obtain ⟨b1, b2⟩ := b
    simp only [PyData.eqv, PyData.eqvAll, Enc.eqv]
    by_cases h1 : a1 = b1 <;> by_cases h2 : a2 = b2 <;> simp [h1, h2]
instance {α : Type} [DecidableEq α] [Enc α] : Enc (List α) where
  enc := fun l => .lst (l.map enc)
  pd := fun l => .list (l.map Enc.pd)
  dep := Enc.dep α + 1
  ok := fun a n h => by
    cases n with
    | zero => omega
    | succ n =>
      show (a.map enc).all (okD n) = true
      rw [List.all_map, List.all_eq_true]
      exact fun x _ => Enc.ok x n (by omega)
  pyE := fun a n h => by
    cases n with
    | zero => omega
    | succ n =>
      show PyData.list ((a.map enc).map (py n)) = _
      rw [List.map_map]
      congr 1
      exact List.map_congr_left fun x _ => Enc.pyE x n (by omega)
  eqv := fun a b => by
    show PyData.eqvAll (a.map Enc.pd) (b.map Enc.pd) = _
    exact eqvAll_map a b
section
variable {α : Type} [DecidableEq α] [Enc α]
theorem dEq_enc (a b : α) (h : Enc.dep α ≤ 6) : dEq (enc a) (enc b) = some (decide (a = b)) := by
  unfold dEq
  rw [Enc.ok a 6 h, Enc.ok b 6 h, Enc.pyE a 6 h, Enc.pyE b 6 h, Enc.eqv]
  rfl
theorem opEq_enc (a b : α) (h : Enc.dep α ≤ 6 := by decide) : opEq (enc a) (enc b) = some (.fz (.bl (decide (a = b)))) := by
  unfold opEq; rw [dEq_enc a b h]; rfl
theorem opNe_enc (a b : α) (h : Enc.dep α ≤ 6 := by decide) : opNe (enc a) (enc b) = some (.fz (.bl (!decide (a = b)))) := by
  unfold opNe; rw [dEq_enc a b h]; rfl
theorem opIn_enc (a : α) (xs : List α) (h : Enc.dep α ≤ 5 := by decide) : opIn (enc a) (enc xs) = some (.fz (.bl (decide (a ∈ xs)))) := by
  show bRV (if (okD 6 (enc a) && (xs.map enc).all (okD 5)) = true then some ((xs.map enc).any fun z => PyData.eqv (py 6 z) (py 6 (enc a))) else none) = _
  have h1 : (xs.map enc).all (okD 5) = true := by
    rw [List.all_map, List.all_eq_true]
    exact fun x _ => Enc.ok x 5 h
  rw [h1, Enc.ok a 6 (by omega), Bool.true_and, if_pos rfl]
  show some (RV.fz (D.bl _)) = _
  congr 3
  rw [List.any_map]
  induction xs with
  | nil => rfl
  | cons y ys ih =>
    rw [List.any_cons, ih (by simp at h1 ⊢; exact h1.2)]
    show (PyData.eqv (py 6 (enc y)) (py 6 (enc a)) || _) = _
    rw [Enc.pyE a 6 (by omega), Enc.pyE y 6 (by omega), Enc.eqv]
    by_cases c : y = a
    · subst c; simp
    · have c2 : ¬ a = y := fun z => c z.symm
      simp [c, c2]
theorem nin_of_opIn {x y : D} {b : Bool} (h : opIn x y = some (.fz (.bl b))) : opNotIn x y = some (.fz (.bl (!b))) := by
  unfold opIn at h
  unfold opNotIn
  cases e : dIn x y with
  | none => rw [e] at h; cases h
  | some c =>
    rw [e] at h
    have : c = b := by simpa [bRV] using h
    rw [this]
    rfl
theorem opNotIn_enc (a : α) (xs : List α) (h : Enc.dep α ≤ 5 := by decide) : opNotIn (enc a) (enc xs) = some (.fz (.bl (!decide (a ∈ xs)))) := nin_of_opIn (opIn_enc a xs h)
end
/-! lists and sets of strings -/
def strL (xs : List Str) : List D := xs.map .str
def setD (xs : List Str) : D := .st (xs.map Sum.inr)
theorem kIn_strs (x : Str) (xs : List Str) : kIn (.inr x) (xs.map Sum.inr) = decide (x ∈ xs) := by
  rw [Bool.eq_iff_iff, kIn_iff, decide_eq_true_iff]
  exact ⟨fun h => by obtain ⟨y, hy, e⟩ := List.mem_map.mp h; cases e; exact hy, fun h => List.mem_map.mpr ⟨x, h, rfl⟩⟩
theorem in_set (x : Str) (xs : List Str) : opIn (.str x) (setD xs) = some (.fz (.bl (decide (x ∈ xs)))) := by
  show bRV (some (kIn (.inr x) (xs.map Sum.inr))) = _
  rw [kIn_strs]
  rfl
theorem nin_set (x : Str) (xs : List Str) : opNotIn (.str x) (setD xs) = some (.fz (.bl (!decide (x ∈ xs)))) := nin_of_opIn (in_set x xs)
theorem add_set {x : Str} {xs : List Str} (h : x ∉ xs) (hz : xs.length < 4000) : mAdd (setD xs) [.str x] = some (setD (xs ++ [x]), .fz .non) := by
  show (if (xs.map Sum.inr : List Key).length < 4000 then some (D.st (addKey (xs.map Sum.inr) (.inr x)), RV.fz .non) else none) = _
  rw [if_pos (by rw [List.length_map]; exact hz)]
  unfold addKey
  rw [kIn_strs, decide_eq_false h]
  unfold setD
  rw [List.map_append]
  rfl
theorem del_set (x : Str) (xs : List Str) : mDiscard (setD xs) [.str x] = some (setD (xs.filter fun y => decide (y ≠ x)), .fz .non) := by
  show some (D.st (delKey (xs.map Sum.inr) (.inr x)), RV.fz .non) = _
  unfold delKey setD
  rw [List.filter_map]
  congr 5
  funext y
  show decide ((Sum.inr y : Key) ≠ Sum.inr x) = decide (y ≠ x)
  by_cases h : y = x
  · subst h; simp
  · simp [h]
theorem unKeys_strs (xs : List Str) : unKeys (xs.map Sum.inr) = some xs := by
  induction xs with
  | nil => rfl
  | cons x xs ih => simp only [List.map_cons, unKeys, ih]; rfl
theorem strsOf_strs (xs : List Str) : strsOf (strL xs) = some xs := by
  induction xs with
  | nil => rfl
  | cons x xs ih =>
    show (strsOf (strL xs)).map (x :: ·) = _
    rw [ih]
    rfl
theorem sorted_set (xs : List Str) : opSorted (setD xs) = some (.nw (.lst (strL (sortS xs)))) := by
  show (unKeys (xs.map Sum.inr)).map _ = _
  rw [unKeys_strs]
  rfl
theorem sorted_strL (xs : List Str) (h : xs.length ≤ BIG) : opSorted (.lst (strL xs)) = some (.nw (.lst (strL (sortS xs)))) := by
  show (match strsOf (strL xs) with | some ss => _ | none => _) = _
  rw [strsOf_strs]
  show (if xs.length ≤ BIG then _ else _) = _
  rw [if_pos h]
  rfl
theorem sortS_same {xs ys : List Str} (h1 : xs.Nodup) (h2 : ys.Nodup) (h : ∀ x, x ∈ xs ↔ x ∈ ys) : sortS xs = sortS ys := sortS_congr ((List.perm_ext_iff_of_nodup h1 h2).mpr h)
@[simp] theorem isSet_d (xs : List Str) : isSet (setD xs) = true := rfl
theorem strL_isE (xs : List Str) : (strL xs).isEmpty = xs.isEmpty := by cases xs <;> rfl
theorem strL_len (xs : List Str) : (strL xs).length = xs.length := List.length_map _
theorem mPop_strL (xs : List Str) (x : Str) : mPop (.lst (strL (xs ++ [x]))) [] = some (.lst (strL xs), .fz (.str x)) := by
  unfold mPop strL
  simp
/-! C4..C6's words -/
@[simp] theorem aStar_e {f : EV} {g : AV} {e : Env} : aStar f g e = match f e with
  | .ok r e1 => (match (rd r e1).bind seqI with
    | some xs => (match g e1 with
      | .ok rs e2 => .ok (xs.map .fz ++ rs) e2
      | .ex x e2 => .ex x e2
      | .no => .no)
    | none => .no)
  | .ex x e1 => .ex x e1
  | .no => .no := rfl
@[simp] theorem seqI_l (xs : List D) : seqI (.lst xs) = some xs := rfl
@[simp] theorem seqI_t (xs : List D) : seqI (.tup xs) = some xs := rfl
theorem fzs_app (xs : List D) (rs : List RV) : fzs (xs.map .fz ++ rs) = (fzs rs).map (xs ++ ·) := by
  induction xs with
  | nil => simp
  | cons x xs ih =>
    rw [List.map_cons, List.cons_append, fzs_cons, ih, Option.map_map]
    rfl
@[simp] theorem sAug_e {i : Nat} {g : Int → Int → Int} {f : EV} {e : Env} : sAug i g f e = match slot e i with
  | .fz (.int a) => (match f e with
    | .ok r e1 => (match rd r e1 with
      | some (.int b) => .nx (e1.set i (.fz (.int (g a b))))
      | _ => .no)
    | .ex x e1 => .ex x e1
    | .no => .no)
  | _ => .no := rfl
theorem whN_e {tmp : List Nat} {i n : Nat} {f : EV} {b : SV} {e : Env} : whN tmp i f b (n + 1) e = match f e with
  | .ok r e1 => (match setS i r e1 with
    | some e2 => (match slot e2 i with
      | .fz .non => (match b e2 with
        | .nx e3 => whN tmp i f b n (wipeE e3 tmp)
        | .ct e3 => whN tmp i f b n (wipeE e3 tmp)
        | .bk e3 => .nx (wipeE e3 tmp)
        | .rt r e3 => .rt r e3
        | .ex x e3 => .ex x e3
        | .no => .no)
      | .no => .no
      | _ => .nx e2)
    | none => .no)
  | .ex x e1 => .ex x e1
  | .no => .no := by rw [whN]; rfl
theorem toKeys_strL (xs : List Str) : toKeys (strL xs) = some (xs.map Sum.inr) := by
  induction xs with
  | nil => rfl
  | cons x xs ih =>
    show (match toKey (.str x), toKeys (strL xs) with | some k, some ks => some (k :: ks) | _, _ => none) = _
    rw [ih]
    rfl
theorem dedKey_nodup {ks : List Key} (h : ks.Nodup) : dedKey ks = ks := by
  have : ∀ (ks acc : List Key), (acc ++ ks).Nodup → ks.foldl addKey acc = acc ++ ks := by
    intro ks
    induction ks with
    | nil => intro acc _; simp
    | cons k ks ih =>
      intro acc h
      have hn : k ∉ acc := fun z => by
        rw [List.nodup_append] at h
        exact h.2.2 k z k List.mem_cons_self rfl
      have e : addKey acc k = acc ++ [k] := by
        unfold addKey
        rw [if_neg (fun z => hn (kIn_iff.mp z))]
      rw [List.foldl_cons, e, ih _ (by rw [List.append_assoc]; exact h), List.append_assoc]
      rfl
  have := this ks [] h
  exact this
theorem set_strL {xs : List Str} (h : xs.Nodup) (hz : xs.length < 4000) : opSet (.lst (strL xs)) = some (.nw (setD xs)) := by
  show (match toKeys (strL xs) with | some ks => if ks.length < 4000 then some (RV.nw (.st (dedKey ks))) else none | none => none) = _
  rw [toKeys_strL]
  show (if (xs.map Sum.inr : List Key).length < 4000 then _ else _) = _
  rw [if_pos (by rw [List.length_map]; exact hz)]
  have hn : (xs.map Sum.inr : List Key).Nodup := List.Pairwise.map _ (fun a b (h : a ≠ b) (e : (Sum.inr a : Key) = Sum.inr b) => h (Sum.inr.inj e)) h
  rw [dedKey_nodup hn]
  rfl
@[simp] theorem sPutL_e {i : Nat} {f g : EV} {e : Env} : sPutL i f g e = match f e with
  | .ok r e0 => (match stl r e0 with
    | some (v, e1) => if mine isLst (slot e1 i) then (match g e1 with
      | .ok q e2 => (match rd q e2 with
        | some y => if mine isLst (slot e2 i) then (match (slot e2 i).val with
          | some d => (match mPutL d y v with
            | some d' => .nx (e2.set i (reown (slot e2 i) d'))
            | none => .no)
          | none => .no) else .no
        | none => .no)
      | .ex x e1 => .ex x e1
      | .no => .no) else .no
    | none => .no)
  | .ex x e1 => .ex x e1
  | .no => .no := rfl
theorem lt_of_leS {a b : Str} (h : leS a b = true) (n : a ≠ b) : a.cps.toList < b.cps.toList := by
  by_cases c : a.cps.toList < b.cps.toList
  · exact c
  · exact (n (cps_inj (List.le_antisymm (leS_iff.mp h) (List.not_lt.mp c)))).elim
@[simp] theorem wFz_e {f : EV} {e : Env} : wFz f e = match f e with
  | .ok r e0 => (match stl r e0 with
    | some (d, e1) => (match items d with
      | some xs => .ok xs e1
      | none => .no)
    | none => .no)
  | .ex x e1 => .ex x e1
  | .no => .no := rfl
theorem addL_ok {acc : List D} {x : D} (h : acc.length < BIG) : addL acc x = some (acc ++ [x]) := if_pos h
def addStr (xs : List Str) (x : Str) : List Str := if x ∈ xs then xs else xs ++ [x]
theorem addS_ok {xs : List Str} {x : Str} (h : xs.length < 4000) : addS (xs.map Sum.inr) (.str x) = some ((addStr xs x).map Sum.inr) := by
  show (if (xs.map Sum.inr : List Key).length < 4000 then some (addKey (xs.map Sum.inr) (.inr x)) else none) = _
  rw [if_pos (by rw [List.length_map]; exact h)]
  unfold addKey addStr
  rw [kIn_strs]
  by_cases c : x ∈ xs
  · rw [decide_eq_true c, if_pos rfl, if_pos c]
  · rw [decide_eq_false c, if_neg Bool.false_ne_true, if_neg c, List.map_append]
    rfl
theorem addStr_mem {xs : List Str} {x y : Str} : y ∈ addStr xs x ↔ y ∈ xs ∨ y = x := by
  unfold addStr
  split
  · rename_i h
    exact ⟨.inl, fun q => q.elim id fun e => e ▸ h⟩
  · rw [List.mem_append, List.mem_singleton]
theorem addStr_nodup {xs : List Str} {x : Str} (h : xs.Nodup) : (addStr xs x).Nodup := by
  unfold addStr
  split
  · exact h
  · rename_i c
    rw [List.nodup_append]
    exact ⟨h, by simp, fun y hy z hz e => c (by rw [List.mem_singleton] at hz; rw [← hz, ← e]; exact hy)⟩
theorem addStr_len (xs : List Str) (x : Str) : (addStr xs x).length ≤ xs.length + 1 := by
  unfold addStr
  split
  · omega
  · simp
end S3

namespace S3
open PySem L2
/-! ### the defs as terms -/
def b_valid_name (phi : String → List D → RC) : SV :=
 sSeq (sIf (tOrS (tNotS (tVal (eChain opLe opLe (eC (.int 1)) (eOp1 opLen (eSlot 0)) (eC (.int 8))))) (tVal (eOp2 opNotIn (eOp2 opIx (eSlot 0) (eC (.int 0))) (eC (.str "abcdefghijklmnopqrstuvwxyz"))))) (sRet (eC (.bl false))) (sNx)) (sRet (eOp1 opAll (eLc [1] (.one 1) (wAny (eSlot 0)) (tYesS) (eOr (eOp2 opIn (eSlot 1) (eC (.str "abcdefghijklmnopqrstuvwxyz"))) (eOp2 opIn (eSlot 1) (eC (.str "0123456789")))))))
def T_valid_name : Def := ⟨[.r], 2, b_valid_name⟩

def b__is_name (phi : String → List D → RC) : SV :=
 sRet (eAnd (eOp1 (opIsTy "str") (eSlot 0)) (eCall (phi "valid_name") [.r] (aCons (eSlot 0) (aNil))))
def T__is_name : Def := ⟨[.r], 1, b__is_name⟩

def b__are_things (phi : String → List D → RC) : SV :=
 sSeq (sIf (tOrS (tNotS (tTru (eOp1 (opIsTy "tuple") (eSlot 0)))) (tNotS (tTru (eOp1 opAll (eLc [1] (.one 1) (wAny (eSlot 0)) (tYesS) (eCall (phi "_is_name") [.r] (aCons (eSlot 1) (aNil)))))))) (sRet (eC (.bl false))) (sNx)) (sRet (eOp2 opEq (eOp1 opLen (eOp1 opSet (eSlot 0))) (eOp1 opLen (eSlot 0))))
def T__are_things : Def := ⟨[.r], 2, b__are_things⟩

def b_valid_step (phi : String → List D → RC) : SV :=
 sSeq (sMatch (eSlot 0) ((["begin", "quit"], [1], sRet (eCall (phi "_is_name") [.r] (aCons (eSlot 1) (aNil)))) :: ((["read"], [1, 2], sRet (eAnd (eCall (phi "_is_name") [.r] (aCons (eSlot 1) (aNil))) (eCall (phi "_is_name") [.r] (aCons (eSlot 2) (aNil))))) :: ((["close"], [1, 3], sRet (eAnd (eCall (phi "_is_name") [.r] (aCons (eSlot 1) (aNil))) (eCall (phi "_are_things") [.r] (aCons (eSlot 3) (aNil))))) :: [])))) (sRet (eC (.bl false)))
def T_valid_step : Def := ⟨[.r], 4, b_valid_step⟩

def b_format_step (phi : String → List D → RC) : SV :=
 sSeq (sIf (tNotS (tTru (eCall (phi "valid_step") [.r] (aCons (eSlot 0) (aNil))))) (sRaise "InvalidStep" ["step"] (aKeep (eSlot 0) (aNil))) (sNx)) (sSeq (sIf (tVal (eOp2 opEq (eOp2 opIx (eSlot 0) (eC (.int 0))) (eC (.str "close")))) (sSeq (sUnp [1, 2, 3] (eSlot 0)) (sRet (eOp1 (opJoin " ") (eDisp mkLst (aKeep (eSlot 1) (aKeep (eSlot 2) (aStar (eSlot 3) (aNil)))))))) (sNx)) (sRet (eOp1 (opJoin " ") (eSlot 0))))
def T_format_step : Def := ⟨[.v], 4, b_format_step⟩

def b__law_draws_of (phi : String → List D → RC) : SV :=
 sSeq (sSet 1 (eDisp mkLst (aNil))) (sSeq (sFor [2, 3, 4] (.one 2) (wAny (eSlot 0)) (sIf (tVal (eOp2 opLt (eOp1 opLen (eSlot 1)) (eC (.int 72)))) (sSeq (sSet 3 (eOp1 opAbs (eOp1 opInt (eSlot 2)))) (sIf (tVal (eOp2 opLt (eSlot 3) (eOp2 opPow (eC (.int 10)) (eC (.int 18))))) (sFor [4] (.one 4) (wR1 (eC (.int 3))) (sSeq (sSet 3 (eOp2 opMod (eOp1 opInt (eOp2 opAdd (eOp2 opAdd (eOp2 opMul (eSlot 3) (eC (.int 30011))) (eOp2 opMul (eC (.int 7919)) (eSlot 4))) (eC (.int 977)))) (eC (.int 65521)))) (sExpr (eMut 1 isLst mAppend (aKeep (eSlot 3) (aNil)))))) (sFor [4] (.one 4) (wR1 (eC (.int 60))) (sIf (tVal (eOp2 opGt (eSlot 3) (eC (.int 0)))) (sSeq (sExpr (eMut 1 isLst mAppend (aKeep (eOp2 opMod (eOp1 opInt (eSlot 3)) (eC (.int 65536))) (aNil)))) (sSet 3 (eOp2 opDiv (eSlot 3) (eC (.int 65536))))) (sNx))))) (sNx))) (sSeq (sIf (tVal (eOp2 opEq (eSlot 1) (eDisp mkLst (aNil)))) (sSet 1 (eDisp mkLst (aKeep (eC (.int 2)) (aKeep (eC (.int 10)) (aKeep (eC (.int 1)) (aKeep (eC (.int 0)) (aKeep (eC (.int 4)) (aKeep (eC (.int 0)) (aKeep (eC (.int 1052)) (aKeep (eC (.int 0)) (aKeep (eC (.int 148)) (aKeep (eC (.int 26)) (aKeep (eC (.int 132)) (aKeep (eC (.int 0)) (aKeep (eC (.int 20)) (aNil)))))))))))))))) (sNx)) (sRet (eSlot 1))))
def T__law_draws_of : Def := ⟨[.r], 5, b__law_draws_of⟩

def b__law_nth (phi : String → List D → RC) : SV :=
 sSeq (sIf (tVal (eOp2 opLt (eSlot 1) (eOp1 opLen (eSlot 0)))) (sRet (eOp2 opIx (eSlot 0) (eSlot 1))) (sNx)) (sRet (eOp2 opMod (eOp1 opInt (eOp2 opAdd (eOp2 opMul (eOp2 opIx (eSlot 0) (eOp2 opMod (eSlot 1) (eOp1 opLen (eSlot 0)))) (eC (.int 31))) (eOp2 opMul (eSlot 1) (eC (.int 7919))))) (eC (.int 65521))))
def T__law_nth : Def := ⟨[.r, .r], 2, b__law_nth⟩

def b__law_named (phi : String → List D → RC) : SV :=
 sSeq (sSet 2 (eOp2 opIx (eC (.str "abcdefghijklmnopqrstuvwxyz")) (eOp2 opMod (eOp1 opInt (eOp2 opAdd (eOp2 opMul (eSlot 0) (eC (.int 7))) (eOp2 opDiv (eSlot 1) (eC (.int 4))))) (eC (.int 26))))) (sSeq (sSet 3 (eOp2 opMod (eOp1 opInt (eSlot 1)) (eC (.int 4)))) (sSeq (sIf (tAndS (tVal (eOp2 opEq (eSlot 3) (eC (.int 1)))) (tVal (eOp2 opEq (eOp2 opMod (eOp2 opDiv (eOp1 opInt (eSlot 1)) (eC (.int 4))) (eC (.int 2))) (eC (.int 1))))) (sSeq (sSet 4 (eDisp mkLst (aKeep (eC (.str "write")) (aKeep (eC (.str "none")) (aKeep (eC (.str "read")) (aKeep (eC (.str "own")) (aKeep (eC (.str "close")) (aKeep (eC (.str "leads")) (aKeep (eC (.str "program")) (aKeep (eC (.str "to")) (aKeep (eC (.str "begin")) (aKeep (eC (.str "quit")) (aNil))))))))))))) (sRet (eOp2 opAdd (eOp2 opIx (eSlot 4) (eOp2 opMod (eOp1 opInt (eSlot 0)) (eC (.int 10)))) (eOp2 opMul (eC (.str "2")) (eOp2 opDiv (eOp1 opInt (eSlot 0)) (eC (.int 10))))))) (sNx)) (sSeq (sIf (tAndS (tVal (eOp2 opEq (eSlot 3) (eC (.int 3)))) (tVal (eOp2 opEq (eOp2 opMod (eOp2 opDiv (eOp1 opInt (eSlot 1)) (eC (.int 4))) (eC (.int 2))) (eC (.int 1))))) (sRet (eOp2 opAdd (eOp2 opMul (eC (.str "b")) (eOp2 opDiv (eOp1 opInt (eSlot 0)) (eC (.int 7)))) (eOp2 opMul (eC (.str "a")) (eOp2 opAdd (eOp2 opMod (eOp1 opInt (eSlot 0)) (eC (.int 7))) (eC (.int 1)))))) (sNx)) (sSeq (sIf (tVal (eOp2 opEq (eSlot 3) (eC (.int 1)))) (sRet (eOp2 opAdd (eOp2 opMul (eC (.str "q")) (eOp2 opMod (eOp1 opInt (eSlot 0)) (eC (.int 3)))) (eSlot 2))) (sNx)) (sSeq (sIf (tVal (eOp2 opEq (eSlot 3) (eC (.int 2)))) (sSeq (sSet 5 (eOp2 opAdd (eSlot 2) (eOp1 opStr (eOp2 opMod (eOp1 opInt (eOp2 opDiv (eSlot 1) (eC (.int 4)))) (eC (.int 10000)))))) (sSeq (sIf (tVal (eOp2 opEq (eOp2 opMod (eOp1 opInt (eSlot 0)) (eC (.int 4))) (eC (.int 3)))) (sRet (eOp2 opAdd (eSlot 5) (eOp2 opMul (eC (.str "x")) (eOp2 opSub (eC (.int 8)) (eOp1 opLen (eSlot 5)))))) (sNx)) (sRet (eOp2 opAdd (eSlot 5) (eOp2 opMul (eC (.str "x")) (eOp2 opMod (eOp1 opInt (eSlot 0)) (eC (.int 4)))))))) (sNx)) (sSeq (sIf (tVal (eOp2 opEq (eSlot 3) (eC (.int 3)))) (sRet (eOp2 opAdd (eC (.str "m")) (eOp1 opStr (eOp2 opSub (eC (.int 100)) (eOp2 opMul (eC (.int 7)) (eSlot 0)))))) (sNx)) (sRet (eSlot 2))))))))
def T__law_named : Def := ⟨[.r, .r], 6, b__law_named⟩

def b__law_is_name (phi : String → List D → RC) : SV :=
 sSeq (sIf (tOrS (tNotS (tTru (eOp1 (opIsTy "str") (eSlot 0)))) (tOrS (tVal (eOp2 opLt (eOp1 opLen (eSlot 0)) (eC (.int 1)))) (tVal (eOp2 opGt (eOp1 opLen (eSlot 0)) (eC (.int 8)))))) (sRet (eC (.bl false))) (sNx)) (sSeq (sFor [1] (.one 1) (wR1 (eOp1 opLen (eSlot 0))) (sIf (tVal (eOp2 opNotIn (eOp2 opIx (eSlot 0) (eSlot 1)) (eC (.str "abcdefghijklmnopqrstuvwxyz")))) (sIf (tOrS (tVal (eOp2 opEq (eSlot 1) (eC (.int 0)))) (tVal (eOp2 opNotIn (eOp2 opIx (eSlot 0) (eSlot 1)) (eC (.str "0123456789"))))) (sRet (eC (.bl false))) (sNx)) (sNx))) (sRet (eC (.bl true))))
def T__law_is_name : Def := ⟨[.r], 2, b__law_is_name⟩

def b__law_is_step (phi : String → List D → RC) : SV :=
 sSeq (sIf (tOrS (tVal (eOp2 opLt (eOp1 opLen (eSlot 0)) (eC (.int 2)))) (tNotS (tTru (eCall (phi "_law_is_name") [.r] (aCons (eOp2 opIx (eSlot 0) (eC (.int 1))) (aNil)))))) (sRet (eC (.bl false))) (sNx)) (sSeq (sIf (tOrS (tVal (eOp2 opEq (eOp2 opIx (eSlot 0) (eC (.int 0))) (eC (.str "begin")))) (tVal (eOp2 opEq (eOp2 opIx (eSlot 0) (eC (.int 0))) (eC (.str "quit"))))) (sRet (eOp2 opEq (eOp1 opLen (eSlot 0)) (eC (.int 2)))) (sNx)) (sSeq (sIf (tVal (eOp2 opEq (eOp2 opIx (eSlot 0) (eC (.int 0))) (eC (.str "read")))) (sRet (eAnd (eOp2 opEq (eOp1 opLen (eSlot 0)) (eC (.int 3))) (eCall (phi "_law_is_name") [.r] (aCons (eOp2 opIx (eSlot 0) (eC (.int 2))) (aNil))))) (sNx)) (sSeq (sIf (tOrS (tVal (eOp2 opNe (eOp2 opIx (eSlot 0) (eC (.int 0))) (eC (.str "close")))) (tOrS (tVal (eOp2 opNe (eOp1 opLen (eSlot 0)) (eC (.int 3)))) (tNotS (tTru (eOp1 (opIsTy "tuple") (eOp2 opIx (eSlot 0) (eC (.int 2)))))))) (sRet (eC (.bl false))) (sNx)) (sSeq (sFor [1] (.one 1) (wR1 (eOp1 opLen (eOp2 opIx (eSlot 0) (eC (.int 2))))) (sIf (tOrS (tNotS (tTru (eCall (phi "_law_is_name") [.r] (aCons (eOp2 opIx (eOp2 opIx (eSlot 0) (eC (.int 2))) (eSlot 1)) (aNil))))) (tVal (eOp2 opIn (eOp2 opIx (eOp2 opIx (eSlot 0) (eC (.int 2))) (eSlot 1)) (eOp2 opCutHi (eOp2 opIx (eSlot 0) (eC (.int 2))) (eI (eSlot 1)))))) (sRet (eC (.bl false))) (sNx))) (sRet (eC (.bl true)))))))
def T__law_is_step : Def := ⟨[.r], 2, b__law_is_step⟩

def b__law_part_of (phi : String → List D → RC) : SV :=
 sSeq (sSet 2 (eDisp mkLst (aKeep (eC (.str "")) (aKeep (eC (.str "A")) (aKeep (eC (.str "9a")) (aKeep (eC (.str "abcdefghi")) (aKeep (eC (.str "a b")) (aKeep (eC (.str "a\n")) (aKeep (eC (.str "-")) (aKeep (eC (.str "aB")) (aKeep (eC (.str "a.b")) (aKeep (eC (.str "begin")) (aKeep (eC (.str "a2345678")) (aKeep (eC (.str "z")) (aNil))))))))))))))) (sSeq (sIf (tVal (eOp2 opEq (eOp2 opMod (eOp1 opInt (eSlot 0)) (eC (.int 4))) (eC (.int 1)))) (sRet (eOp2 opIx (eSlot 2) (eOp2 opMod (eOp2 opDiv (eOp1 opInt (eSlot 0)) (eC (.int 4))) (eC (.int 12))))) (sNx)) (sRet (eCall (phi "_law_named") [.r, .r] (aCons (eOp2 opMod (eOp2 opDiv (eOp1 opInt (eSlot 0)) (eC (.int 4))) (eC (.int 12))) (aCons (eSlot 1) (aNil))))))
def T__law_part_of : Def := ⟨[.r, .r], 3, b__law_part_of⟩

def b__law_things_of (phi : String → List D → RC) : SV :=
 sSeq (sSet 2 (eOp2 opMod (eOp2 opDiv (eOp1 opInt (eSlot 0)) (eC (.int 8))) (eC (.int 5)))) (sSeq (sSet 3 (eOp2 opMod (eOp2 opDiv (eOp1 opInt (eSlot 0)) (eC (.int 64))) (eC (.int 3)))) (sSeq (sSet 4 (eDisp mkTup (aNil))) (sSeq (sFor [5] (.one 5) (wR1 (eOp2 opMod (eOp2 opDiv (eOp1 opInt (eSlot 0)) (eC (.int 256))) (eC (.int 7)))) (sSet 4 (eOp2 opAdd (eSlot 4) (eDisp mkTup (aKeep (eCall (phi "_law_named") [.r, .r] (aCons (eOp2 opAdd (eSlot 2) (eOp2 opMul (eSlot 5) (eSlot 3))) (aCons (eSlot 1) (aNil)))) (aNil)))))) (sSeq (sIf (tVal (eOp2 opEq (eOp2 opMod (eOp1 opInt (eSlot 0)) (eC (.int 8))) (eC (.int 1)))) (sSet 4 (eOp2 opAdd (eSlot 4) (eDisp mkTup (aKeep (eCall (phi "_law_part_of") [.r, .r] (aCons (eOp2 opDiv (eSlot 0) (eC (.int 8))) (aCons (eSlot 1) (aNil)))) (aNil))))) (sNx)) (sRet (eSlot 4))))))
def T__law_things_of : Def := ⟨[.r, .r], 6, b__law_things_of⟩

def b__law_text_of (phi : String → List D → RC) : SV :=
 sSeq (sSet 1 (eOp2 opAdd (eOp2 opAdd (eOp2 opIx (eSlot 0) (eC (.int 0))) (eC (.str " "))) (eOp2 opIx (eSlot 0) (eC (.int 1))))) (sSeq (sIf (tVal (eOp2 opEq (eOp2 opIx (eSlot 0) (eC (.int 0))) (eC (.str "read")))) (sSet 1 (eOp2 opAdd (eOp2 opAdd (eSlot 1) (eC (.str " "))) (eOp2 opIx (eSlot 0) (eC (.int 2))))) (sNx)) (sSeq (sIf (tVal (eOp2 opEq (eOp2 opIx (eSlot 0) (eC (.int 0))) (eC (.str "close")))) (sFor [2] (.one 2) (wAny (eOp2 opIx (eSlot 0) (eC (.int 2)))) (sSet 1 (eOp2 opAdd (eOp2 opAdd (eSlot 1) (eC (.str " "))) (eSlot 2)))) (sNx)) (sRet (eSlot 1))))
def T__law_text_of : Def := ⟨[.r], 3, b__law_text_of⟩

def b__law_refused (phi : String → List D → RC) : SV :=
 sSeq (sTry (subs ["InvalidStep"]) 1 (sExpr (eCall (phi "format_step") [.v] (aKeep (eSlot 0) (aNil)))) (sSeq (sIf (tOrS (tTru (eOp1 (opXis (subs [])) (eSlot 1))) (tOrS (tTru (eOp1 (opXis (subs [])) (eSlot 1))) (tNotS (tTru (eOp1 (opXis (subs ["InvalidStep"])) (eSlot 1)))))) (sRet (eC (.bl false))) (sNx)) (sRet (eAnd (eOp1 (opXis (subs ["InvalidStep"])) (eSlot 1)) (eAnd (eOp1 (opIsTy "tuple") (eOp1 (opXf "step") (eSlot 1))) (eOp2 opEq (eOp1 (opXf "step") (eSlot 1)) (eSlot 0))))))) (sRet (eC (.bl false)))
def T__law_refused : Def := ⟨[.v], 2, b__law_refused⟩

def b__law_said (phi : String → List D → RC) : SV :=
 sSeq (sIf (tTru (eSlot 1)) (sRet (eOp2 opIs (eSlot 0) (eC (.bl true)))) (sNx)) (sRet (eOp2 opIs (eSlot 0) (eC (.bl false))))
def T__law_said : Def := ⟨[.r, .r], 2, b__law_said⟩

def b_law (phi : String → List D → RC) : SV :=
 sSeq (sSet 1 (eCall (phi "_law_draws_of") [.r] (aCons (eSlot 0) (aNil)))) (sSeq (sSet 2 (eOp2 opDiv (eOp1 opInt (eOp2 opIx (eSlot 1) (eC (.int 0)))) (eC (.int 8)))) (sSeq (sSet 3 (eDisp mkTup (aKeep (eOp2 opIx (eDisp mkLst (aKeep (eC (.str "begin")) (aKeep (eC (.str "read")) (aKeep (eC (.str "close")) (aKeep (eC (.str "quit")) (aKeep (eC (.str "open")) (aKeep (eC (.str "Close")) (aKeep (eC (.str "")) (aKeep (eC (.str "reads")) (aNil)))))))))) (eOp2 opMod (eOp1 opInt (eOp2 opIx (eSlot 1) (eC (.int 0)))) (eC (.int 8)))) (aNil)))) (sSeq (sFor [4, 5] (.one 4) (wR1 (eOp2 opMod (eOp1 opInt (eOp2 opIx (eSlot 1) (eC (.int 1)))) (eC (.int 4)))) (sSeq (sSet 5 (eCall (phi "_law_nth") [.r, .r] (aCons (eSlot 1) (aCons (eOp2 opAdd (eC (.int 3)) (eSlot 4)) (aNil))))) (sIf (tVal (eOp2 opEq (eOp2 opMod (eOp2 opDiv (eOp1 opInt (eSlot 5)) (eC (.int 64))) (eC (.int 3))) (eC (.int 0)))) (sSet 3 (eOp2 opAdd (eSlot 3) (eDisp mkTup (aKeep (eCall (phi "_law_things_of") [.r, .r] (aCons (eSlot 5) (aCons (eSlot 2) (aNil)))) (aNil))))) (sSet 3 (eOp2 opAdd (eSlot 3) (eDisp mkTup (aKeep (eCall (phi "_law_part_of") [.r, .r] (aCons (eSlot 5) (aCons (eSlot 2) (aNil)))) (aNil)))))))) (sSeq (sSet 6 (eCall (phi "_law_part_of") [.r, .r] (aCons (eOp2 opDiv (eOp2 opIx (eSlot 1) (eC (.int 1))) (eC (.int 4))) (aCons (eSlot 2) (aNil))))) (sSeq (sSet 7 (eCall (phi "_law_part_of") [.r, .r] (aCons (eOp2 opIx (eSlot 1) (eC (.int 2))) (aCons (eSlot 2) (aNil))))) (sSeq (sSet 8 (eCall (phi "_law_things_of") [.r, .r] (aCons (eCall (phi "_law_nth") [.r, .r] (aCons (eSlot 1) (aCons (eC (.int 7)) (aNil)))) (aCons (eSlot 2) (aNil))))) (sSeq (sSet 9 (eDisp mkLst (aKeep (eDisp mkTup (aNil)) (aKeep (eSlot 3) (aKeep (eDisp mkTup (aKeep (eC (.str "begin")) (aKeep (eSlot 6) (aNil)))) (aKeep (eDisp mkTup (aKeep (eC (.str "quit")) (aKeep (eSlot 6) (aNil)))) (aKeep (eDisp mkTup (aKeep (eC (.str "read")) (aKeep (eSlot 6) (aKeep (eSlot 7) (aNil))))) (aNil)))))))) (sSeq (sExpr (eMut 9 isLst mAppend (aKeep (eDisp mkTup (aKeep (eC (.str "close")) (aKeep (eSlot 6) (aKeep (eSlot 8) (aNil))))) (aNil)))) (sSeq (sExpr (eMut 9 isLst mAppend (aKeep (eDisp mkTup (aKeep (eC (.str "close")) (aKeep (eSlot 6) (aKeep (eOp2 opAdd (eSlot 8) (eDisp mkTup (aKeep (eSlot 7) (aNil)))) (aNil))))) (aNil)))) (sSeq (sSet 9 (eOp2 opAdd (eSlot 9) (eDisp mkLst (aKeep (eDisp mkTup (aKeep (eC (.str "close")) (aKeep (eSlot 6) (aKeep (eDisp mkTup (aNil)) (aNil))))) (aKeep (eDisp mkTup (aKeep (eC (.str "close")) (aKeep (eSlot 6) (aKeep (eSlot 7) (aNil))))) (aNil)))))) (sSeq (sSet 9 (eOp2 opAdd (eSlot 9) (eDisp mkLst (aKeep (eDisp mkTup (aKeep (eC (.str "read")) (aKeep (eSlot 6) (aKeep (eSlot 8) (aNil))))) (aKeep (eDisp mkTup (aKeep (eC (.str "read")) (aKeep (eSlot 6) (aNil)))) (aKeep (eDisp mkTup (aKeep (eC (.str "quit")) (aNil))) (aNil))))))) (sSeq (sSet 9 (eOp2 opAdd (eSlot 9) (eDisp mkLst (aKeep (eDisp mkTup (aKeep (eC (.str "begin")) (aKeep (eSlot 6) (aKeep (eSlot 7) (aNil))))) (aKeep (eDisp mkTup (aKeep (eC (.str "begin")) (aKeep (eSlot 8) (aNil)))) (aNil)))))) (sSeq (sSet 9 (eOp2 opAdd (eSlot 9) (eDisp mkLst (aKeep (eDisp mkTup (aKeep (eSlot 8) (aKeep (eSlot 6) (aNil)))) (aKeep (eDisp mkTup (aKeep (eC (.str "close")) (aKeep (eSlot 6) (aNil)))) (aNil)))))) (sSeq (sExpr (eMut 9 isLst mAppend (aKeep (eDisp mkTup (aKeep (eC (.str "read")) (aKeep (eSlot 6) (aKeep (eSlot 7) (aKeep (eSlot 7) (aNil)))))) (aNil)))) (sSeq (sExpr (eMut 9 isLst mAppend (aKeep (eDisp mkTup (aKeep (eC (.str "close")) (aKeep (eSlot 6) (aKeep (eSlot 8) (aKeep (eSlot 8) (aNil)))))) (aNil)))) (sSeq (sFor [10, 11, 12] (.one 10) (wAny (eSlot 9)) (sSeq (sSet 11 (eCall (phi "_law_is_step") [.r] (aCons (eSlot 10) (aNil)))) (sSeq (sIf (tNotS (tTru (eCall (phi "_law_said") [.r, .r] (aCons (eCall (phi "valid_step") [.r] (aCons (eSlot 10) (aNil))) (aCons (eSlot 11) (aNil)))))) (sRet (eC (.bl false))) (sNx)) (sSeq (sIf (tAndS (tNotS (tTru (eSlot 11))) (tNotS (tTru (eCall (phi "_law_refused") [.v] (aKeep (eSlot 10) (aNil)))))) (sRet (eC (.bl false))) (sNx)) (sIf (tTru (eSlot 11)) (sSeq (sSet 12 (eCall (phi "format_step") [.v] (aKeep (eSlot 10) (aNil)))) (sIf (tOrS (tNotS (tTru (eOp1 (opIsTy "str") (eSlot 12)))) (tVal (eOp2 opNe (eSlot 12) (eCall (phi "_law_text_of") [.r] (aCons (eSlot 10) (aNil)))))) (sRet (eC (.bl false))) (sNx))) (sNx)))))) (sRet (eC (.bl true)))))))))))))))))))
def T_law : Def := ⟨[.v], 13, b_law⟩

def tab : String → Option Def
  | "valid_name" => some T_valid_name
  | "_is_name" => some T__is_name
  | "_are_things" => some T__are_things
  | "valid_step" => some T_valid_step
  | "format_step" => some T_format_step
  | "_law_draws_of" => some T__law_draws_of
  | "_law_nth" => some T__law_nth
  | "_law_named" => some T__law_named
  | "_law_is_name" => some T__law_is_name
  | "_law_is_step" => some T__law_is_step
  | "_law_part_of" => some T__law_part_of
  | "_law_things_of" => some T__law_things_of
  | "_law_text_of" => some T__law_text_of
  | "_law_refused" => some T__law_refused
  | "_law_said" => some T__law_said
  | "law" => some T_law
  | _ => none
/-! ### the text says these terms -/
def top (i : Nat) : Stmt := PySem.Challenge.pw_letforget_k02_steps_and_written_forms.main.body.getD i (.Pass ⟨0, 0, 0, 0⟩)
def clsB (s : Stmt) (j : Nat) : Stmt := match s with | .ClassDef _ _ _ body _ _ _ _ _ _ _ => body.getD j (.Pass ⟨0, 0, 0, 0⟩) | s => s
abbrev st_InvalidStep : Stmt := clsB (top 2) 0
theorem it_InvalidStep : PySem.S3X.InitTxt (defArgs st_InvalidStep) (defScope st_InvalidStep) (defBody st_InvalidStep) ["step"] := { head := ⟨_, rfl, rfl⟩, body := ⟨_, _, _, _, _, _, _, _, _, rfl, rfl, ⟨⟨_, _, _, _, rfl⟩, trivial⟩⟩, su := rfl, cl := rfl, se := rfl, fl := by decide +kernel, nd := by decide, db := by decide, nc := by decide +kernel, co := rfl, gn := rfl, kd := rfl }
structure Tab (ca : Str → Option Addr) (P : Program) (w : World) (K : PySem.W.Frag) (mg : Str → Option Value) (base : Heap) (k : Nat) (phi : String → List D → RC) : Prop where
  b_len : mg "len" = none
  b_all : mg "all" = none
  b_isinstance : mg "isinstance" = none
  b_str : mg "str" = none
  b_tuple : mg "tuple" = none
  b_set : mg "set" = none
  b_super : mg "super" = none
  b_int : mg "int" = none
  b_abs : mg "abs" = none
  b_range : mg "range" = none
  e_LONGEST : ∃ t, mg "LONGEST" = some (.int 8 t)
  e_LETTERS : ∃ t, mg "LETTERS" = some (.str "abcdefghijklmnopqrstuvwxyz" t)
  e_DIGITS : ∃ t, mg "DIGITS" = some (.str "0123456789" t)
  xs : XsOk ca K ["step"]
  c_InvalidStep : ClsT ca P K mg "InvalidStep" ["step"]
  is_InvalidLine : IsOwn ca K mg "InvalidLine" (subs [])
  is_NotRunning : IsOwn ca K mg "NotRunning" (subs [])
  is_KeeperError : IsOwn ca K mg "KeeperError" (subs ["InvalidStep"])
  ib_ValueError : IsBlt ca K mg "ValueError" "ValueError" (subs ["InvalidStep"])
  x_InvalidStep : ExcOf ca K mg "InvalidStep" (subs ["InvalidStep"])
  f_valid_name : FnT ca P w K mg base k "valid_name" [.r] (phi "valid_name")
  f__is_name : FnT ca P w K mg base k "_is_name" [.r] (phi "_is_name")
  f__are_things : FnT ca P w K mg base k "_are_things" [.r] (phi "_are_things")
  f_valid_step : FnT ca P w K mg base k "valid_step" [.r] (phi "valid_step")
  f_format_step : FnT ca P w K mg base k "format_step" [.v] (phi "format_step")
  f__law_draws_of : FnT ca P w K mg base k "_law_draws_of" [.r] (phi "_law_draws_of")
  f__law_nth : FnT ca P w K mg base k "_law_nth" [.r, .r] (phi "_law_nth")
  f__law_named : FnT ca P w K mg base k "_law_named" [.r, .r] (phi "_law_named")
  f__law_is_name : FnT ca P w K mg base k "_law_is_name" [.r] (phi "_law_is_name")
  f__law_is_step : FnT ca P w K mg base k "_law_is_step" [.r] (phi "_law_is_step")
  f__law_part_of : FnT ca P w K mg base k "_law_part_of" [.r, .r] (phi "_law_part_of")
  f__law_things_of : FnT ca P w K mg base k "_law_things_of" [.r, .r] (phi "_law_things_of")
  f__law_text_of : FnT ca P w K mg base k "_law_text_of" [.r] (phi "_law_text_of")
  f__law_refused : FnT ca P w K mg base k "_law_refused" [.v] (phi "_law_refused")
  f__law_said : FnT ca P w K mg base k "_law_said" [.r, .r] (phi "_law_said")
  f_law : FnT ca P w K mg base k "law" [.v] (phi "law")
section
variable {ca : Str → Option Addr} {P : Program} {w : World} {K : PySem.W.Frag} {mg : Str → Option Value} {base : Heap} {k : Nat} {phi : String → List D → RC}
noncomputable def Tab.t_LONGEST (G : Tab ca P w K mg base k phi) : Tok := Classical.choose G.e_LONGEST
theorem Tab.v_LONGEST (G : Tab ca P w K mg base k phi) : mg "LONGEST" = some (.int 8 G.t_LONGEST) := Classical.choose_spec G.e_LONGEST
noncomputable def Tab.t_LETTERS (G : Tab ca P w K mg base k phi) : Tok := Classical.choose G.e_LETTERS
theorem Tab.v_LETTERS (G : Tab ca P w K mg base k phi) : mg "LETTERS" = some (.str "abcdefghijklmnopqrstuvwxyz" G.t_LETTERS) := Classical.choose_spec G.e_LETTERS
noncomputable def Tab.t_DIGITS (G : Tab ca P w K mg base k phi) : Tok := Classical.choose G.e_DIGITS
theorem Tab.v_DIGITS (G : Tab ca P w K mg base k phi) : mg "DIGITS" = some (.str "0123456789" G.t_DIGITS) := Classical.choose_spec G.e_DIGITS
abbrev st_valid_name : Stmt := top 9
abbrev N_valid_name : List Str := ["text", "char"]
theorem sc_valid_name : FnScope N_valid_name ["text"] (defScope st_valid_name) := ⟨rfl, rfl, rfl, by decide +kernel, rfl, by decide +kernel, by decide +kernel⟩
theorem ok_valid_name {f : Addr} {fd : FuncData} (Fn : L2.Fun K "valid_name" "valid_name" st_valid_name f fd) (G : Tab ca P w K mg base k phi) : FnOk P w K mg base (L2.CX P w) (k + 1) f fd ["text"] (spOf ⟨P, w, K, ca⟩ T_valid_name.ms (T_valid_name.run phi)) := by
  refine fn_ok (T := T_valid_name) (Nm := N_valid_name) Fn sc_valid_name rfl rfl (by decide) fun cdv A outer s H E hr tk po hcd => ?_
  have nd : N_valid_name.Nodup := sc_valid_name.nd
  show Bv ca _ _ _ (b_valid_name phi)
  unfold b_valid_name
  exact bv_cons (sv_if (tv_w (wv_or (tv_not (tv_chain op_leA s_le op_leA s_le (ev_int) (ev_call1 call_lenA s_len G.b_len (ev_slot 0)) ((ev_glob (v := .int 8) (by rfl) G.v_LONGEST ⟨_, rfl⟩ (fun _ => .int _))))) (wv_or1 (tv_cmp (op_ninA (u65 hr)) s_nin (ev_ix (ev_slot 0) (ev_int) (hu_of hr)) ((ev_glob (v := .str "abcdefghijklmnopqrstuvwxyz") (by rfl) G.v_LETTERS ⟨_, rfl⟩ (fun _ => .str _ (by decide +kernel)))) (by rfl))))) (bv_one (sv_ret (ev_bl))) (bv_nil))
     (bv_one (sv_ret (ev_call1 (cr_all rfl) s_all G.b_all (ev_lc (own := [("char", 1)]) rfl nd (wv_any (ev_slot 0)) (blkOk_by (own := [("char", 1)]) (N := N_valid_name) (sc := defScope st_valid_name) (by decide +kernel)) (tg_one) (by decide) (fun _ _ _ _ _ => pg_name (i := 1) nd rfl (by first | exact Or.inl rfl | exact Or.inr rfl)) (fun _ _ _ _ _ => ptv_nil) (fun _ _ _ _ _ => ev_or (ev_cmp (op_inA (u65 hr)) s_in (ev_slot 1) ((ev_glob (v := .str "abcdefghijklmnopqrstuvwxyz") (by rfl) G.v_LETTERS ⟨_, rfl⟩ (fun _ => .str _ (by decide +kernel)))) (by rfl)) (ev_one (ev_cmp (op_inA (u65 hr)) s_in (ev_slot 1) ((ev_glob (v := .str "0123456789") (by rfl) G.v_DIGITS ⟨_, rfl⟩ (fun _ => .str _ (by decide +kernel)))) (by rfl))))))))

abbrev st__is_name : Stmt := top 10
abbrev N__is_name : List Str := ["part"]
theorem sc__is_name : FnScope N__is_name ["part"] (defScope st__is_name) := ⟨rfl, rfl, rfl, by decide +kernel, rfl, by decide +kernel, by decide +kernel⟩
theorem ok__is_name {f : Addr} {fd : FuncData} (Fn : L2.Fun K "_is_name" "_is_name" st__is_name f fd) (G : Tab ca P w K mg base k phi) : FnOk P w K mg base (L2.CX P w) (k + 1) f fd ["part"] (spOf ⟨P, w, K, ca⟩ T__is_name.ms (T__is_name.run phi)) := by
  refine fn_ok (T := T__is_name) (Nm := N__is_name) Fn sc__is_name rfl rfl (by decide) fun cdv A outer s H E hr tk po hcd => ?_
  have nd : N__is_name.Nodup := sc__is_name.nd
  show Bv ca _ _ _ (b__is_name phi)
  unfold b__is_name
  exact bv_one (sv_ret (ev_and (ev_isty (T := "str") (s_isty rfl rfl rfl rfl rfl rfl rfl) G.b_isinstance G.b_str (ev_slot 0)) (ev_one (ev_call G.f_valid_name hr tk (av_cons (ev_slot 0) (av_nil))))))

abbrev st__are_things : Stmt := top 11
abbrev N__are_things : List Str := ["part", "thing"]
theorem sc__are_things : FnScope N__are_things ["part"] (defScope st__are_things) := ⟨rfl, rfl, rfl, by decide +kernel, rfl, by decide +kernel, by decide +kernel⟩
theorem ok__are_things {f : Addr} {fd : FuncData} (Fn : L2.Fun K "_are_things" "_are_things" st__are_things f fd) (G : Tab ca P w K mg base k phi) : FnOk P w K mg base (L2.CX P w) (k + 1) f fd ["part"] (spOf ⟨P, w, K, ca⟩ T__are_things.ms (T__are_things.run phi)) := by
  refine fn_ok (T := T__are_things) (Nm := N__are_things) Fn sc__are_things rfl rfl (by decide) fun cdv A outer s H E hr tk po hcd => ?_
  have nd : N__are_things.Nodup := sc__are_things.nd
  show Bv ca _ _ _ (b__are_things phi)
  unfold b__are_things
  exact bv_cons (sv_if (tv_w (wv_or (tv_not (tv_tru (ev_isty (T := "tuple") (s_isty rfl rfl rfl rfl rfl rfl rfl) G.b_isinstance G.b_tuple (ev_slot 0)))) (wv_or1 (tv_not (tv_tru (ev_call1 (cr_all rfl) s_all G.b_all (ev_lc (own := [("thing", 1)]) rfl nd (wv_any (ev_slot 0)) (blkOk_by (own := [("thing", 1)]) (N := N__are_things) (sc := defScope st__are_things) (by decide +kernel)) (tg_one) (by decide) (fun _ _ _ _ _ => pg_name (i := 1) nd rfl (by first | exact Or.inl rfl | exact Or.inr rfl)) (fun _ _ _ _ _ => ptv_nil) (fun _ _ _ _ _ => ev_call G.f__is_name hr takes0 (av_cons (ev_slot 1) (av_nil)))))))))) (bv_one (sv_ret (ev_bl))) (bv_nil))
     (bv_one (sv_ret (ev_cmp (op_eqD hr.units) s_eq (ev_call1 call_lenA s_len G.b_len (ev_type1 (cr_setG rfl) s_set G.b_set (ev_slot 0))) (ev_call1 call_lenA s_len G.b_len (ev_slot 0)) (nomark _))))

abbrev st_valid_step : Stmt := top 12
abbrev N_valid_step : List Str := ["step", "program", "thing", "things"]
theorem sc_valid_step : FnScope N_valid_step ["step"] (defScope st_valid_step) := ⟨rfl, rfl, rfl, by decide +kernel, rfl, by decide +kernel, by decide +kernel⟩
theorem ok_valid_step {f : Addr} {fd : FuncData} (Fn : L2.Fun K "valid_step" "valid_step" st_valid_step f fd) (G : Tab ca P w K mg base k phi) : FnOk P w K mg base (L2.CX P w) (k + 1) f fd ["step"] (spOf ⟨P, w, K, ca⟩ T_valid_step.ms (T_valid_step.run phi)) := by
  refine fn_ok (T := T_valid_step) (Nm := N_valid_step) Fn sc_valid_step rfl rfl (by decide) fun cdv A outer s H E hr tk po hcd => ?_
  have nd : N_valid_step.Nodup := sc_valid_step.nd
  show Bv ca _ _ _ (b_valid_step phi)
  unfold b_valid_step
  exact bv_cons (sv_match (u65 hr) nd (.cons (.or (.cons (.nil))) (.cons rfl rfl (.nil)) (bv_one (sv_ret (ev_call G.f__is_name hr tk (av_cons (ev_slot 1) (av_nil)))))
     (.cons (.one) (.cons rfl rfl (.cons rfl rfl (.nil))) (bv_one (sv_ret (ev_and (ev_call G.f__is_name hr tk (av_cons (ev_slot 1) (av_nil))) (ev_one (ev_call G.f__is_name hr tk (av_cons (ev_slot 2) (av_nil)))))))
     (.cons (.one) (.cons rfl rfl (.cons rfl rfl (.nil))) (bv_one (sv_ret (ev_and (ev_call G.f__is_name hr tk (av_cons (ev_slot 1) (av_nil))) (ev_one (ev_call G.f__are_things hr tk (av_cons (ev_slot 3) (av_nil)))))))
     (.nil)))) (ev_slot 0))
     (bv_one (sv_ret (ev_bl)))

abbrev st_format_step : Stmt := top 13
abbrev N_format_step : List Str := ["step", "kind", "program", "things"]
theorem sc_format_step : FnScope N_format_step ["step"] (defScope st_format_step) := ⟨rfl, rfl, rfl, by decide +kernel, rfl, by decide +kernel, by decide +kernel⟩
theorem ok_format_step {f : Addr} {fd : FuncData} (Fn : L2.Fun K "format_step" "format_step" st_format_step f fd) (G : Tab ca P w K mg base k phi) : FnOk P w K mg base (L2.CX P w) (k + 1) f fd ["step"] (spOf ⟨P, w, K, ca⟩ T_format_step.ms (T_format_step.run phi)) := by
  refine fn_ok (T := T_format_step) (Nm := N_format_step) Fn sc_format_step rfl rfl (by decide) fun cdv A outer s H E hr tk po hcd => ?_
  have nd : N_format_step.Nodup := sc_format_step.nd
  show Bv ca _ _ _ (b_format_step phi)
  unfold b_format_step
  exact bv_cons (sv_if (tv_not (tv_tru (ev_call G.f_valid_step hr tk (av_cons (ev_slot 0) (av_nil))))) (bv_one (sv_raise G.c_InvalidStep G.b_super hr tk (av_keep (ev_slot 0) (av_nil)))) (bv_nil))
     (bv_cons (sv_if (tv_cmp (op_eqD hr.units) s_eq (ev_ix (ev_slot 0) (ev_int) (hu_of hr)) (ev_str) (nomark _)) (bv_cons (sv_unp rfl (ev_slot 0) (pgs_cons (pg_name (i := 1) nd rfl (by first | exact Or.inl rfl | exact Or.inr rfl)) (pgs_cons (pg_name (i := 2) nd rfl (by first | exact Or.inl rfl | exact Or.inr rfl)) (pgs_cons (pg_name (i := 3) nd rfl (by first | exact Or.inl rfl | exact Or.inr rfl)) (pgs_nil)))) (tgs_cons (tgs_cons (tgs_cons (tgs_nil)))))
     (bv_one (sv_ret (ev_join (ev_lst (av_keep (ev_slot 1) (av_keep (ev_slot 2) (av_star (ev_slot 3) (av_nil))))))))) (bv_nil))
     (bv_one (sv_ret (ev_join (ev_slot 0)))))

abbrev st__law_draws_of : Stmt := top 15
abbrev N__law_draws_of : List Str := ["_law_script", "_law_pool", "_law_cell", "_law_left", "_law_k"]
theorem sc__law_draws_of : FnScope N__law_draws_of ["_law_script"] (defScope st__law_draws_of) := ⟨rfl, rfl, rfl, by decide +kernel, rfl, by decide +kernel, by decide +kernel⟩
theorem ok__law_draws_of {f : Addr} {fd : FuncData} (Fn : L2.Fun K "_law_draws_of" "_law_draws_of" st__law_draws_of f fd) (G : Tab ca P w K mg base k phi) : FnOk P w K mg base (L2.CX P w) (k + 1) f fd ["_law_script"] (spOf ⟨P, w, K, ca⟩ T__law_draws_of.ms (T__law_draws_of.run phi)) := by
  refine fn_ok (T := T__law_draws_of) (Nm := N__law_draws_of) Fn sc__law_draws_of rfl rfl (by decide) fun cdv A outer s H E hr tk po hcd => ?_
  have nd : N__law_draws_of.Nodup := sc__law_draws_of.nd
  show Bv ca _ _ _ (b__law_draws_of phi)
  unfold b__law_draws_of
  exact bv_cons (sv_set 1 nd (ev_lst (av_nil)))
     (bv_cons (sv_for (tmp := [2, 3, 4]) (tt := .one 2) po rfl (pg_name (i := 2) nd rfl (by first | exact Or.inl rfl | exact Or.inr rfl)) (tg_one) (wv_any (ev_slot 0))
     (bv_one (sv_if (tv_cmp op_ltA s_lt (ev_call1 call_lenA s_len G.b_len (ev_slot 1)) (ev_int) (nomark _)) (bv_cons (sv_set 3 nd (ev_call1 call_abs s_abs G.b_abs (ev_type1 call_int1 s_int G.b_int (ev_slot 2))))
     (bv_one (sv_if (tv_cmp op_ltA s_lt (ev_slot 3) (ev_bin op_pow s_pow (ev_int) (ev_int)) (nomark _)) (bv_one (sv_for (tmp := [4]) (tt := .one 4) po rfl (pg_name (i := 4) nd rfl (by first | exact Or.inl rfl | exact Or.inr rfl)) (tg_one) (wv_r1 G.b_range (ev_int))
     (bv_cons (sv_set 3 nd (ev_bin op_mod s_mod (ev_type1 call_int1 s_int G.b_int (ev_bin op_addA s_add (ev_bin op_addA s_add (ev_bin op_mulA s_mul (ev_slot 3) (ev_int)) (ev_bin op_mulA s_mul (ev_int) (ev_slot 4))) (ev_int))) (ev_int)))
     (bv_one (sv_expr (ev_append (pv 1) (av_keep (ev_slot 3) (av_nil)))))))) (bv_one (sv_for (tmp := [4]) (tt := .one 4) po rfl (pg_name (i := 4) nd rfl (by first | exact Or.inl rfl | exact Or.inr rfl)) (tg_one) (wv_r1 G.b_range (ev_int))
     (bv_one (sv_if (tv_cmp op_gtA s_gt (ev_slot 3) (ev_int) (nomark _)) (bv_cons (sv_expr (ev_append (pv 1) (av_keep (ev_bin op_mod s_mod (ev_type1 call_int1 s_int G.b_int (ev_slot 3)) (ev_int)) (av_nil))))
     (bv_one (sv_set 3 nd (ev_bin op_fdiv s_div (ev_slot 3) (ev_int))))) (bv_nil)))))))) (bv_nil))))
     (bv_cons (sv_if (tv_cmp (op_eqD hr.units) s_eq (ev_slot 1) (ev_lst (av_nil)) (nomark _)) (bv_one (sv_set 1 nd (ev_lst (av_keep (ev_int) (av_keep (ev_int) (av_keep (ev_int) (av_keep (ev_int) (av_keep (ev_int) (av_keep (ev_int) (av_keep (ev_int) (av_keep (ev_int) (av_keep (ev_int) (av_keep (ev_int) (av_keep (ev_int) (av_keep (ev_int) (av_keep (ev_int) (av_nil))))))))))))))))) (bv_nil))
     (bv_one (sv_ret (ev_slot 1)))))

abbrev st__law_nth : Stmt := top 16
abbrev N__law_nth : List Str := ["_law_pool", "_law_k"]
theorem sc__law_nth : FnScope N__law_nth ["_law_pool", "_law_k"] (defScope st__law_nth) := ⟨rfl, rfl, rfl, by decide +kernel, rfl, by decide +kernel, by decide +kernel⟩
theorem ok__law_nth {f : Addr} {fd : FuncData} (Fn : L2.Fun K "_law_nth" "_law_nth" st__law_nth f fd) (G : Tab ca P w K mg base k phi) : FnOk P w K mg base (L2.CX P w) (k + 1) f fd ["_law_pool", "_law_k"] (spOf ⟨P, w, K, ca⟩ T__law_nth.ms (T__law_nth.run phi)) := by
  refine fn_ok (T := T__law_nth) (Nm := N__law_nth) Fn sc__law_nth rfl rfl (by decide) fun cdv A outer s H E hr tk po hcd => ?_
  have nd : N__law_nth.Nodup := sc__law_nth.nd
  show Bv ca _ _ _ (b__law_nth phi)
  unfold b__law_nth
  exact bv_cons (sv_if (tv_cmp op_ltA s_lt (ev_slot 1) (ev_call1 call_lenA s_len G.b_len (ev_slot 0)) (nomark _)) (bv_one (sv_ret (ev_ix (ev_slot 0) (ev_slot 1) (hu_of hr)))) (bv_nil))
     (bv_one (sv_ret (ev_bin op_mod s_mod (ev_type1 call_int1 s_int G.b_int (ev_bin op_addA s_add (ev_bin op_mulA s_mul (ev_ix (ev_slot 0) (ev_bin op_mod s_mod (ev_slot 1) (ev_call1 call_lenA s_len G.b_len (ev_slot 0))) (hu_of hr)) (ev_int)) (ev_bin op_mulA s_mul (ev_slot 1) (ev_int)))) (ev_int))))

abbrev st__law_named : Stmt := top 17
abbrev N__law_named : List Str := ["_law_k", "_law_style", "_law_one", "_law_kind", "_law_words", "_law_base"]
theorem sc__law_named : FnScope N__law_named ["_law_k", "_law_style"] (defScope st__law_named) := ⟨rfl, rfl, rfl, by decide +kernel, rfl, by decide +kernel, by decide +kernel⟩
theorem ok__law_named {f : Addr} {fd : FuncData} (Fn : L2.Fun K "_law_named" "_law_named" st__law_named f fd) (G : Tab ca P w K mg base k phi) : FnOk P w K mg base (L2.CX P w) (k + 1) f fd ["_law_k", "_law_style"] (spOf ⟨P, w, K, ca⟩ T__law_named.ms (T__law_named.run phi)) := by
  refine fn_ok (T := T__law_named) (Nm := N__law_named) Fn sc__law_named rfl rfl (by decide) fun cdv A outer s H E hr tk po hcd => ?_
  have nd : N__law_named.Nodup := sc__law_named.nd
  show Bv ca _ _ _ (b__law_named phi)
  unfold b__law_named
  exact bv_cons (sv_set 2 nd (ev_ix (ev_str) (ev_bin op_mod s_mod (ev_type1 call_int1 s_int G.b_int (ev_bin op_addA s_add (ev_bin op_mulA s_mul (ev_slot 0) (ev_int)) (ev_bin op_fdiv s_div (ev_slot 1) (ev_int)))) (ev_int)) (hu_of hr)))
     (bv_cons (sv_set 3 nd (ev_bin op_mod s_mod (ev_type1 call_int1 s_int G.b_int (ev_slot 1)) (ev_int)))
     (bv_cons (sv_if (tv_w (wv_and (tv_cmp (op_eqD hr.units) s_eq (ev_slot 3) (ev_int) (nomark _)) (wv_and1 (tv_cmp (op_eqD hr.units) s_eq (ev_bin op_mod s_mod (ev_bin op_fdiv s_div (ev_type1 call_int1 s_int G.b_int (ev_slot 1)) (ev_int)) (ev_int)) (ev_int) (nomark _))))) (bv_cons (sv_set 4 nd (ev_lst (av_keep (ev_str) (av_keep (ev_str) (av_keep (ev_str) (av_keep (ev_str) (av_keep (ev_str) (av_keep (ev_str) (av_keep (ev_str) (av_keep (ev_str) (av_keep (ev_str) (av_keep (ev_str) (av_nil)))))))))))))
     (bv_one (sv_ret (ev_bin op_addA s_add (ev_ix (ev_slot 4) (ev_bin op_mod s_mod (ev_type1 call_int1 s_int G.b_int (ev_slot 0)) (ev_int)) (hu_of hr)) (ev_bin op_mulA s_mul (ev_str) (ev_bin op_fdiv s_div (ev_type1 call_int1 s_int G.b_int (ev_slot 0)) (ev_int))))))) (bv_nil))
     (bv_cons (sv_if (tv_w (wv_and (tv_cmp (op_eqD hr.units) s_eq (ev_slot 3) (ev_int) (nomark _)) (wv_and1 (tv_cmp (op_eqD hr.units) s_eq (ev_bin op_mod s_mod (ev_bin op_fdiv s_div (ev_type1 call_int1 s_int G.b_int (ev_slot 1)) (ev_int)) (ev_int)) (ev_int) (nomark _))))) (bv_one (sv_ret (ev_bin op_addA s_add (ev_bin op_mulA s_mul (ev_str) (ev_bin op_fdiv s_div (ev_type1 call_int1 s_int G.b_int (ev_slot 0)) (ev_int))) (ev_bin op_mulA s_mul (ev_str) (ev_bin op_addA s_add (ev_bin op_mod s_mod (ev_type1 call_int1 s_int G.b_int (ev_slot 0)) (ev_int)) (ev_int)))))) (bv_nil))
     (bv_cons (sv_if (tv_cmp (op_eqD hr.units) s_eq (ev_slot 3) (ev_int) (nomark _)) (bv_one (sv_ret (ev_bin op_addA s_add (ev_bin op_mulA s_mul (ev_str) (ev_bin op_mod s_mod (ev_type1 call_int1 s_int G.b_int (ev_slot 0)) (ev_int))) (ev_slot 2)))) (bv_nil))
     (bv_cons (sv_if (tv_cmp (op_eqD hr.units) s_eq (ev_slot 3) (ev_int) (nomark _)) (bv_cons (sv_set 5 nd (ev_bin op_addA s_add (ev_slot 2) (ev_type1 call_strA s_str G.b_str (ev_bin op_mod s_mod (ev_type1 call_int1 s_int G.b_int (ev_bin op_fdiv s_div (ev_slot 1) (ev_int))) (ev_int)))))
     (bv_cons (sv_if (tv_cmp (op_eqD hr.units) s_eq (ev_bin op_mod s_mod (ev_type1 call_int1 s_int G.b_int (ev_slot 0)) (ev_int)) (ev_int) (nomark _)) (bv_one (sv_ret (ev_bin op_addA s_add (ev_slot 5) (ev_bin op_mulA s_mul (ev_str) (ev_bin op_sub s_sub (ev_int) (ev_call1 call_lenA s_len G.b_len (ev_slot 5))))))) (bv_nil))
     (bv_one (sv_ret (ev_bin op_addA s_add (ev_slot 5) (ev_bin op_mulA s_mul (ev_str) (ev_bin op_mod s_mod (ev_type1 call_int1 s_int G.b_int (ev_slot 0)) (ev_int)))))))) (bv_nil))
     (bv_cons (sv_if (tv_cmp (op_eqD hr.units) s_eq (ev_slot 3) (ev_int) (nomark _)) (bv_one (sv_ret (ev_bin op_addA s_add (ev_str) (ev_type1 call_strA s_str G.b_str (ev_bin op_sub s_sub (ev_int) (ev_bin op_mulA s_mul (ev_int) (ev_slot 0))))))) (bv_nil))
     (bv_one (sv_ret (ev_slot 2)))))))))

abbrev st__law_is_name : Stmt := top 18
abbrev N__law_is_name : List Str := ["_law_part", "_law_k"]
theorem sc__law_is_name : FnScope N__law_is_name ["_law_part"] (defScope st__law_is_name) := ⟨rfl, rfl, rfl, by decide +kernel, rfl, by decide +kernel, by decide +kernel⟩
theorem ok__law_is_name {f : Addr} {fd : FuncData} (Fn : L2.Fun K "_law_is_name" "_law_is_name" st__law_is_name f fd) (G : Tab ca P w K mg base k phi) : FnOk P w K mg base (L2.CX P w) (k + 1) f fd ["_law_part"] (spOf ⟨P, w, K, ca⟩ T__law_is_name.ms (T__law_is_name.run phi)) := by
  refine fn_ok (T := T__law_is_name) (Nm := N__law_is_name) Fn sc__law_is_name rfl rfl (by decide) fun cdv A outer s H E hr tk po hcd => ?_
  have nd : N__law_is_name.Nodup := sc__law_is_name.nd
  show Bv ca _ _ _ (b__law_is_name phi)
  unfold b__law_is_name
  exact bv_cons (sv_if (tv_w (wv_or (tv_not (tv_tru (ev_isty (T := "str") (s_isty rfl rfl rfl rfl rfl rfl rfl) G.b_isinstance G.b_str (ev_slot 0)))) (wv_or (tv_cmp op_ltA s_lt (ev_call1 call_lenA s_len G.b_len (ev_slot 0)) (ev_int) (nomark _)) (wv_or1 (tv_cmp op_gtA s_gt (ev_call1 call_lenA s_len G.b_len (ev_slot 0)) (ev_int) (nomark _)))))) (bv_one (sv_ret (ev_bl))) (bv_nil))
     (bv_cons (sv_for (tmp := [1]) (tt := .one 1) po rfl (pg_name (i := 1) nd rfl (by first | exact Or.inl rfl | exact Or.inr rfl)) (tg_one) (wv_r1 G.b_range (ev_call1 call_lenA s_len G.b_len (ev_slot 0)))
     (bv_one (sv_if (tv_cmp (op_ninA (u65 hr)) s_nin (ev_ix (ev_slot 0) (ev_slot 1) (hu_of hr)) (ev_str) (by rfl)) (bv_one (sv_if (tv_w (wv_or (tv_cmp (op_eqD hr.units) s_eq (ev_slot 1) (ev_int) (nomark _)) (wv_or1 (tv_cmp (op_ninA (u65 hr)) s_nin (ev_ix (ev_slot 0) (ev_slot 1) (hu_of hr)) (ev_str) (by rfl))))) (bv_one (sv_ret (ev_bl))) (bv_nil))) (bv_nil))))
     (bv_one (sv_ret (ev_bl))))

abbrev st__law_is_step : Stmt := top 19
abbrev N__law_is_step : List Str := ["_law_step", "_law_k"]
theorem sc__law_is_step : FnScope N__law_is_step ["_law_step"] (defScope st__law_is_step) := ⟨rfl, rfl, rfl, by decide +kernel, rfl, by decide +kernel, by decide +kernel⟩
theorem ok__law_is_step {f : Addr} {fd : FuncData} (Fn : L2.Fun K "_law_is_step" "_law_is_step" st__law_is_step f fd) (G : Tab ca P w K mg base k phi) : FnOk P w K mg base (L2.CX P w) (k + 1) f fd ["_law_step"] (spOf ⟨P, w, K, ca⟩ T__law_is_step.ms (T__law_is_step.run phi)) := by
  refine fn_ok (T := T__law_is_step) (Nm := N__law_is_step) Fn sc__law_is_step rfl rfl (by decide) fun cdv A outer s H E hr tk po hcd => ?_
  have nd : N__law_is_step.Nodup := sc__law_is_step.nd
  show Bv ca _ _ _ (b__law_is_step phi)
  unfold b__law_is_step
  exact bv_cons (sv_if (tv_w (wv_or (tv_cmp op_ltA s_lt (ev_call1 call_lenA s_len G.b_len (ev_slot 0)) (ev_int) (nomark _)) (wv_or1 (tv_not (tv_tru (ev_call G.f__law_is_name hr tk (av_cons (ev_ix (ev_slot 0) (ev_int) (hu_of hr)) (av_nil)))))))) (bv_one (sv_ret (ev_bl))) (bv_nil))
     (bv_cons (sv_if (tv_w (wv_or (tv_cmp (op_eqD hr.units) s_eq (ev_ix (ev_slot 0) (ev_int) (hu_of hr)) (ev_str) (nomark _)) (wv_or1 (tv_cmp (op_eqD hr.units) s_eq (ev_ix (ev_slot 0) (ev_int) (hu_of hr)) (ev_str) (nomark _))))) (bv_one (sv_ret (ev_cmp (op_eqD hr.units) s_eq (ev_call1 call_lenA s_len G.b_len (ev_slot 0)) (ev_int) (nomark _)))) (bv_nil))
     (bv_cons (sv_if (tv_cmp (op_eqD hr.units) s_eq (ev_ix (ev_slot 0) (ev_int) (hu_of hr)) (ev_str) (nomark _)) (bv_one (sv_ret (ev_and (ev_cmp (op_eqD hr.units) s_eq (ev_call1 call_lenA s_len G.b_len (ev_slot 0)) (ev_int) (nomark _)) (ev_one (ev_call G.f__law_is_name hr tk (av_cons (ev_ix (ev_slot 0) (ev_int) (hu_of hr)) (av_nil))))))) (bv_nil))
     (bv_cons (sv_if (tv_w (wv_or (tv_cmp (op_neD hr.units) s_ne (ev_ix (ev_slot 0) (ev_int) (hu_of hr)) (ev_str) (nomark _)) (wv_or (tv_cmp (op_neD hr.units) s_ne (ev_call1 call_lenA s_len G.b_len (ev_slot 0)) (ev_int) (nomark _)) (wv_or1 (tv_not (tv_tru (ev_isty (T := "tuple") (s_isty rfl rfl rfl rfl rfl rfl rfl) G.b_isinstance G.b_tuple (ev_ix (ev_slot 0) (ev_int) (hu_of hr))))))))) (bv_one (sv_ret (ev_bl))) (bv_nil))
     (bv_cons (sv_for (tmp := [1]) (tt := .one 1) po rfl (pg_name (i := 1) nd rfl (by first | exact Or.inl rfl | exact Or.inr rfl)) (tg_one) (wv_r1 G.b_range (ev_call1 call_lenA s_len G.b_len (ev_ix (ev_slot 0) (ev_int) (hu_of hr))))
     (bv_one (sv_if (tv_w (wv_or (tv_not (tv_tru (ev_call G.f__law_is_name hr tk (av_cons (ev_ix (ev_ix (ev_slot 0) (ev_int) (hu_of hr)) (ev_slot 1) (hu_of hr)) (av_nil))))) (wv_or1 (tv_cmp (op_inA (u65 hr)) s_in (ev_ix (ev_ix (ev_slot 0) (ev_int) (hu_of hr)) (ev_slot 1) (hu_of hr)) (ev_cutHi (ev_ix (ev_slot 0) (ev_int) (hu_of hr)) (ev_slot 1)) (by rfl))))) (bv_one (sv_ret (ev_bl))) (bv_nil))))
     (bv_one (sv_ret (ev_bl)))))))

abbrev st__law_part_of : Stmt := top 20
abbrev N__law_part_of : List Str := ["_law_draw", "_law_style", "_law_odd"]
theorem sc__law_part_of : FnScope N__law_part_of ["_law_draw", "_law_style"] (defScope st__law_part_of) := ⟨rfl, rfl, rfl, by decide +kernel, rfl, by decide +kernel, by decide +kernel⟩
theorem ok__law_part_of {f : Addr} {fd : FuncData} (Fn : L2.Fun K "_law_part_of" "_law_part_of" st__law_part_of f fd) (G : Tab ca P w K mg base k phi) : FnOk P w K mg base (L2.CX P w) (k + 1) f fd ["_law_draw", "_law_style"] (spOf ⟨P, w, K, ca⟩ T__law_part_of.ms (T__law_part_of.run phi)) := by
  refine fn_ok (T := T__law_part_of) (Nm := N__law_part_of) Fn sc__law_part_of rfl rfl (by decide) fun cdv A outer s H E hr tk po hcd => ?_
  have nd : N__law_part_of.Nodup := sc__law_part_of.nd
  show Bv ca _ _ _ (b__law_part_of phi)
  unfold b__law_part_of
  exact bv_cons (sv_set 2 nd (ev_lst (av_keep (ev_str) (av_keep (ev_str) (av_keep (ev_str) (av_keep (ev_str) (av_keep (ev_str) (av_keep (ev_str) (av_keep (ev_str) (av_keep (ev_str) (av_keep (ev_str) (av_keep (ev_str) (av_keep (ev_str) (av_keep (ev_str) (av_nil)))))))))))))))
     (bv_cons (sv_if (tv_cmp (op_eqD hr.units) s_eq (ev_bin op_mod s_mod (ev_type1 call_int1 s_int G.b_int (ev_slot 0)) (ev_int)) (ev_int) (nomark _)) (bv_one (sv_ret (ev_ix (ev_slot 2) (ev_bin op_mod s_mod (ev_bin op_fdiv s_div (ev_type1 call_int1 s_int G.b_int (ev_slot 0)) (ev_int)) (ev_int)) (hu_of hr)))) (bv_nil))
     (bv_one (sv_ret (ev_call G.f__law_named hr tk (av_cons (ev_bin op_mod s_mod (ev_bin op_fdiv s_div (ev_type1 call_int1 s_int G.b_int (ev_slot 0)) (ev_int)) (ev_int)) (av_cons (ev_slot 1) (av_nil)))))))

abbrev st__law_things_of : Stmt := top 21
abbrev N__law_things_of : List Str := ["_law_draw", "_law_style", "_law_first", "_law_stride", "_law_things", "_law_k"]
theorem sc__law_things_of : FnScope N__law_things_of ["_law_draw", "_law_style"] (defScope st__law_things_of) := ⟨rfl, rfl, rfl, by decide +kernel, rfl, by decide +kernel, by decide +kernel⟩
theorem ok__law_things_of {f : Addr} {fd : FuncData} (Fn : L2.Fun K "_law_things_of" "_law_things_of" st__law_things_of f fd) (G : Tab ca P w K mg base k phi) : FnOk P w K mg base (L2.CX P w) (k + 1) f fd ["_law_draw", "_law_style"] (spOf ⟨P, w, K, ca⟩ T__law_things_of.ms (T__law_things_of.run phi)) := by
  refine fn_ok (T := T__law_things_of) (Nm := N__law_things_of) Fn sc__law_things_of rfl rfl (by decide) fun cdv A outer s H E hr tk po hcd => ?_
  have nd : N__law_things_of.Nodup := sc__law_things_of.nd
  show Bv ca _ _ _ (b__law_things_of phi)
  unfold b__law_things_of
  exact bv_cons (sv_set 2 nd (ev_bin op_mod s_mod (ev_bin op_fdiv s_div (ev_type1 call_int1 s_int G.b_int (ev_slot 0)) (ev_int)) (ev_int)))
     (bv_cons (sv_set 3 nd (ev_bin op_mod s_mod (ev_bin op_fdiv s_div (ev_type1 call_int1 s_int G.b_int (ev_slot 0)) (ev_int)) (ev_int)))
     (bv_cons (sv_set 4 nd (ev_tup (av_nil)))
     (bv_cons (sv_for (tmp := [5]) (tt := .one 5) po rfl (pg_name (i := 5) nd rfl (by first | exact Or.inl rfl | exact Or.inr rfl)) (tg_one) (wv_r1 G.b_range (ev_bin op_mod s_mod (ev_bin op_fdiv s_div (ev_type1 call_int1 s_int G.b_int (ev_slot 0)) (ev_int)) (ev_int)))
     (bv_one (sv_set 4 nd (ev_bin op_addA s_add (ev_slot 4) (ev_tup (av_keep (ev_call G.f__law_named hr tk (av_cons (ev_bin op_addA s_add (ev_slot 2) (ev_bin op_mulA s_mul (ev_slot 5) (ev_slot 3))) (av_cons (ev_slot 1) (av_nil)))) (av_nil)))))))
     (bv_cons (sv_if (tv_cmp (op_eqD hr.units) s_eq (ev_bin op_mod s_mod (ev_type1 call_int1 s_int G.b_int (ev_slot 0)) (ev_int)) (ev_int) (nomark _)) (bv_one (sv_set 4 nd (ev_bin op_addA s_add (ev_slot 4) (ev_tup (av_keep (ev_call G.f__law_part_of hr tk (av_cons (ev_bin op_fdiv s_div (ev_slot 0) (ev_int)) (av_cons (ev_slot 1) (av_nil)))) (av_nil)))))) (bv_nil))
     (bv_one (sv_ret (ev_slot 4)))))))

abbrev st__law_text_of : Stmt := top 22
abbrev N__law_text_of : List Str := ["_law_step", "_law_text", "_law_thing"]
theorem sc__law_text_of : FnScope N__law_text_of ["_law_step"] (defScope st__law_text_of) := ⟨rfl, rfl, rfl, by decide +kernel, rfl, by decide +kernel, by decide +kernel⟩
theorem ok__law_text_of {f : Addr} {fd : FuncData} (Fn : L2.Fun K "_law_text_of" "_law_text_of" st__law_text_of f fd) (G : Tab ca P w K mg base k phi) : FnOk P w K mg base (L2.CX P w) (k + 1) f fd ["_law_step"] (spOf ⟨P, w, K, ca⟩ T__law_text_of.ms (T__law_text_of.run phi)) := by
  refine fn_ok (T := T__law_text_of) (Nm := N__law_text_of) Fn sc__law_text_of rfl rfl (by decide) fun cdv A outer s H E hr tk po hcd => ?_
  have nd : N__law_text_of.Nodup := sc__law_text_of.nd
  show Bv ca _ _ _ (b__law_text_of phi)
  unfold b__law_text_of
  exact bv_cons (sv_set 1 nd (ev_bin op_addA s_add (ev_bin op_addA s_add (ev_ix (ev_slot 0) (ev_int) (hu_of hr)) (ev_str)) (ev_ix (ev_slot 0) (ev_int) (hu_of hr))))
     (bv_cons (sv_if (tv_cmp (op_eqD hr.units) s_eq (ev_ix (ev_slot 0) (ev_int) (hu_of hr)) (ev_str) (nomark _)) (bv_one (sv_set 1 nd (ev_bin op_addA s_add (ev_bin op_addA s_add (ev_slot 1) (ev_str)) (ev_ix (ev_slot 0) (ev_int) (hu_of hr))))) (bv_nil))
     (bv_cons (sv_if (tv_cmp (op_eqD hr.units) s_eq (ev_ix (ev_slot 0) (ev_int) (hu_of hr)) (ev_str) (nomark _)) (bv_one (sv_for (tmp := [2]) (tt := .one 2) po rfl (pg_name (i := 2) nd rfl (by first | exact Or.inl rfl | exact Or.inr rfl)) (tg_one) (wv_any (ev_ix (ev_slot 0) (ev_int) (hu_of hr)))
     (bv_one (sv_set 1 nd (ev_bin op_addA s_add (ev_bin op_addA s_add (ev_slot 1) (ev_str)) (ev_slot 2)))))) (bv_nil))
     (bv_one (sv_ret (ev_slot 1)))))

abbrev st__law_refused : Stmt := top 23
abbrev N__law_refused : List Str := ["_law_step", "e"]
theorem sc__law_refused : FnScope N__law_refused ["_law_step"] (defScope st__law_refused) := ⟨rfl, rfl, rfl, by decide +kernel, rfl, by decide +kernel, by decide +kernel⟩
theorem ok__law_refused {f : Addr} {fd : FuncData} (Fn : L2.Fun K "_law_refused" "_law_refused" st__law_refused f fd) (G : Tab ca P w K mg base k phi) : FnOk P w K mg base (L2.CX P w) (k + 1) f fd ["_law_step"] (spOf ⟨P, w, K, ca⟩ T__law_refused.ms (T__law_refused.run phi)) := by
  refine fn_ok (T := T__law_refused) (Nm := N__law_refused) Fn sc__law_refused rfl rfl (by decide) fun cdv A outer s H E hr tk po hcd => ?_
  have nd : N__law_refused.Nodup := sc__law_refused.nd
  show Bv ca _ _ _ (b__law_refused phi)
  unfold b__law_refused
  exact bv_cons (sv_tryN 1 rfl rfl nd G.xs G.x_InvalidStep tk (fun W pn xe tk po => bv_one (sv_expr (ev_call G.f_format_step hr tk (av_keep (ev_slot 0) (av_nil)))))
     (fun a oe cls d pn hz hf => bv_cons (sv_if (tv_w (wv_or (tv_tru (ev_xisO hz hf G.xs G.is_InvalidLine G.b_isinstance (ev_slot 1))) (wv_or (tv_tru (ev_xisO hz hf G.xs G.is_NotRunning G.b_isinstance (ev_slot 1))) (wv_or1 (tv_not (tv_tru (ev_xisO hz hf G.xs G.is_KeeperError G.b_isinstance (ev_slot 1)))))))) (bv_one (sv_ret (ev_bl))) (bv_nil))
     (bv_one (sv_ret (ev_and (ev_xisB hz hf G.xs G.ib_ValueError G.b_isinstance (ev_slot 1)) (ev_and (ev_isty (T := "tuple") (s_isty rfl rfl rfl rfl rfl rfl rfl) G.b_isinstance G.b_tuple (ev_xfF hz hf G.xs (ev_slot 1))) (ev_one (ev_cmp (op_eqD hr.units) s_eq (ev_xfF hz hf G.xs (ev_slot 1)) (ev_slot 0) (nomark _)))))))))
     (bv_one (sv_ret (ev_bl)))

abbrev st__law_said : Stmt := top 24
abbrev N__law_said : List Str := ["_law_told", "_law_due"]
theorem sc__law_said : FnScope N__law_said ["_law_told", "_law_due"] (defScope st__law_said) := ⟨rfl, rfl, rfl, by decide +kernel, rfl, by decide +kernel, by decide +kernel⟩
theorem ok__law_said {f : Addr} {fd : FuncData} (Fn : L2.Fun K "_law_said" "_law_said" st__law_said f fd) (G : Tab ca P w K mg base k phi) : FnOk P w K mg base (L2.CX P w) (k + 1) f fd ["_law_told", "_law_due"] (spOf ⟨P, w, K, ca⟩ T__law_said.ms (T__law_said.run phi)) := by
  refine fn_ok (T := T__law_said) (Nm := N__law_said) Fn sc__law_said rfl rfl (by decide) fun cdv A outer s H E hr tk po hcd => ?_
  have nd : N__law_said.Nodup := sc__law_said.nd
  show Bv ca _ _ _ (b__law_said phi)
  unfold b__law_said
  exact bv_cons (sv_if (tv_tru (ev_slot 1)) (bv_one (sv_ret (ev_cmp op_isA s_is (ev_slot 0) (ev_bl) (nomark _)))) (bv_nil))
     (bv_one (sv_ret (ev_cmp op_isA s_is (ev_slot 0) (ev_bl) (nomark _))))

abbrev st_law : Stmt := top 25
abbrev N_law : List Str := ["_law_script", "_law_pool", "_law_style", "_law_step", "_law_k", "_law_draw", "_law_name", "_law_thing", "_law_things", "_law_steps", "_law_one", "_law_due", "_law_told"]
theorem sc_law : FnScope N_law ["_law_script"] (defScope st_law) := ⟨rfl, rfl, rfl, by decide +kernel, rfl, by decide +kernel, by decide +kernel⟩
theorem ok_law {f : Addr} {fd : FuncData} (Fn : L2.Fun K "law" "law" st_law f fd) (G : Tab ca P w K mg base k phi) : FnOk P w K mg base (L2.CX P w) (k + 1) f fd ["_law_script"] (spOf ⟨P, w, K, ca⟩ T_law.ms (T_law.run phi)) := by
  refine fn_ok (T := T_law) (Nm := N_law) Fn sc_law rfl rfl (by decide) fun cdv A outer s H E hr tk po hcd => ?_
  have nd : N_law.Nodup := sc_law.nd
  show Bv ca _ _ _ (b_law phi)
  unfold b_law
  exact bv_cons (sv_set 1 nd (ev_call G.f__law_draws_of hr tk (av_cons (ev_slot 0) (av_nil))))
     (bv_cons (sv_set 2 nd (ev_bin op_fdiv s_div (ev_type1 call_int1 s_int G.b_int (ev_ix (ev_slot 1) (ev_int) (hu_of hr))) (ev_int)))
     (bv_cons (sv_set 3 nd (ev_tup (av_keep (ev_ix (ev_lst (av_keep (ev_str) (av_keep (ev_str) (av_keep (ev_str) (av_keep (ev_str) (av_keep (ev_str) (av_keep (ev_str) (av_keep (ev_str) (av_keep (ev_str) (av_nil)))))))))) (ev_bin op_mod s_mod (ev_type1 call_int1 s_int G.b_int (ev_ix (ev_slot 1) (ev_int) (hu_of hr))) (ev_int)) (hu_of hr)) (av_nil))))
     (bv_cons (sv_for (tmp := [4, 5]) (tt := .one 4) po rfl (pg_name (i := 4) nd rfl (by first | exact Or.inl rfl | exact Or.inr rfl)) (tg_one) (wv_r1 G.b_range (ev_bin op_mod s_mod (ev_type1 call_int1 s_int G.b_int (ev_ix (ev_slot 1) (ev_int) (hu_of hr))) (ev_int)))
     (bv_cons (sv_set 5 nd (ev_call G.f__law_nth hr tk (av_cons (ev_slot 1) (av_cons (ev_bin op_addA s_add (ev_int) (ev_slot 4)) (av_nil)))))
     (bv_one (sv_if (tv_cmp (op_eqD hr.units) s_eq (ev_bin op_mod s_mod (ev_bin op_fdiv s_div (ev_type1 call_int1 s_int G.b_int (ev_slot 5)) (ev_int)) (ev_int)) (ev_int) (nomark _)) (bv_one (sv_set 3 nd (ev_bin op_addA s_add (ev_slot 3) (ev_tup (av_keep (ev_call G.f__law_things_of hr tk (av_cons (ev_slot 5) (av_cons (ev_slot 2) (av_nil)))) (av_nil)))))) (bv_one (sv_set 3 nd (ev_bin op_addA s_add (ev_slot 3) (ev_tup (av_keep (ev_call G.f__law_part_of hr tk (av_cons (ev_slot 5) (av_cons (ev_slot 2) (av_nil)))) (av_nil))))))))))
     (bv_cons (sv_set 6 nd (ev_call G.f__law_part_of hr tk (av_cons (ev_bin op_fdiv s_div (ev_ix (ev_slot 1) (ev_int) (hu_of hr)) (ev_int)) (av_cons (ev_slot 2) (av_nil)))))
     (bv_cons (sv_set 7 nd (ev_call G.f__law_part_of hr tk (av_cons (ev_ix (ev_slot 1) (ev_int) (hu_of hr)) (av_cons (ev_slot 2) (av_nil)))))
     (bv_cons (sv_set 8 nd (ev_call G.f__law_things_of hr tk (av_cons (ev_call G.f__law_nth hr tk (av_cons (ev_slot 1) (av_cons (ev_int) (av_nil)))) (av_cons (ev_slot 2) (av_nil)))))
     (bv_cons (sv_set 9 nd (ev_lst (av_keep (ev_tup (av_nil)) (av_keep (ev_slot 3) (av_keep (ev_tup (av_keep (ev_str) (av_keep (ev_slot 6) (av_nil)))) (av_keep (ev_tup (av_keep (ev_str) (av_keep (ev_slot 6) (av_nil)))) (av_keep (ev_tup (av_keep (ev_str) (av_keep (ev_slot 6) (av_keep (ev_slot 7) (av_nil))))) (av_nil))))))))
     (bv_cons (sv_expr (ev_append (pv 9) (av_keep (ev_tup (av_keep (ev_str) (av_keep (ev_slot 6) (av_keep (ev_slot 8) (av_nil))))) (av_nil))))
     (bv_cons (sv_expr (ev_append (pv 9) (av_keep (ev_tup (av_keep (ev_str) (av_keep (ev_slot 6) (av_keep (ev_bin op_addA s_add (ev_slot 8) (ev_tup (av_keep (ev_slot 7) (av_nil)))) (av_nil))))) (av_nil))))
     (bv_cons (sv_set 9 nd (ev_bin op_addA s_add (ev_slot 9) (ev_lst (av_keep (ev_tup (av_keep (ev_str) (av_keep (ev_slot 6) (av_keep (ev_tup (av_nil)) (av_nil))))) (av_keep (ev_tup (av_keep (ev_str) (av_keep (ev_slot 6) (av_keep (ev_slot 7) (av_nil))))) (av_nil))))))
     (bv_cons (sv_set 9 nd (ev_bin op_addA s_add (ev_slot 9) (ev_lst (av_keep (ev_tup (av_keep (ev_str) (av_keep (ev_slot 6) (av_keep (ev_slot 8) (av_nil))))) (av_keep (ev_tup (av_keep (ev_str) (av_keep (ev_slot 6) (av_nil)))) (av_keep (ev_tup (av_keep (ev_str) (av_nil))) (av_nil)))))))
     (bv_cons (sv_set 9 nd (ev_bin op_addA s_add (ev_slot 9) (ev_lst (av_keep (ev_tup (av_keep (ev_str) (av_keep (ev_slot 6) (av_keep (ev_slot 7) (av_nil))))) (av_keep (ev_tup (av_keep (ev_str) (av_keep (ev_slot 8) (av_nil)))) (av_nil))))))
     (bv_cons (sv_set 9 nd (ev_bin op_addA s_add (ev_slot 9) (ev_lst (av_keep (ev_tup (av_keep (ev_slot 8) (av_keep (ev_slot 6) (av_nil)))) (av_keep (ev_tup (av_keep (ev_str) (av_keep (ev_slot 6) (av_nil)))) (av_nil))))))
     (bv_cons (sv_expr (ev_append (pv 9) (av_keep (ev_tup (av_keep (ev_str) (av_keep (ev_slot 6) (av_keep (ev_slot 7) (av_keep (ev_slot 7) (av_nil)))))) (av_nil))))
     (bv_cons (sv_expr (ev_append (pv 9) (av_keep (ev_tup (av_keep (ev_str) (av_keep (ev_slot 6) (av_keep (ev_slot 8) (av_keep (ev_slot 8) (av_nil)))))) (av_nil))))
     (bv_cons (sv_for (tmp := [10, 11, 12]) (tt := .one 10) po rfl (pg_name (i := 10) nd rfl (by first | exact Or.inl rfl | exact Or.inr rfl)) (tg_one) (wv_any (ev_slot 9))
     (bv_cons (sv_set 11 nd (ev_call G.f__law_is_step hr tk (av_cons (ev_slot 10) (av_nil))))
     (bv_cons (sv_if (tv_not (tv_tru (ev_call G.f__law_said hr tk (av_cons (ev_call G.f_valid_step hr tk (av_cons (ev_slot 10) (av_nil))) (av_cons (ev_slot 11) (av_nil)))))) (bv_one (sv_ret (ev_bl))) (bv_nil))
     (bv_cons (sv_if (tv_w (wv_and (tv_not (tv_tru (ev_slot 11))) (wv_and1 (tv_not (tv_tru (ev_call G.f__law_refused hr tk (av_keep (ev_slot 10) (av_nil)))))))) (bv_one (sv_ret (ev_bl))) (bv_nil))
     (bv_one (sv_if (tv_tru (ev_slot 11)) (bv_cons (sv_set 12 nd (ev_call G.f_format_step hr tk (av_keep (ev_slot 10) (av_nil))))
     (bv_one (sv_if (tv_w (wv_or (tv_not (tv_tru (ev_isty (T := "str") (s_isty rfl rfl rfl rfl rfl rfl rfl) G.b_isinstance G.b_str (ev_slot 12)))) (wv_or1 (tv_cmp (op_neD hr.units) s_ne (ev_slot 12) (ev_call G.f__law_text_of hr tk (av_cons (ev_slot 10) (av_nil))) (nomark _))))) (bv_one (sv_ret (ev_bl))) (bv_nil)))) (bv_nil)))))))
     (bv_one (sv_ret (ev_bl)))))))))))))))))))

end
/-! ### the top, the law's end -/
theorem all_mk {l : PySem.W.OpenLaw} {w : World} {K : PySem.W.Frag} {h : Heap} {mg : Str → Option Value} {fa : Addr} (X : K.In h) (G : h.Ns mainGlobals mg) (hfa : mg "law" = some (.ref fa)) (sol : ∀ ns : List Int, ns.length ≤ 63 → sem tab 40 "law" [.scr (ns.map .int)] = .ok false (.bl true) []) 
    {od0 an0 : Option Addr} {sl0 : Array (Option Value)} {oc0 kV0 dc0 pm0 cd0 ct0 : Value} {f0 : Addr}
    {od1 an1 : Option Addr} {sl1 : Array (Option Value)} {oc1 kV1 dc1 pm1 cd1 ct1 : Value} {f1 : Addr}
    {od2 an2 : Option Addr} {sl2 : Array (Option Value)} {oc2 kV2 dc2 pm2 cd2 ct2 : Value} {f2 : Addr}
    {od3 an3 : Option Addr} {sl3 : Array (Option Value)} {oc3 kV3 dc3 pm3 cd3 ct3 : Value} {f3 : Addr}
    {od4 an4 : Option Addr} {sl4 : Array (Option Value)} {oc4 kV4 dc4 pm4 cd4 ct4 : Value} {f4 : Addr}
    {od5 an5 : Option Addr} {sl5 : Array (Option Value)} {oc5 kV5 dc5 pm5 cd5 ct5 : Value} {f5 : Addr}
    {od6 an6 : Option Addr} {sl6 : Array (Option Value)} {oc6 kV6 dc6 pm6 cd6 ct6 : Value} {f6 : Addr}
    {od7 an7 : Option Addr} {sl7 : Array (Option Value)} {oc7 kV7 dc7 pm7 cd7 ct7 : Value} {f7 : Addr}
    {od8 an8 : Option Addr} {sl8 : Array (Option Value)} {oc8 kV8 dc8 pm8 cd8 ct8 : Value} {f8 : Addr}
    {od9 an9 : Option Addr} {sl9 : Array (Option Value)} {oc9 kV9 dc9 pm9 cd9 ct9 : Value} {f9 : Addr}
    {od10 an10 : Option Addr} {sl10 : Array (Option Value)} {oc10 kV10 dc10 pm10 cd10 ct10 : Value} {f10 : Addr}
    {od11 an11 : Option Addr} {sl11 : Array (Option Value)} {oc11 kV11 dc11 pm11 cd11 ct11 : Value} {f11 : Addr}
    {od12 an12 : Option Addr} {sl12 : Array (Option Value)} {oc12 kV12 dc12 pm12 cd12 ct12 : Value} {f12 : Addr}
    {od13 an13 : Option Addr} {sl13 : Array (Option Value)} {oc13 kV13 dc13 pm13 cd13 ct13 : Value} {f13 : Addr}
    {od14 an14 : Option Addr} {sl14 : Array (Option Value)} {oc14 kV14 dc14 pm14 cd14 ct14 : Value} {f14 : Addr}
    {od15 an15 : Option Addr} {sl15 : Array (Option Value)} {oc15 kV15 dc15 pm15 cd15 ct15 : Value} {f15 : Addr}
    {t_LONGEST : Tok}
    {t_LETTERS : Tok}
    {t_DIGITS : Tok}
    {C_InvalidStep : Addr}
    {C_InvalidLine : Addr}
    {C_NotRunning : Addr}
    {C_KeeperError : Addr}
    {nm_InvalidStep qn_InvalidStep : Str} {N_InvalidStep fI_InvalidStep cc_InvalidStep cda_InvalidStep : Addr} {bs_InvalidStep bm_InvalidStep : List Value} {sn_InvalidStep : List Str} {sb_InvalidStep : List Value} {ab_InvalidStep : Bool} {col_InvalidStep : Option Bool} {dd_InvalidStep : Option Addr} {k0_InvalidStep k1_InvalidStep k2_InvalidStep k3_InvalidStep k5_InvalidStep : Option Value}
    {ioc_InvalidStep ikV_InvalidStep idc_InvalidStep ipm_InvalidStep ict_InvalidStep gcl_InvalidStep hcl_InvalidStep : Value} {iod_InvalidStep ian_InvalidStep gcd_InvalidStep hcd_InvalidStep : Option Addr} {isl_InvalidStep gsl_InvalidStep hsl_InvalidStep : Array (Option Value)} {vs_InvalidStep : Array Value} {file_InvalidStep : Str} {tf_InvalidStep : Tok}
    (z_len : PySem.W.nsIn K mainGlobals "len" = some none)
    (z_all : PySem.W.nsIn K mainGlobals "all" = some none)
    (z_isinstance : PySem.W.nsIn K mainGlobals "isinstance" = some none)
    (z_str : PySem.W.nsIn K mainGlobals "str" = some none)
    (z_tuple : PySem.W.nsIn K mainGlobals "tuple" = some none)
    (z_set : PySem.W.nsIn K mainGlobals "set" = some none)
    (z_super : PySem.W.nsIn K mainGlobals "super" = some none)
    (z_int : PySem.W.nsIn K mainGlobals "int" = some none)
    (z_abs : PySem.W.nsIn K mainGlobals "abs" = some none)
    (z_range : PySem.W.nsIn K mainGlobals "range" = some none)
    (c_LONGEST : PySem.W.nsIn K mainGlobals "LONGEST" = some (some (.int 8 t_LONGEST)))
    (c_LETTERS : PySem.W.nsIn K mainGlobals "LETTERS" = some (some (.str "abcdefghijklmnopqrstuvwxyz" t_LETTERS)))
    (c_DIGITS : PySem.W.nsIn K mainGlobals "DIGITS" = some (some (.str "0123456789" t_DIGITS)))
    (a0 : PySem.W.nsIn K mainGlobals "valid_name" = some (some (.ref f0)))
    (l0 : K.lookup f0 = some ⟨oc0, od0, .func (PySem.W.fnOf "valid_name" "valid_name" (defArgs st_valid_name) (defBody st_valid_name) (defScope st_valid_name) .none kV0 dc0 pm0 an0 cd0 ct0), sl0⟩)
    (d0 : PySem.W.codeIn K cd0 "valid_name" = true)
    (k0 : PySem.W.keepIn K (.ref f0) = true)
    (a1 : PySem.W.nsIn K mainGlobals "_is_name" = some (some (.ref f1)))
    (l1 : K.lookup f1 = some ⟨oc1, od1, .func (PySem.W.fnOf "_is_name" "_is_name" (defArgs st__is_name) (defBody st__is_name) (defScope st__is_name) .none kV1 dc1 pm1 an1 cd1 ct1), sl1⟩)
    (d1 : PySem.W.codeIn K cd1 "_is_name" = true)
    (k1 : PySem.W.keepIn K (.ref f1) = true)
    (a2 : PySem.W.nsIn K mainGlobals "_are_things" = some (some (.ref f2)))
    (l2 : K.lookup f2 = some ⟨oc2, od2, .func (PySem.W.fnOf "_are_things" "_are_things" (defArgs st__are_things) (defBody st__are_things) (defScope st__are_things) .none kV2 dc2 pm2 an2 cd2 ct2), sl2⟩)
    (d2 : PySem.W.codeIn K cd2 "_are_things" = true)
    (k2 : PySem.W.keepIn K (.ref f2) = true)
    (a3 : PySem.W.nsIn K mainGlobals "valid_step" = some (some (.ref f3)))
    (l3 : K.lookup f3 = some ⟨oc3, od3, .func (PySem.W.fnOf "valid_step" "valid_step" (defArgs st_valid_step) (defBody st_valid_step) (defScope st_valid_step) .none kV3 dc3 pm3 an3 cd3 ct3), sl3⟩)
    (d3 : PySem.W.codeIn K cd3 "valid_step" = true)
    (k3 : PySem.W.keepIn K (.ref f3) = true)
    (a4 : PySem.W.nsIn K mainGlobals "format_step" = some (some (.ref f4)))
    (l4 : K.lookup f4 = some ⟨oc4, od4, .func (PySem.W.fnOf "format_step" "format_step" (defArgs st_format_step) (defBody st_format_step) (defScope st_format_step) .none kV4 dc4 pm4 an4 cd4 ct4), sl4⟩)
    (d4 : PySem.W.codeIn K cd4 "format_step" = true)
    (k4 : PySem.W.keepIn K (.ref f4) = true)
    (a5 : PySem.W.nsIn K mainGlobals "_law_draws_of" = some (some (.ref f5)))
    (l5 : K.lookup f5 = some ⟨oc5, od5, .func (PySem.W.fnOf "_law_draws_of" "_law_draws_of" (defArgs st__law_draws_of) (defBody st__law_draws_of) (defScope st__law_draws_of) .none kV5 dc5 pm5 an5 cd5 ct5), sl5⟩)
    (d5 : PySem.W.codeIn K cd5 "_law_draws_of" = true)
    (k5 : PySem.W.keepIn K (.ref f5) = true)
    (a6 : PySem.W.nsIn K mainGlobals "_law_nth" = some (some (.ref f6)))
    (l6 : K.lookup f6 = some ⟨oc6, od6, .func (PySem.W.fnOf "_law_nth" "_law_nth" (defArgs st__law_nth) (defBody st__law_nth) (defScope st__law_nth) .none kV6 dc6 pm6 an6 cd6 ct6), sl6⟩)
    (d6 : PySem.W.codeIn K cd6 "_law_nth" = true)
    (k6 : PySem.W.keepIn K (.ref f6) = true)
    (a7 : PySem.W.nsIn K mainGlobals "_law_named" = some (some (.ref f7)))
    (l7 : K.lookup f7 = some ⟨oc7, od7, .func (PySem.W.fnOf "_law_named" "_law_named" (defArgs st__law_named) (defBody st__law_named) (defScope st__law_named) .none kV7 dc7 pm7 an7 cd7 ct7), sl7⟩)
    (d7 : PySem.W.codeIn K cd7 "_law_named" = true)
    (k7 : PySem.W.keepIn K (.ref f7) = true)
    (a8 : PySem.W.nsIn K mainGlobals "_law_is_name" = some (some (.ref f8)))
    (l8 : K.lookup f8 = some ⟨oc8, od8, .func (PySem.W.fnOf "_law_is_name" "_law_is_name" (defArgs st__law_is_name) (defBody st__law_is_name) (defScope st__law_is_name) .none kV8 dc8 pm8 an8 cd8 ct8), sl8⟩)
    (d8 : PySem.W.codeIn K cd8 "_law_is_name" = true)
    (k8 : PySem.W.keepIn K (.ref f8) = true)
    (a9 : PySem.W.nsIn K mainGlobals "_law_is_step" = some (some (.ref f9)))
    (l9 : K.lookup f9 = some ⟨oc9, od9, .func (PySem.W.fnOf "_law_is_step" "_law_is_step" (defArgs st__law_is_step) (defBody st__law_is_step) (defScope st__law_is_step) .none kV9 dc9 pm9 an9 cd9 ct9), sl9⟩)
    (d9 : PySem.W.codeIn K cd9 "_law_is_step" = true)
    (k9 : PySem.W.keepIn K (.ref f9) = true)
    (a10 : PySem.W.nsIn K mainGlobals "_law_part_of" = some (some (.ref f10)))
    (l10 : K.lookup f10 = some ⟨oc10, od10, .func (PySem.W.fnOf "_law_part_of" "_law_part_of" (defArgs st__law_part_of) (defBody st__law_part_of) (defScope st__law_part_of) .none kV10 dc10 pm10 an10 cd10 ct10), sl10⟩)
    (d10 : PySem.W.codeIn K cd10 "_law_part_of" = true)
    (k10 : PySem.W.keepIn K (.ref f10) = true)
    (a11 : PySem.W.nsIn K mainGlobals "_law_things_of" = some (some (.ref f11)))
    (l11 : K.lookup f11 = some ⟨oc11, od11, .func (PySem.W.fnOf "_law_things_of" "_law_things_of" (defArgs st__law_things_of) (defBody st__law_things_of) (defScope st__law_things_of) .none kV11 dc11 pm11 an11 cd11 ct11), sl11⟩)
    (d11 : PySem.W.codeIn K cd11 "_law_things_of" = true)
    (k11 : PySem.W.keepIn K (.ref f11) = true)
    (a12 : PySem.W.nsIn K mainGlobals "_law_text_of" = some (some (.ref f12)))
    (l12 : K.lookup f12 = some ⟨oc12, od12, .func (PySem.W.fnOf "_law_text_of" "_law_text_of" (defArgs st__law_text_of) (defBody st__law_text_of) (defScope st__law_text_of) .none kV12 dc12 pm12 an12 cd12 ct12), sl12⟩)
    (d12 : PySem.W.codeIn K cd12 "_law_text_of" = true)
    (k12 : PySem.W.keepIn K (.ref f12) = true)
    (a13 : PySem.W.nsIn K mainGlobals "_law_refused" = some (some (.ref f13)))
    (l13 : K.lookup f13 = some ⟨oc13, od13, .func (PySem.W.fnOf "_law_refused" "_law_refused" (defArgs st__law_refused) (defBody st__law_refused) (defScope st__law_refused) .none kV13 dc13 pm13 an13 cd13 ct13), sl13⟩)
    (d13 : PySem.W.codeIn K cd13 "_law_refused" = true)
    (k13 : PySem.W.keepIn K (.ref f13) = true)
    (a14 : PySem.W.nsIn K mainGlobals "_law_said" = some (some (.ref f14)))
    (l14 : K.lookup f14 = some ⟨oc14, od14, .func (PySem.W.fnOf "_law_said" "_law_said" (defArgs st__law_said) (defBody st__law_said) (defScope st__law_said) .none kV14 dc14 pm14 an14 cd14 ct14), sl14⟩)
    (d14 : PySem.W.codeIn K cd14 "_law_said" = true)
    (k14 : PySem.W.keepIn K (.ref f14) = true)
    (a15 : PySem.W.nsIn K mainGlobals "law" = some (some (.ref f15)))
    (l15 : K.lookup f15 = some ⟨oc15, od15, .func (PySem.W.fnOf "law" "law" (defArgs st_law) (defBody st_law) (defScope st_law) .none kV15 dc15 pm15 an15 cd15 ct15), sl15⟩)
    (d15 : PySem.W.codeIn K cd15 "law" = true)
    (k15 : PySem.W.keepIn K (.ref f15) = true)
    (na_InvalidStep : PySem.W.nsIn K mainGlobals "InvalidStep" = some (some (.ref C_InvalidStep)))
    (na_InvalidLine : PySem.W.nsIn K mainGlobals "InvalidLine" = some (some (.ref C_InvalidLine)))
    (na_NotRunning : PySem.W.nsIn K mainGlobals "NotRunning" = some (some (.ref C_NotRunning)))
    (na_KeeperError : PySem.W.nsIn K mainGlobals "KeeperError" = some (some (.ref C_KeeperError)))
    (xo : PySem.W.nsIn K cStatics "thirdparty.any" = some none)
    (xtop : (l.prog.main.scope.names.lookup ("super" : Str)).isSome = false)
    (xhn : PySem.W.specialIn K (.builtin "object.__class__") "__get__" = some (some (.builtin "getset_descriptor.__get__")))
    (xht : PySem.W.takesIn K (.builtin "object.__class__") = some true)
    (xL_InvalidStep : K.lookup C_InvalidStep = some (excClassObj nm_InvalidStep qn_InvalidStep C_InvalidStep N_InvalidStep bs_InvalidStep bm_InvalidStep true sn_InvalidStep sb_InvalidStep ab_InvalidStep col_InvalidStep dd_InvalidStep k0_InvalidStep k1_InvalidStep k2_InvalidStep k3_InvalidStep k5_InvalidStep "ValueError.__new__"))
    (xbm_InvalidStep : PySem.HandSPX.refsVE bm_InvalidStep = true)
    (xsa_InvalidStep : PySem.W.findIn K (.ref C_InvalidStep) "__setattr__" = some (some (.builtin "object.__setattr__")))
    (xbe_InvalidStep : PySem.W.subIn K (.ref C_InvalidStep) (.type "BaseException") = some true)
    (xty_InvalidStep : PySem.W.typeIn K (.ref C_InvalidStep) = some (.type "type"))
    (xke_InvalidStep : PySem.W.keepIn K (.ref C_InvalidStep) = true)
    (xno_InvalidStep_step : PySem.W.findIn K (.ref C_InvalidStep) "step" = some none)
    (xin_InvalidStep : PySem.W.findIn K (.ref C_InvalidStep) "__init__" = some (some (.ref fI_InvalidStep)))
    (xfn_InvalidStep : K.lookup fI_InvalidStep = some ⟨ioc_InvalidStep, iod_InvalidStep, .func (PySem.W.ksFn "__init__" "InvalidStep.__init__" (defArgs st_InvalidStep) (defBody st_InvalidStep) (defScope st_InvalidStep) .none ikV_InvalidStep idc_InvalidStep ipm_InvalidStep ian_InvalidStep (.ref cda_InvalidStep) ict_InvalidStep cc_InvalidStep), isl_InvalidStep⟩)
    (xti_InvalidStep : PySem.W.typeIn K (.ref fI_InvalidStep) = some (.type "function"))
    (xsu_InvalidStep : PySem.W.ks_superIn K C_InvalidStep C_InvalidStep "__init__" = some (some (.builtin "ValueError.__init__")))
    (xve_InvalidStep : PySem.W.subIn K (.ref C_InvalidStep) (.type "ValueError") = some true)
    (xmc_InvalidStep : PySem.W.mroIn K C_InvalidStep (.ref C_InvalidStep) = some true)
    (xcd_InvalidStep : PySem.W.codeIn K (.ref cda_InvalidStep) "InvalidStep.__init__" = true)
    (xco_InvalidStep : K.lookup cda_InvalidStep = some ⟨gcl_InvalidStep, gcd_InvalidStep, .fields vs_InvalidStep, gsl_InvalidStep⟩)
    (xvs_InvalidStep : vs_InvalidStep[2]? = some (.str file_InvalidStep tf_InvalidStep))
    (xfi_InvalidStep : ((l.prog.main.file : Str) == file_InvalidStep) = true)
    (xce_InvalidStep : K.lookup cc_InvalidStep = some ⟨hcl_InvalidStep, hcd_InvalidStep, .cell (some (.ref C_InvalidStep)), hsl_InvalidStep⟩)
    (xga_InvalidStep : PySem.W.findIn K (.ref C_InvalidStep) "__getattribute__" = some (some (.builtin "BaseException.__getattribute__")))
    (xgt_InvalidStep : PySem.W.findIn K (.ref C_InvalidStep) "__getattr__" = some none)
    (xha_InvalidStep : PySem.W.findIn K (.ref C_InvalidStep) "__class__" = some (some (.builtin "object.__class__")))
    (xhm_InvalidStep : PySem.W.mroIn K C_InvalidStep (.type "object") = some true)
    (xhd_InvalidStep : PySem.W.hasDictIn K C_InvalidStep = true)
    (ki_InvalidStep_InvalidLine : PySem.W.kitOne K (.ref C_InvalidStep) (.ref C_InvalidLine) = some false)
    (ki_InvalidStep_NotRunning : PySem.W.kitOne K (.ref C_InvalidStep) (.ref C_NotRunning) = some false)
    (ki_InvalidStep_KeeperError : PySem.W.kitOne K (.ref C_InvalidStep) (.ref C_KeeperError) = some true)
    (zn_ValueError : PySem.W.nsIn K mainGlobals "ValueError" = some none)
    (kb_InvalidStep_ValueError : PySem.W.kitOne K (.ref C_InvalidStep) (.type "ValueError") = some true)
    (eb_InvalidStep : PySem.W.subIn K (.ref C_InvalidStep) (.type "BaseException") = some true)
    (eh_InvalidStep : PySem.W.hasDictIn K C_InvalidStep = true)
    (et_InvalidStep : PySem.W.typeIn K (.ref C_InvalidStep) = some (.type "type"))
    (es_InvalidStep_InvalidStep : PySem.W.subIn K (.ref C_InvalidStep) (.ref C_InvalidStep) = some true) :
    ∃ fd : FuncData, (∀ (s : Shared) (v : Value), BindsTo s fd ⟨[v], []⟩ [("_law_script", v)]) ∧ ∀ base : Heap, K.In base → base.Ns mainGlobals mg → FnOk l.prog w K mg base (L2.CX l.prog w) 40 fa fd ["_law_script"] (spL K) := by
  have e := hfa.symm.trans (PySem.W.mg_of X G a15)
  cases e
  have T_InvalidStep : PySem.S3X.ExT l.prog K C_InvalidStep fI_InvalidStep cc_InvalidStep cda_InvalidStep (PySem.W.ksFn "__init__" "InvalidStep.__init__" (defArgs st_InvalidStep) (defBody st_InvalidStep) (defScope st_InvalidStep) .none ikV_InvalidStep idc_InvalidStep ipm_InvalidStep ian_InvalidStep (.ref cda_InvalidStep) ict_InvalidStep cc_InvalidStep) ["step"] := {
    cls := ⟨_, _, _, _, _, _, _, _, _, _, _, _, _, _, _, xL_InvalidStep, xbm_InvalidStep⟩, sa := xsa_InvalidStep, exC := xbe_InvalidStep, tyC := xty_InvalidStep, kC := xke_InvalidStep
    noN := fun f hf => by
      simp only [List.mem_cons, List.not_mem_nil, or_false] at hf
      subst hf
      exact xno_InvalidStep_step
    iC := xin_InvalidStep, tI := xti_InvalidStep, sup := xsu_InvalidStep, vB := xve_InvalidStep, mC := xmc_InvalidStep, opq := xo, fn := ⟨_, _, _, xfn_InvalidStep⟩, fe := ⟨_, _, _, _, _, _, _, _, _, _, _, rfl, it_InvalidStep⟩, cd := xcd_InvalidStep
    code := ⟨_, _, _, _, _, _, xco_InvalidStep, xvs_InvalidStep, xfi_InvalidStep⟩, cell := ⟨_, _, _, xce_InvalidStep⟩, bd := fun s e us hl => match us, hl with | [_], _ => .of_eq rfl, top := xtop }
  have X_InvalidStep : XcK K C_InvalidStep ["step"] := {
    cl := by obtain ⟨cd, h, _⟩ := PySem.S3X.clsIn_of T_InvalidStep; rw [h]; rfl
    ga := xga_InvalidStep, gt := xgt_InvalidStep, sb := xbe_InvalidStep, ha := xha_InvalidStep, hn := xhn, ht := xht, hm := xhm_InvalidStep, hd := xhd_InvalidStep
    no := fun f hf => by
      simp only [List.mem_cons, List.not_mem_nil, or_false] at hf
      subst hf
      exact xno_InvalidStep_step }
  have F0 := fun_mk (st := st_valid_name) l0 d0 k0
  have b0 := F0.binds (ps := ["text"]) fun _ _ _ _ _ _ us hl => match us, hl with | [_], _ => rfl
  have F1 := fun_mk (st := st__is_name) l1 d1 k1
  have b1 := F1.binds (ps := ["part"]) fun _ _ _ _ _ _ us hl => match us, hl with | [_], _ => rfl
  have F2 := fun_mk (st := st__are_things) l2 d2 k2
  have b2 := F2.binds (ps := ["part"]) fun _ _ _ _ _ _ us hl => match us, hl with | [_], _ => rfl
  have F3 := fun_mk (st := st_valid_step) l3 d3 k3
  have b3 := F3.binds (ps := ["step"]) fun _ _ _ _ _ _ us hl => match us, hl with | [_], _ => rfl
  have F4 := fun_mk (st := st_format_step) l4 d4 k4
  have b4 := F4.binds (ps := ["step"]) fun _ _ _ _ _ _ us hl => match us, hl with | [_], _ => rfl
  have F5 := fun_mk (st := st__law_draws_of) l5 d5 k5
  have b5 := F5.binds (ps := ["_law_script"]) fun _ _ _ _ _ _ us hl => match us, hl with | [_], _ => rfl
  have F6 := fun_mk (st := st__law_nth) l6 d6 k6
  have b6 := F6.binds (ps := ["_law_pool", "_law_k"]) fun _ _ _ _ _ _ us hl => match us, hl with | [_, _], _ => rfl
  have F7 := fun_mk (st := st__law_named) l7 d7 k7
  have b7 := F7.binds (ps := ["_law_k", "_law_style"]) fun _ _ _ _ _ _ us hl => match us, hl with | [_, _], _ => rfl
  have F8 := fun_mk (st := st__law_is_name) l8 d8 k8
  have b8 := F8.binds (ps := ["_law_part"]) fun _ _ _ _ _ _ us hl => match us, hl with | [_], _ => rfl
  have F9 := fun_mk (st := st__law_is_step) l9 d9 k9
  have b9 := F9.binds (ps := ["_law_step"]) fun _ _ _ _ _ _ us hl => match us, hl with | [_], _ => rfl
  have F10 := fun_mk (st := st__law_part_of) l10 d10 k10
  have b10 := F10.binds (ps := ["_law_draw", "_law_style"]) fun _ _ _ _ _ _ us hl => match us, hl with | [_, _], _ => rfl
  have F11 := fun_mk (st := st__law_things_of) l11 d11 k11
  have b11 := F11.binds (ps := ["_law_draw", "_law_style"]) fun _ _ _ _ _ _ us hl => match us, hl with | [_, _], _ => rfl
  have F12 := fun_mk (st := st__law_text_of) l12 d12 k12
  have b12 := F12.binds (ps := ["_law_step"]) fun _ _ _ _ _ _ us hl => match us, hl with | [_], _ => rfl
  have F13 := fun_mk (st := st__law_refused) l13 d13 k13
  have b13 := F13.binds (ps := ["_law_step"]) fun _ _ _ _ _ _ us hl => match us, hl with | [_], _ => rfl
  have F14 := fun_mk (st := st__law_said) l14 d14 k14
  have b14 := F14.binds (ps := ["_law_told", "_law_due"]) fun _ _ _ _ _ _ us hl => match us, hl with | [_, _], _ => rfl
  have F15 := fun_mk (st := st_law) l15 d15 k15
  have b15 := F15.binds (ps := ["_law_script"]) fun _ _ _ _ _ _ us hl => match us, hl with | [_], _ => rfl
  refine ⟨PySem.W.fnOf "law" "law" (defArgs st_law) (defBody st_law) (defScope st_law) .none kV15 dc15 pm15 an15 cd15 ct15, fun s v => .of_eq rfl, fun base _ _ => ?_⟩
  have all : ∀ k, Tab (caL [("InvalidStep", C_InvalidStep)]) l.prog w K mg base k (sem tab k) := fun k => by
    induction k with
    | zero => exact ⟨PySem.W.mg_none_of X G z_len, PySem.W.mg_none_of X G z_all, PySem.W.mg_none_of X G z_isinstance, PySem.W.mg_none_of X G z_str, PySem.W.mg_none_of X G z_tuple, PySem.W.mg_none_of X G z_set, PySem.W.mg_none_of X G z_super, PySem.W.mg_none_of X G z_int, PySem.W.mg_none_of X G z_abs, PySem.W.mg_none_of X G z_range, ⟨_, PySem.W.mg_of X G c_LONGEST⟩, ⟨_, PySem.W.mg_of X G c_LETTERS⟩, ⟨_, PySem.W.mg_of X G c_DIGITS⟩, ⟨⟨rfl, rfl, rfl⟩, caL_all (P := fun m C => XcK K C ["step"]) (List.forall_mem_cons.mpr ⟨X_InvalidStep, fun p hp => by cases hp⟩)⟩, ⟨C_InvalidStep, fI_InvalidStep, cc_InvalidStep, cda_InvalidStep, _, rfl, T_InvalidStep, PySem.W.mg_of X G na_InvalidStep⟩, ⟨C_InvalidLine, PySem.W.mg_of X G na_InvalidLine, caL_all (P := fun m C => PySem.W.kitOne K (.ref C) (.ref C_InvalidLine) = some ((subs []) m)) (List.forall_mem_cons.mpr ⟨ki_InvalidStep_InvalidLine, fun p hp => by cases hp⟩)⟩, ⟨C_NotRunning, PySem.W.mg_of X G na_NotRunning, caL_all (P := fun m C => PySem.W.kitOne K (.ref C) (.ref C_NotRunning) = some ((subs []) m)) (List.forall_mem_cons.mpr ⟨ki_InvalidStep_NotRunning, fun p hp => by cases hp⟩)⟩, ⟨C_KeeperError, PySem.W.mg_of X G na_KeeperError, caL_all (P := fun m C => PySem.W.kitOne K (.ref C) (.ref C_KeeperError) = some ((subs ["InvalidStep"]) m)) (List.forall_mem_cons.mpr ⟨ki_InvalidStep_KeeperError, fun p hp => by cases hp⟩)⟩, ⟨PySem.W.mg_none_of X G zn_ValueError, caL_all (P := fun m C => PySem.W.kitOne K (.ref C) (.type "ValueError") = some ((subs ["InvalidStep"]) m)) (List.forall_mem_cons.mpr ⟨kb_InvalidStep_ValueError, fun p hp => by cases hp⟩)⟩, ⟨C_InvalidStep, PySem.W.mg_of X G na_InvalidStep, caL_all (P := fun m C => PySem.W.exmOne K (.ref C) (.ref C_InvalidStep) = some ((subs ["InvalidStep"]) m)) (List.forall_mem_cons.mpr ⟨PySem.W.exm_ref eb_InvalidStep eh_InvalidStep et_InvalidStep es_InvalidStep_InvalidStep, fun p hp => by cases hp⟩)⟩, FnT.zero (PySem.W.mg_of X G a0) k0 b0, FnT.zero (PySem.W.mg_of X G a1) k1 b1, FnT.zero (PySem.W.mg_of X G a2) k2 b2, FnT.zero (PySem.W.mg_of X G a3) k3 b3, FnT.zero (PySem.W.mg_of X G a4) k4 b4, FnT.zero (PySem.W.mg_of X G a5) k5 b5, FnT.zero (PySem.W.mg_of X G a6) k6 b6, FnT.zero (PySem.W.mg_of X G a7) k7 b7, FnT.zero (PySem.W.mg_of X G a8) k8 b8, FnT.zero (PySem.W.mg_of X G a9) k9 b9, FnT.zero (PySem.W.mg_of X G a10) k10 b10, FnT.zero (PySem.W.mg_of X G a11) k11 b11, FnT.zero (PySem.W.mg_of X G a12) k12 b12, FnT.zero (PySem.W.mg_of X G a13) k13 b13, FnT.zero (PySem.W.mg_of X G a14) k14 b14, FnT.zero (PySem.W.mg_of X G a15) k15 b15⟩
    | succ k ih => exact ⟨PySem.W.mg_none_of X G z_len, PySem.W.mg_none_of X G z_all, PySem.W.mg_none_of X G z_isinstance, PySem.W.mg_none_of X G z_str, PySem.W.mg_none_of X G z_tuple, PySem.W.mg_none_of X G z_set, PySem.W.mg_none_of X G z_super, PySem.W.mg_none_of X G z_int, PySem.W.mg_none_of X G z_abs, PySem.W.mg_none_of X G z_range, ⟨_, PySem.W.mg_of X G c_LONGEST⟩, ⟨_, PySem.W.mg_of X G c_LETTERS⟩, ⟨_, PySem.W.mg_of X G c_DIGITS⟩, ⟨⟨rfl, rfl, rfl⟩, caL_all (P := fun m C => XcK K C ["step"]) (List.forall_mem_cons.mpr ⟨X_InvalidStep, fun p hp => by cases hp⟩)⟩, ⟨C_InvalidStep, fI_InvalidStep, cc_InvalidStep, cda_InvalidStep, _, rfl, T_InvalidStep, PySem.W.mg_of X G na_InvalidStep⟩, ⟨C_InvalidLine, PySem.W.mg_of X G na_InvalidLine, caL_all (P := fun m C => PySem.W.kitOne K (.ref C) (.ref C_InvalidLine) = some ((subs []) m)) (List.forall_mem_cons.mpr ⟨ki_InvalidStep_InvalidLine, fun p hp => by cases hp⟩)⟩, ⟨C_NotRunning, PySem.W.mg_of X G na_NotRunning, caL_all (P := fun m C => PySem.W.kitOne K (.ref C) (.ref C_NotRunning) = some ((subs []) m)) (List.forall_mem_cons.mpr ⟨ki_InvalidStep_NotRunning, fun p hp => by cases hp⟩)⟩, ⟨C_KeeperError, PySem.W.mg_of X G na_KeeperError, caL_all (P := fun m C => PySem.W.kitOne K (.ref C) (.ref C_KeeperError) = some ((subs ["InvalidStep"]) m)) (List.forall_mem_cons.mpr ⟨ki_InvalidStep_KeeperError, fun p hp => by cases hp⟩)⟩, ⟨PySem.W.mg_none_of X G zn_ValueError, caL_all (P := fun m C => PySem.W.kitOne K (.ref C) (.type "ValueError") = some ((subs ["InvalidStep"]) m)) (List.forall_mem_cons.mpr ⟨kb_InvalidStep_ValueError, fun p hp => by cases hp⟩)⟩, ⟨C_InvalidStep, PySem.W.mg_of X G na_InvalidStep, caL_all (P := fun m C => PySem.W.exmOne K (.ref C) (.ref C_InvalidStep) = some ((subs ["InvalidStep"]) m)) (List.forall_mem_cons.mpr ⟨PySem.W.exm_ref eb_InvalidStep eh_InvalidStep et_InvalidStep es_InvalidStep_InvalidStep, fun p hp => by cases hp⟩)⟩, FnT.succ (ok_valid_name F0 ih) (PySem.W.mg_of X G a0) k0 b0 rfl, FnT.succ (ok__is_name F1 ih) (PySem.W.mg_of X G a1) k1 b1 rfl, FnT.succ (ok__are_things F2 ih) (PySem.W.mg_of X G a2) k2 b2 rfl, FnT.succ (ok_valid_step F3 ih) (PySem.W.mg_of X G a3) k3 b3 rfl, FnT.succ (ok_format_step F4 ih) (PySem.W.mg_of X G a4) k4 b4 rfl, FnT.succ (ok__law_draws_of F5 ih) (PySem.W.mg_of X G a5) k5 b5 rfl, FnT.succ (ok__law_nth F6 ih) (PySem.W.mg_of X G a6) k6 b6 rfl, FnT.succ (ok__law_named F7 ih) (PySem.W.mg_of X G a7) k7 b7 rfl, FnT.succ (ok__law_is_name F8 ih) (PySem.W.mg_of X G a8) k8 b8 rfl, FnT.succ (ok__law_is_step F9 ih) (PySem.W.mg_of X G a9) k9 b9 rfl, FnT.succ (ok__law_part_of F10 ih) (PySem.W.mg_of X G a10) k10 b10 rfl, FnT.succ (ok__law_things_of F11 ih) (PySem.W.mg_of X G a11) k11 b11 rfl, FnT.succ (ok__law_text_of F12 ih) (PySem.W.mg_of X G a12) k12 b12 rfl, FnT.succ (ok__law_refused F13 ih) (PySem.W.mg_of X G a13) k13 b13 rfl, FnT.succ (ok__law_said F14 ih) (PySem.W.mg_of X G a14) k14 b14 rfl, FnT.succ (ok_law F15 ih) (PySem.W.mg_of X G a15) k15 b15 rfl⟩
  have e : sem tab 40 "law" = T_law.run (sem tab 39) := by funext ds; simp only [sem, tab]
  have okl := ok_law F15 (all 39)
  rw [← e] at okl
  exact spL_ok okl sol

theorem lawWalk (sol : ∀ ns : List Int, ns.length ≤ 63 → sem tab 40 "law" [.scr (ns.map .int)] = .ok false (.bl true) []) {l : PySem.W.OpenLaw} {q : Program} {loose : List Str} {XP : (Str → Option Value) → Heap → Prop} {YP : World → Heap → Prop} {d : DefRec} {K : Params → PySem.W.Frag} (hn : l.most = some 63) (hdf : d.params.defaults = [])
    (hY : ∀ (w : World) (h : Heap), YP w h → (K w.params).In h)
    (F : ∀ (w : World) (mg : Str → Option Value) (fa : Addr) (h : Heap), (K w.params).In h → h.Ns mainGlobals mg → mg d.name = some (.ref fa) →
      ∃ fd : FuncData, (∀ (s : Shared) (u : Value), BindsTo s fd ⟨[u], []⟩ [("_law_script", u)]) ∧ ∀ base : Heap, (K w.params).In base → base.Ns mainGlobals mg → FnOk l.prog w (K w.params) mg base (L2.CX l.prog w) 40 fa fd ["_law_script"] (spL (K w.params))) :
    PySem.W.WalkO q loose XP YP l.row.toRowW d [] (fun f vs => PySem.call f vs) :=
  L2.walk_of (n := 63) (k := 40) (x := "_law_script") (CX := fun w => L2.CX l.prog w) (sp := fun w => (spL (K w.params))) hn (by decide) hdf ⟨rfl, by decide, by decide⟩ hY F (fun _ _ a ns hl _ hS => ⟨a, ns, rfl, hl, hS, fun _ => rfl⟩) law_CX
end S3


namespace S3
open PySem
/-! the pool of draws -/
def InR (ps : List Int) : Prop := ∀ p ∈ ps, 0 ≤ p ∧ p < 65536
theorem InR.app {ps : List Int} {p : Int} (h : InR ps) (h0 : 0 ≤ p) (h1 : p < 65536) : InR (ps ++ [p]) := fun q hq => by
  rcases List.mem_append.mp hq with z | z
  · exact h q z
  · cases List.mem_singleton.mp z; exact ⟨h0, h1⟩
def lints (ps : List Int) : D := .lst (ps.map .int)
theorem lints_app (ps : List Int) (p : Int) (h : ps.length < BIG) : mAppend (lints ps) [.int p] = some (lints (ps ++ [p]), .fz .non) := by
  show (if (ps.map D.int).length < BIG then _ else _) = _
  rw [if_pos (by rw [List.length_map]; exact h)]
  simp [lints]
theorem lints_isLst (ps : List Int) : isLst (lints ps) = true := rfl
theorem lints_len (ps : List Int) : opLen (lints ps) = some (.fz (.int ps.length)) := by simp [lints]
def Long (ps : List Int) (i : Nat) : Prop := ps.length ≤ 131 ∧ ((i = 0 ∧ ps.length = 0) ∨ 3 ≤ ps.length)
theorem draws_run (phi : String → List D → RC) (ns : List Int) (hn : ns.length ≤ 63) : ∃ ps : List Int, 3 ≤ ps.length ∧ ps.length ≤ 131 ∧ InR ps ∧ T__law_draws_of.run phi [.scr (ns.map .int)] = .ok true (lints ps) [] := by
  rw [run_is rfl]
  show ∃ ps : List Int, _ ∧ _ ∧ _ ∧ finish [.r] (b__law_draws_of phi [.bo (.scr (ns.map .int)), .no, .no, .no, .no]) = _
  unfold b__law_draws_of
  rw [sSeq_e]
  simp [-sSeq_e]
  refine seq_for (ds := ns.map .int) (Q := fun r => ∃ ps : List Int, 3 ≤ ps.length ∧ ps.length ≤ 131 ∧ InR ps ∧ finish [Md.r] r = .ok true (lints ps) []) (e0 := [.bo (.scr (ns.map .int)), .ow (lints []), .no, .no, .no]) ?_
    (fun i e => ∃ ps, e = [.bo (.scr (ns.map .int)), .ow (lints ps), .no, .no, .no] ∧ InR ps ∧ Long ps i) ⟨[], rfl, fun _ h => absurd h (by simp), by decide, .inl ⟨rfl, rfl⟩⟩ ?_ ?_
  · simp [lints]
  · rintro R _ _ _ i d e hd ⟨ps, rfl, hr, hl⟩
    rw [List.getElem?_map, Option.map_eq_some_iff] at hd
    obtain ⟨z, _, rfl⟩ := hd
    refine ⟨_, rfl, ?_⟩
    by_cases h1 : (ps.length : Int) < 72
    · have hps : ps.length < 72 := by omega
      by_cases h2 : (if z < 0 then -z else z) < 1000000000000000000
      · simp [lints_len, h1, opPow_i, h2]
        have hw0 : 0 ≤ (if z < 0 then -z else z) := by split <;> omega
        generalize (if z < 0 then -z else z) = w at h2 hw0
        refine sole_for (Q := turnP _ _ _) (ds := rng 0 3) (e0 := [.bo (.scr (ns.map .int)), .ow (lints ps), .fz (.int z), .fz (.int w), .no]) (by simp)
          (fun j e => ∃ qs w, e = [.bo (.scr (ns.map .int)), .ow (lints qs), .fz (.int z), .fz (.int w), .no] ∧ InR qs ∧ qs.length = ps.length + j ∧ 0 ≤ w) ⟨ps, w, rfl, hr, rfl, hw0⟩ ?_ ?_
        · rintro j d e hd ⟨qs, w, rfl, hq, hl2, hw⟩
          obtain ⟨rfl, hj⟩ := rng0_get hd
          refine ⟨_, rfl, ?_⟩
          have hb : qs.length < BIG := by simp [BIG]; omega
          simp [lints_isLst]
          rw [lints_app _ _ hb]
          simp
          exact ⟨_, _, ⟨rfl, rfl⟩, hq.app (by omega) (by omega), by simp; omega, by omega⟩
        · rintro e ⟨qs, w, rfl, hq, hl2, hw⟩
          simp
          refine ⟨qs, rfl, hq, ?_, .inr ?_⟩
          · simp at hl2; omega
          · simp at hl2; omega
      · simp [lints_len, h1, opPow_i, h2]
        have hw0 : 1000000000000000000 ≤ (if z < 0 then -z else z) := by omega
        generalize (if z < 0 then -z else z) = w at h2 hw0
        refine sole_for (Q := turnP _ _ _) (ds := rng 0 60) (e0 := [.bo (.scr (ns.map .int)), .ow (lints ps), .fz (.int z), .fz (.int w), .no]) (by simp)
          (fun j e => ∃ qs w, e = [.bo (.scr (ns.map .int)), .ow (lints qs), .fz (.int z), .fz (.int w), .no] ∧ InR qs ∧ qs.length ≤ ps.length + j ∧ 0 ≤ w ∧
            ((j = 0 ∧ 1000000000000000000 ≤ w) ∨ (j = 1 ∧ 15258789062500 ≤ w ∧ 1 ≤ qs.length) ∨ (j = 2 ∧ 232830643 ≤ w ∧ 2 ≤ qs.length) ∨ 3 ≤ qs.length)) ⟨ps, w, rfl, hr, Nat.le_refl _, by omega, .inl ⟨rfl, hw0⟩⟩ ?_ ?_
        · rintro j d e hd ⟨qs, w, rfl, hq, hl2, hw, hc⟩
          obtain ⟨rfl, hj⟩ := rng0_get hd
          refine ⟨_, rfl, ?_⟩
          have hb : qs.length < BIG := by simp [BIG]; omega
          by_cases h3 : 0 < w
          · simp [lints_isLst, h3]
            rw [lints_app _ _ hb]
            simp
            exact ⟨_, _, ⟨rfl, rfl⟩, hq.app (by omega) (by omega), by simp; omega, by omega, by simp; omega⟩
          · simp [h3]
            exact ⟨_, _, ⟨rfl, rfl⟩, hq, by omega, by omega, by omega⟩
        · rintro e ⟨qs, w, rfl, hq, hl2, hw, hc⟩
          simp at hl2 hc
          simp
          refine ⟨qs, rfl, hq, ?_, .inr ?_⟩
          · omega
          · omega
    · have h3 : 3 ≤ ps.length := by omega
      simp [lints_len, h1]
      exact ⟨ps, rfl, hr, hl.1, .inr h3⟩
  · rintro e ⟨ps, rfl, hr, hl⟩
    cases ps with
    | nil =>
      have hq : opEq (lints []) (.lst []) = some (.fz (.bl true)) := opEq_nil []
      refine ⟨[2, 10, 1, 0, 4, 0, 1052, 0, 148, 26, 132, 0, 20], by decide, by decide, fun p hp => (by simp at hp; omega), ?_⟩
      simp [hq]
      rfl
    | cons p ps =>
      have hq : opEq (lints (p :: ps)) (.lst []) = some (.fz (.bl false)) := opEq_nil (p :: ps)
      refine ⟨p :: ps, ?_, hl.1, hr, ?_⟩
      · rcases hl.2 with ⟨_, z⟩ | z
        · cases z
        · exact z
      · simp [hq]
theorem lints_get {ps : List Int} (hr : InR ps) {i : Int} (h0 : 0 ≤ i) (h1 : i < ps.length) : ∃ p, 0 ≤ p ∧ p < 65536 ∧ opIx (lints ps) (.int i) = some (.fz (.int p)) := by
  obtain ⟨x, h2, h3⟩ := atI_lt (xs := ps.map D.int) h0 (by rw [List.length_map]; exact h1)
  rw [List.getElem?_map, Option.map_eq_some_iff] at h2
  obtain ⟨p, h4, rfl⟩ := h2
  have := hr p (List.mem_of_getElem? h4)
  refine ⟨p, this.1, this.2, ?_⟩
  show (L2.atI (ps.map D.int) i).map RV.fz = _
  rw [h3]
  rfl
theorem nth_run (phi : String → List D → RC) {ps : List Int} (hr : InR ps) (hl : 3 ≤ ps.length) {k : Int} (hk : 0 ≤ k) (hk2 : k < 2 ^ 40) : ∃ p, 0 ≤ p ∧ p < 65536 ∧ T__law_nth.run phi [lints ps, .int k] = .ok false (.int p) [] := by
  rw [run_is rfl]
  show ∃ p, _ ∧ _ ∧ finish [.r, .r] (b__law_nth phi [.bo (lints ps), .bo (.int k)]) = _
  unfold b__law_nth
  by_cases h : k < ps.length
  · obtain ⟨p, h1, h2, h3⟩ := lints_get hr hk h
    refine ⟨p, h1, h2, ?_⟩
    simp [lints_len, h, h3]
  · have hm : 0 ≤ k % (ps.length : Int) := Int.emod_nonneg _ (by omega)
    have hm2 : k % (ps.length : Int) < ps.length := Int.emod_lt_of_pos _ (by omega)
    have hp : 0 < ps.length := by omega
    obtain ⟨p, h1, h2, h3⟩ := lints_get hr hm hm2
    refine ⟨(p * 31 + k * 7919) % 65521, by omega, by omega, ?_⟩
    simp [lints_len, h, h3, hp]


end S3
namespace S3
open PySem
/-! names drawn: _law_named -/
def letC (k s : Int) : Nat := (97 + (k * 7 + s / 4) % 26).toNat
def S1 (c : Nat) : Str := ⟨#[c]⟩
/-- the name of place k in style s -/
def nmS (k s : Int) : Str :=
  if s % 4 = 1 ∧ s / 4 % 2 = 1 then (["write", "none", "read", "own", "close", "leads", "program", "to", "begin", "quit"] : List Str).getD (k % 10).toNat "" ++ strRep "2" (k / 10)
  else if s % 4 = 3 ∧ s / 4 % 2 = 1 then strRep "b" (k / 7) ++ strRep "a" (k % 7 + 1)
  else if s % 4 = 1 then strRep "q" (k % 3) ++ S1 (letC k s)
  else if s % 4 = 2 then
    let base := S1 (letC k s) ++ ((toString (s / 4 % 10000) : String) : Str)
    if k % 4 = 3 then base ++ strRep "x" (8 - base.length) else base ++ strRep "x" (k % 4)
  else if s % 4 = 3 then ("m" : Str) ++ ((toString (100 - 7 * k) : String) : Str)
  else S1 (letC k s)
theorem let_at (i : Int) (h0 : 0 ≤ i) (h1 : i < 26) : L2.atI ("abcdefghijklmnopqrstuvwxyz" : Str).cps.toList i = some (97 + i).toNat := by
  have all : ∀ n : Fin 26, ("abcdefghijklmnopqrstuvwxyz" : Str).cps.toList[n.1]? = some (97 + n.1) := by decide +kernel
  refine atI_nat h0 ?_
  have h := all ⟨i.toNat, by omega⟩
  dsimp only at h
  rw [h, show (97 + i).toNat = 97 + i.toNat by omega]
theorem word_at (i : Int) (h0 : 0 ≤ i) (h1 : i < 10) : L2.atI [D.str "write", D.str "none", D.str "read", D.str "own", D.str "close", D.str "leads", D.str "program", D.str "to", D.str "begin", D.str "quit"] i = some (.str ((["write", "none", "read", "own", "close", "leads", "program", "to", "begin", "quit"] : List Str).getD i.toNat "")) := by
  refine atI_nat h0 ?_
  obtain ⟨n, rfl⟩ : ∃ n : Nat, i = n := ⟨i.toNat, by omega⟩
  have hn : n < 10 := by omega
  clear h0 h1
  rw [Int.toNat_natCast]
  match n, hn with
  | 0, _ => rfl
  | 1, _ => rfl
  | 2, _ => rfl
  | 3, _ => rfl
  | 4, _ => rfl
  | 5, _ => rfl
  | 6, _ => rfl
  | 7, _ => rfl
  | 8, _ => rfl
  | 9, _ => rfl
theorem opMul_s (x : Str) (n : Int) (h1 : -1000 ≤ n) (h2 : n ≤ 1000) (h3 : x.length ≤ 1000) : opMul (.str x) (.int n) = some (.fz (.str (strRep x n))) := by
  show (if _ then _ else _) = _
  rw [if_pos ⟨h1, h2, h3⟩]
theorem rep_len (x : Str) (n : Int) (h : x.length = 1) : (strRep x n).length = n.toNat := by
  show (List.replicate n.toNat x.cps.toList).flatten.toArray.size = _
  have : x.cps.toList.length = 1 := h
  simp [this]
theorem app_len (x y : Str) : (x ++ y).length = x.length + y.length := by
  show (x.cps ++ y.cps).size = _
  rw [Array.size_append]
  rfl
theorem opStr_i (i : Int) (h : i.natAbs < 2 ^ 40) : opStr (.int i) = some (.fz (.str ((toString i : String) : Str))) := by
  show (if _ then _ else _) = _
  rw [if_pos]
  by_cases z : i.natAbs = 0
  · rw [z]; decide
  · have := (Nat.log2_lt z).mpr h
    omega
theorem addC (x y : Str) (h : x.length ≤ 2000) (h2 : y.length ≤ 2000) : opAdd (.str x) (.str y) = some (.fz (.str (x ++ y))) := by
  rw [opAdd_s, if_pos]
  show x.length + y.length ≤ 16777216
  omega
theorem one_len (a : Nat) : (S1 a).length = 1 := rfl
theorem num_len {i : Int} (h0 : 0 ≤ i) (h1 : i < 10000) : ((toString i : String) : Str).length ≤ 5 := by
  rw [PySem.ofString_length]
  exact PySem.int_text_length_le10 (k := 4) (by decide) (by omega)
theorem named_run (phi : String → List D → RC) {k s : Int} (h0 : 0 ≤ k) (h1 : k < 30) (s0 : 0 ≤ s) (s1 : s < 65536) : T__law_named.run phi [.int k, .int s] = .ok false (.str (nmS k s)) [] := by
  rw [run_is rfl]
  show finish [.r, .r] (b__law_named phi [.bo (.int k), .bo (.int s), .no, .no, .no, .no]) = _
  unfold b__law_named
  have hl := let_at ((k * 7 + s / 4) % 26) (by omega) (by omega)
  have hl2 : (97 + (k * 7 + s / 4) % 26).toNat = letC k s := rfl
  rw [hl2] at hl
  have hw := word_at (k % 10) (by omega) (by omega)
  unfold nmS
  by_cases c1 : s % 4 = 1
  · by_cases c2 : s / 4 % 2 = 1
    · rw [if_pos ⟨c1, c2⟩]
      have hm := opMul_s "2" (k / 10) (by omega) (by omega) (by decide +kernel)
      have hwl : ∀ n : Nat, n < 10 → ((["write", "none", "read", "own", "close", "leads", "program", "to", "begin", "quit"] : List Str).getD n "").length ≤ 10 := by
        intro n hn
        have : ∀ n : Fin 10, ((["write", "none", "read", "own", "close", "leads", "program", "to", "begin", "quit"] : List Str).getD n.1 "").length ≤ 10 := by decide +kernel
        exact this ⟨n, hn⟩
      have ha := addC ((["write", "none", "read", "own", "close", "leads", "program", "to", "begin", "quit"] : List Str).getD (k % 10).toNat "") (strRep "2" (k / 10)) (Nat.le_trans (hwl _ (by omega)) (by decide)) (by rw [rep_len _ _ (by decide +kernel)]; omega)
      generalize (["write", "none", "read", "own", "close", "leads", "program", "to", "begin", "quit"] : List Str).getD (k % 10).toNat "" = wd at hw ha
      simp [-opAdd_s, hl, opEq_i, c1, c2, hw, hm, ha]
    · rw [if_neg (fun z => c2 z.2), if_neg (fun z => by omega), if_pos c1]
      have hm := opMul_s "q" (k % 3) (by omega) (by omega) (by decide +kernel)
      have ha := addC (strRep "q" (k % 3)) (S1 (letC k s)) (by rw [rep_len _ _ (by decide +kernel)]; omega) (by rw [one_len]; decide)
      unfold S1 at ha ⊢
      simp [-opAdd_s, hl, opEq_i, c1, c2, hm, ha]
  · rw [if_neg (fun z => c1 z.1)]
    by_cases c3 : s % 4 = 3
    · by_cases c2 : s / 4 % 2 = 1
      · rw [if_pos ⟨c3, c2⟩]
        have hm := opMul_s "b" (k / 7) (by omega) (by omega) (by decide +kernel)
        have hm2 := opMul_s "a" (k % 7 + 1) (by omega) (by omega) (by decide +kernel)
        have ha := addC (strRep "b" (k / 7)) (strRep "a" (k % 7 + 1)) (by rw [rep_len _ _ (by decide +kernel)]; omega) (by rw [rep_len _ _ (by decide +kernel)]; omega)
        simp [-opAdd_s, hl, opEq_i, c3, c2, hm, hm2, ha]
      · rw [if_neg (fun z => c2 z.2), if_neg c1, if_neg (by omega), if_pos c3]
        have hs := opStr_i (100 - 7 * k) (by omega)
        have hn : ((toString (100 - 7 * k) : String) : Str).length ≤ 1921 := PyProof.Rows.int_text_len_1921 (by
          by_cases z : (100 - 7 * k).natAbs = 0
          · rw [z]; decide
          · have := (Nat.log2_lt z).mpr (show (100 - 7 * k).natAbs < 2 ^ 40 by omega)
            omega)
        have ha := addC "m" ((toString (100 - 7 * k) : String) : Str) (by decide +kernel) (by omega)
        generalize (toString (100 - 7 * k) : String) = st at hs hn ha
        simp [-opAdd_s, hl, opEq_i, c3, c2, hs, ha]
    · rw [if_neg (fun z => c3 z.1), if_neg c1]
      by_cases c4 : s % 4 = 2
      · rw [if_pos c4]
        have hs := opStr_i (s / 4 % 10000) (by omega)
        have hn : ((toString (s / 4 % 10000) : String) : Str).length ≤ 1921 := PyProof.Rows.int_text_len_1921 (by
          by_cases z : (s / 4 % 10000).natAbs = 0
          · rw [z]; decide
          · have := (Nat.log2_lt z).mpr (show (s / 4 % 10000).natAbs < 2 ^ 40 by omega)
            omega)
        have ha := addC (S1 (letC k s)) ((toString (s / 4 % 10000) : String) : Str) (by rw [one_len]; decide) (by omega)
        have hb : (S1 (letC k s) ++ ((toString (s / 4 % 10000) : String) : Str)).length ≤ 1922 := by rw [app_len, one_len]; omega
        have hb2 : ((S1 (letC k s) ++ ((toString (s / 4 % 10000) : String) : Str)).length : Int) ≤ 9 := by rw [app_len, one_len]; have := num_len (i := s / 4 % 10000) (by omega) (by omega); omega
        dsimp only
        generalize (toString (s / 4 % 10000) : String) = st at hs hn ha hb hb2
        generalize S1 (letC k s) ++ (st : Str) = base at ha hb hb2
        by_cases c5 : k % 4 = 3
        · rw [if_pos c5]
          have hm := opMul_s "x" (8 - (base.length : Int)) (by omega) (by omega) (by decide +kernel)
          have hc := addC base (strRep "x" (8 - (base.length : Int))) (by omega) (by rw [rep_len _ _ (by decide +kernel)]; omega)
          unfold S1 at ha
          simp [-opAdd_s, hl, opEq_i, c1, c3, c4, c5, hs, ha, hm, hc]
        · rw [if_neg c5]
          have hm := opMul_s "x" (k % 4) (by omega) (by omega) (by decide +kernel)
          have hc := addC base (strRep "x" (k % 4)) (by omega) (by rw [rep_len _ _ (by decide +kernel)]; omega)
          unfold S1 at ha
          simp [-opAdd_s, hl, opEq_i, c1, c3, c4, c5, hs, ha, hm, hc]
      · rw [if_neg c4, if_neg c3]
        simp [-opAdd_s, hl, opEq_i, c1, c3, c4]
        rfl

end S3
namespace S3
open PySem
/-! the names of one style differ -/
theorem letC_inj {a b s : Int} (a0 : 0 ≤ a) (a1 : a < 26) (b0 : 0 ≤ b) (b1 : b < 26) (s0 : 0 ≤ s) (h : letC a s = letC b s) : a = b := by
  unfold letC at h
  omega
theorem cps_app (x y : Str) : (x ++ y).cps.toList = x.cps.toList ++ y.cps.toList := by
  show (x.cps ++ y.cps).toList = _
  rw [Array.toList_append]
abbrev WDS : List Str := ["write", "none", "read", "own", "close", "leads", "program", "to", "begin", "quit"]
theorem fin16 {f : Int → Str} (h : ∀ a b : Fin 16, f (a.1 : Int) = f (b.1 : Int) → a = b) {a b : Int} (a0 : 0 ≤ a) (a1 : a < 16) (b0 : 0 ≤ b) (b1 : b < 16) (e : f a = f b) : a = b := by
  have ea : ((a.toNat : Nat) : Int) = a := by omega
  have eb : ((b.toNat : Nat) : Int) = b := by omega
  have := h ⟨a.toNat, by omega⟩ ⟨b.toNat, by omega⟩ (by dsimp only; rw [ea, eb]; exact e)
  have := congrArg Fin.val this
  dsimp only at this
  omega
theorem last_of_app {x : Str} {a : Nat} : (x ++ S1 a).cps.toList.getLast? = some a := by rw [cps_app]; simp [S1]
theorem head_of_app {x : Str} {a : Nat} : (S1 a ++ x).cps.toList.head? = some a := by rw [cps_app]; simp [S1]
theorem head_of_app2 {x y : Str} {a : Nat} : (S1 a ++ x ++ y).cps.toList.head? = some a := by rw [cps_app, cps_app]; simp [S1]
theorem nm_inj {a b s : Int} (a0 : 0 ≤ a) (a1 : a < 16) (b0 : 0 ≤ b) (b1 : b < 16) (s0 : 0 ≤ s) (h : nmS a s = nmS b s) : a = b := by
  unfold nmS at h
  by_cases c1 : s % 4 = 1 ∧ s / 4 % 2 = 1
  · rw [if_pos c1, if_pos c1] at h
    exact fin16 (f := fun k => WDS.getD (k % 10).toNat "" ++ strRep "2" (k / 10)) (by decide +kernel) a0 a1 b0 b1 h
  · rw [if_neg c1, if_neg c1] at h
    by_cases c2 : s % 4 = 3 ∧ s / 4 % 2 = 1
    · rw [if_pos c2, if_pos c2] at h
      exact fin16 (f := fun k => strRep "b" (k / 7) ++ strRep "a" (k % 7 + 1)) (by decide +kernel) a0 a1 b0 b1 h
    · rw [if_neg c2, if_neg c2] at h
      by_cases c3 : s % 4 = 1
      · rw [if_pos c3, if_pos c3] at h
        have e := congrArg (fun x : Str => x.cps.toList.getLast?) h
        try dsimp only at e
        rw [last_of_app, last_of_app] at e
        exact letC_inj a0 (by omega) b0 (by omega) s0 (Option.some.inj e)
      · rw [if_neg c3, if_neg c3] at h
        by_cases c4 : s % 4 = 2
        · rw [if_pos c4, if_pos c4] at h
          have e := congrArg (fun x : Str => x.cps.toList.head?) h
          try dsimp only at e
          have hd : ∀ k : Int, (if k % 4 = 3 then S1 (letC k s) ++ ((toString (s / 4 % 10000) : String) : Str) ++ strRep "x" (8 - ((S1 (letC k s) ++ ((toString (s / 4 % 10000) : String) : Str)).length : Int)) else S1 (letC k s) ++ ((toString (s / 4 % 10000) : String) : Str) ++ strRep "x" (k % 4)).cps.toList.head? = some (letC k s) := by
            intro k
            split <;> exact head_of_app2
          rw [hd, hd] at e
          exact letC_inj a0 (by omega) b0 (by omega) s0 (Option.some.inj e)
        · rw [if_neg c4, if_neg c4] at h
          by_cases c5 : s % 4 = 3
          · rw [if_pos c5, if_pos c5] at h
            exact fin16 (f := fun k => ("m" : Str) ++ ((toString (100 - 7 * k) : String) : Str)) (by decide +kernel) a0 a1 b0 b1 h
          · rw [if_neg c5, if_neg c5] at h
            have e := congrArg (fun x : Str => x.cps.toList.head?) h
            exact letC_inj a0 (by omega) b0 (by omega) s0 (Option.some.inj e)
theorem nm_len {k s : Int} (h0 : 0 ≤ k) (h1 : k < 30) (s0 : 0 ≤ s) : (nmS k s).length ≤ 100 := by
  unfold nmS
  have hx : ∀ (x : Str) (n : Int), x.length = 1 → n ≤ 10 → (strRep x n).length ≤ 10 := fun x n h hn => by rw [rep_len x n h]; omega
  split
  · have : ∀ n : Fin 10, (WDS.getD n.1 "").length ≤ 10 := by decide +kernel
    have h2 : (WDS.getD (k % 10).toNat "").length ≤ 10 := this ⟨(k % 10).toNat, by omega⟩
    have h3 := hx "2" (k / 10) (by decide +kernel) (by omega)
    rw [app_len]
    simp only [WDS] at h2
    omega
  · split
    · have h2 := hx "b" (k / 7) (by decide +kernel) (by omega)
      have h3 := hx "a" (k % 7 + 1) (by decide +kernel) (by omega)
      rw [app_len]
      omega
    · split
      · have h2 := hx "q" (k % 3) (by decide +kernel) (by omega)
        rw [app_len, one_len]
        omega
      · split
        · have h2 := num_len (i := s / 4 % 10000) (by omega) (by omega)
          dsimp only
          split
          · have h3 := hx "x" (8 - ((S1 (letC k s) ++ ((toString (s / 4 % 10000) : String) : Str)).length : Int)) (by decide +kernel) (by omega)
            rw [app_len, app_len, one_len]
            rw [app_len, one_len] at h3
            omega
          · have h3 := hx "x" (k % 4) (by decide +kernel) (by omega)
            rw [app_len, app_len, one_len]
            omega
        · split
          · have h2 : ((toString (100 - 7 * k) : String) : Str).length ≤ 5 := by
              rw [PySem.ofString_length]
              exact PySem.int_text_length_le10 (k := 4) (by decide) (by omega)
            have h3 : ("m" : Str).length = 1 := by decide +kernel
            rw [app_len, h3]
            omega
          · rw [one_len]; decide

end S3
namespace S3
open PySem
theorem digs {i : Int} (h0 : 0 ≤ i) : ∀ c ∈ ((toString i : String) : Str).cps.toList, c < 58 := by
  obtain ⟨n, rfl⟩ : ∃ n : Nat, i = n := ⟨i.toNat, by omega⟩
  intro c hc
  rw [PySem.Str.ofString_eq_toList] at hc
  have hc2 : c ∈ (toString ((n : Nat) : Int)).toList.map Char.toNat := by simpa using hc
  obtain ⟨ch, h1, rfl⟩ := List.mem_map.mp hc2
  have e : (toString ((n : Nat) : Int)) = Nat.repr n := rfl
  rw [e, Nat.repr_eq_ofList_toDigits] at h1
  have h2 : ch ∈ Nat.toDigits 10 n := by simpa using h1
  have h3 := Nat.isDigit_of_mem_toDigits (by decide) (by decide) h2
  unfold Char.isDigit at h3
  simp at h3
  have h4 := h3.2
  have h5 : ch.val.toNat ≤ (57 : UInt32).toNat := h4
  show ch.val.toNat < 58
  have : (57 : UInt32).toNat = 57 := rfl
  omega
theorem rep_mem {x : Str} {n : Int} {a : Nat} (h : x.cps.toList = [a]) : ∀ c ∈ (strRep x n).cps.toList, c = a := by
  intro c hc
  have e : (strRep x n).cps.toList = (List.replicate n.toNat x.cps.toList).flatten := by simp [strRep]
  rw [e, h] at hc
  obtain ⟨l, h1, h2⟩ := List.mem_flatten.mp hc
  rw [List.eq_of_mem_replicate h1] at h2
  exact List.mem_singleton.mp h2
theorem nm_zz9 {k s : Int} (a0 : 0 ≤ k) (a1 : k < 16) (s0 : 0 ≤ s) : nmS k s ≠ "zz9" := by
  intro h
  have z : ("zz9" : Str).cps.toList = [122, 122, 57] := by decide +kernel
  have fin : ∀ f : Int → Str, (∀ a : Fin 16, f (a.1 : Int) ≠ "zz9") → f k ≠ "zz9" := fun f hf => by
    have ea : ((k.toNat : Nat) : Int) = k := by omega
    have := hf ⟨k.toNat, by omega⟩
    dsimp only at this
    rw [ea] at this
    exact this
  unfold nmS at h
  split at h
  · exact fin (fun k => WDS.getD (k % 10).toNat "" ++ strRep "2" (k / 10)) (by decide +kernel) h
  · split at h
    · exact fin (fun k => strRep "b" (k / 7) ++ strRep "a" (k % 7 + 1)) (by decide +kernel) h
    · split at h
      · have e := congrArg (fun x : Str => x.cps.toList.getLast?) h
        have e2 : (strRep "q" (k % 3) ++ S1 (letC k s)).cps.toList.getLast? = ("zz9" : Str).cps.toList.getLast? := e
        rw [last_of_app, z] at e2
        have this : letC k s = 57 := Option.some.inj e2
        unfold letC at this
        omega
      · split at h
        · have tl : ∀ (x y : Str), (∀ c ∈ x.cps.toList, c < 58) → (∀ c ∈ y.cps.toList, c = 120) → S1 (letC k s) ++ x ++ y ≠ "zz9" := fun x y hx hy e => by
            have e2 := congrArg (fun x : Str => x.cps.toList.tail) e
            have e3 : (S1 (letC k s) ++ x ++ y).cps.toList.tail = [122, 57] := by
              have : (S1 (letC k s) ++ x ++ y).cps.toList.tail = ("zz9" : Str).cps.toList.tail := e2
              rw [this, z]
              rfl
            rw [cps_app, cps_app] at e3
            have e4 : x.cps.toList ++ y.cps.toList = [122, 57] := by simpa [S1] using e3
            have m : (122 : Nat) ∈ x.cps.toList ++ y.cps.toList := by rw [e4]; simp
            rcases List.mem_append.mp m with q | q
            · have := hx _ q; omega
            · have := hy _ q; omega
          have hx1 : ("x" : Str).cps.toList = [120] := by decide +kernel
          dsimp only at h
          split at h
          · exact tl _ _ (digs (by omega)) (rep_mem hx1) h
          · exact tl _ _ (digs (by omega)) (rep_mem hx1) h
        · split at h
          · exact fin (fun k => ("m" : Str) ++ ((toString (100 - 7 * k) : String) : Str)) (by decide +kernel) h
          · have e := congrArg Str.length h
            rw [one_len] at e
            have : ("zz9" : Str).length = 3 := by decide +kernel
            omega

end S3
namespace S3
open PySem
def arcsD (arcs : List (Str × Str)) : List D := arcs.map fun p => .tup [.str p.1, .str p.2]
theorem eqv_ss (a b : Str) : PyData.eqv (.str a) (.str b) = decide (a = b) := by
  by_cases h : a = b
  · subst h; simp [PyData.eqv]
  · simp [PyData.eqv, h]
theorem all_strL (xs : List Str) (n : Nat) : (strL xs).all (okD n) = true := by
  unfold strL
  rw [List.all_map, List.all_eq_true]
  intro x _
  cases n <;> rfl
theorem in_strL (x : Str) (xs : List Str) : opIn (.str x) (.lst (strL xs)) = some (.fz (.bl (decide (x ∈ xs)))) := by
  show bRV (if (okD 6 (.str x) && (strL xs).all (okD 5)) = true then some ((strL xs).any fun z => PyData.eqv (py 6 z) (py 6 (.str x))) else none) = _
  rw [all_strL xs 5, show okD 6 (.str x) = true from rfl, Bool.true_and, if_pos rfl]
  show some (RV.fz (D.bl _)) = _
  congr 3
  unfold strL
  rw [List.any_map]
  induction xs with
  | nil => rfl
  | cons y ys ih =>
    rw [List.any_cons, ih]
    show (PyData.eqv (.str y) (.str x) || _) = _
    rw [eqv_ss]
    by_cases c : y = x
    · subst c; simp
    · have c2 : ¬ x = y := fun z => c z.symm
      simp [c, c2]
theorem nin_strL (x : Str) (xs : List Str) : opNotIn (.str x) (.lst (strL xs)) = some (.fz (.bl (!decide (x ∈ xs)))) := by
  have h := in_strL x xs
  unfold opIn at h
  unfold opNotIn
  cases e : dIn (.str x) (.lst (strL xs)) with
  | none => rw [e] at h; cases h
  | some b =>
    rw [e] at h
    have : b = decide (x ∈ xs) := by simpa [bRV] using h
    rw [this]
    rfl
theorem app_strL (xs : List Str) (t : Str) (h : xs.length < BIG) : mAppend (.lst (strL xs)) [.str t] = some (.lst (strL (xs ++ [t])), .fz .non) := by
  show (if (strL xs).length < BIG then _ else _) = _
  rw [if_pos (by unfold strL; rw [List.length_map]; exact h)]
  simp [strL]
theorem strL_get {xs : List Str} {i : Int} {x : Str} (h0 : 0 ≤ i) (h : xs[i.toNat]? = some x) : L2.atI (strL xs) i = some (.str x) := by
  refine atI_nat h0 ?_
  unfold strL
  rw [List.getElem?_map, h]
  rfl
theorem opEq_strL_nil (p : List Str) : opEq (.lst (strL p)) (.lst []) = some (.fz (.bl p.isEmpty)) := by
  unfold opEq dEq
  have h : okD 6 (.lst (strL p)) = true := all_strL p 5
  rw [h]
  show bRV (some (PyData.eqv (.list ((strL p).map (py 5))) (.list []))) = _
  cases p <;> simp [PyData.eqv, PyData.eqvAll, strL]
theorem opNe_ss (a b : Str) : opNe (.str a) (.str b) = some (.fz (.bl (!decide (a = b)))) := by
  show some (RV.fz (D.bl (!PyData.eqv (.str a) (.str b)))) = _
  rw [eqv_ss]
theorem eqv_pairs (a b c d : Str) : PyData.eqv (.tuple [.str a, .str b]) (.tuple [.str c, .str d]) = decide ((a, b) = (c, d)) := by
  simp [PyData.eqv, PyData.eqvAll, eqv_ss]
  by_cases h1 : a = c <;> by_cases h2 : b = d <;> simp [h1, h2]
theorem atI_last {α : Type} {xs : List α} {k : Nat} {x : α} (h : xs.length = k + 1) (h2 : xs[k]? = some x) : L2.atI xs (-1) = some x := by
  unfold L2.atI L2.ixN
  rw [if_neg (by decide), if_pos (by omega)]
  show xs[(-1 + (xs.length : Int)).toNat]? = some x
  rw [show (-1 + (xs.length : Int)).toNat = k by omega]
  exact h2
theorem cutHi_nat {xs : List D} {i : Int} (h0 : 0 ≤ i) : cutD xs none (some i) = xs.take i.toNat := by
  unfold cutD
  have e : HT.sIx xs.length xs.length (some i) = min i.toNat xs.length := by
    have := HT.sIx_nat xs.length xs.length i.toNat
    rwa [Int.toNat_of_nonneg h0] at this
  rw [e]
  show (xs.drop 0).take (min i.toNat xs.length - 0) = _
  rw [List.drop_zero, List.take_eq_take_iff]
  omega
theorem opCutHi_strL {xs : List Str} {i : Int} (h0 : 0 ≤ i) : opCutHi (.lst (strL xs)) (.int i) = some (.nw (.lst (strL (xs.take i.toNat)))) := by
  show some (RV.nw (D.lst (cutD (strL xs) none (some i)))) = _
  rw [cutHi_nat h0]
  unfold strL
  rw [List.map_take]
theorem all_arcsD (A : List (Str × Str)) (n : Nat) : (arcsD A).all (okD (n + 2)) = true := by
  unfold arcsD
  rw [List.all_map, List.all_eq_true]
  intro p _
  rfl
theorem in_arcs (a b : Str) (A : List (Str × Str)) : opIn (.tup [.str a, .str b]) (.lst (arcsD A)) = some (.fz (.bl (decide ((a, b) ∈ A)))) := by
  show bRV (if (okD 6 (.tup [.str a, .str b]) && (arcsD A).all (okD 5)) = true then some ((arcsD A).any fun z => PyData.eqv (py 6 z) (py 6 (.tup [.str a, .str b]))) else none) = _
  rw [all_arcsD A 3, show okD 6 (.tup [.str a, .str b]) = true from rfl, Bool.true_and, if_pos rfl]
  show some (RV.fz (D.bl _)) = _
  congr 3
  unfold arcsD
  rw [List.any_map]
  induction A with
  | nil => rfl
  | cons y ys ih =>
    rw [List.any_cons, ih]
    show (PyData.eqv (.tuple [.str y.1, .str y.2]) (.tuple [.str a, .str b]) || _) = _
    rw [eqv_pairs]
    obtain ⟨c, d⟩ := y
    by_cases h : (c, d) = (a, b)
    · cases h; simp
    · have h2 : ¬ (a, b) = (c, d) := fun z => h z.symm
      simp [h, h2]
theorem nin_of_in {x y : D} {b : Bool} (h : opIn x y = some (.fz (.bl b))) : opNotIn x y = some (.fz (.bl (!b))) := by
  unfold opIn at h
  unfold opNotIn
  cases e : dIn x y with
  | none => rw [e] at h; cases h
  | some c =>
    rw [e] at h
    have : c = b := by simpa [bRV] using h
    rw [this]
    rfl
theorem nin_arcs (a b : Str) (A : List (Str × Str)) : opNotIn (.tup [.str a, .str b]) (.lst (arcsD A)) = some (.fz (.bl (!decide ((a, b) ∈ A)))) := nin_of_in (in_arcs a b A)
theorem app_arcs (W : List (Str × Str)) (a b : Str) (h : W.length < BIG) : mAppend (.lst (arcsD W)) [.tup [.str a, .str b]] = some (.lst (arcsD (W ++ [(a, b)])), .fz .non) := by
  show (if (arcsD W).length < BIG then _ else _) = _
  rw [if_pos (by unfold arcsD; rw [List.length_map]; exact h)]
  simp [arcsD]
theorem opNe_strL (p q : List Str) : opNe (.lst (strL p)) (.lst (strL q)) = some (.fz (.bl (!decide (p = q)))) := opNe_enc p q
theorem opEq_strL (p q : List Str) : opEq (.lst (strL p)) (.lst (strL q)) = some (.fz (.bl (decide (p = q)))) := opEq_enc p q
theorem nodup_len {p U : List Str} (h : p.Nodup) (hs : ∀ x ∈ p, x ∈ U) : p.length ≤ U.length := by
  induction p generalizing U with
  | nil => exact Nat.zero_le _
  | cons x p ih =>
    have hx := hs x List.mem_cons_self
    have h1 := List.nodup_cons.mp h
    have := ih (U := U.erase x) h1.2 fun y hy => by
      have hne : y ≠ x := fun e => h1.1 (e ▸ hy)
      exact (List.mem_erase_of_ne hne).mpr (hs y (List.mem_cons_of_mem _ hy))
    rw [List.length_erase_of_mem hx] at this
    have hp : 0 < U.length := List.length_pos_of_mem hx
    rw [List.length_cons]
    omega

end S3
namespace S3
open PySem
abbrev LET : Str := "abcdefghijklmnopqrstuvwxyz"
abbrev DIG : Str := "0123456789"
def isL (c : Nat) : Bool := decide (c ∈ LET.cps.toList)
def isD (c : Nat) : Bool := decide (c ∈ DIG.cps.toList)
/-- a name: 1 to 8 signs, letters and digits, a letter first -/
def vn (x : Str) : Bool := decide (1 ≤ x.length) && decide (x.length ≤ 8) && (match x.cps.toList with | [] => false | c :: _ => isL c) && x.cps.toList.all fun c => isL c || isD c
theorem in_one (c : Nat) (z : Str) : opIn (.str ⟨#[c]⟩) (.str z) = some (.fz (.bl (decide (c ∈ z.cps.toList)))) := rfl
theorem nin_one (c : Nat) (z : Str) : opNotIn (.str ⟨#[c]⟩) (.str z) = some (.fz (.bl (!decide (c ∈ z.cps.toList)))) := rfl
theorem toBools_map {α : Type} (l : List α) (f : α → Bool) : toBools (l.map fun c => D.bl (f c)) = some (l.map f) := by
  induction l with
  | nil => rfl
  | cons a l ih => simp [toBools, ih]
theorem len_list (x : Str) : x.length = x.cps.toList.length := by simp [Str.length]
theorem opAll_map {α : Type} (l : List α) (f : α → Bool) : opAll (.lst (l.map fun c => D.bl (f c))) = some (.fz (.bl (l.all f))) := by
  show (toBools (l.map fun c => D.bl (f c))).map _ = _
  rw [toBools_map]
  simp [List.all_map]
theorem valid_name_run (phi : String → List D → RC) (x : Str) (hx : x.length ≤ 1000) : T_valid_name.run phi [.str x] = .ok false (.bl (vn x)) [] := by
  rw [run_is rfl]
  show finish [.r] (b_valid_name phi [.bo (.str x), .no]) = _
  unfold b_valid_name
  have hl := len_list x
  have comp : lcL (.one 1) tYesS (eOr (eOp2 opIn (eSlot 1) (eC (.str LET))) (eOp2 opIn (eSlot 1) (eC (.str DIG)))) (x.cps.toList.map fun c => D.str ⟨#[c]⟩) [.bo (.str x), .no] [] = some (x.cps.toList.map fun c => D.bl (isL c || isD c)) := by
    rw [lcL_mp (fun c => .bl (isL c || isD c)) (fun c _ => ?_), List.nil_append]
    cases h : isL c <;> simp [lc1, in_one, isL] at h ⊢ <;> simp [h, isD]
  cases e : x.cps.toList with
  | nil =>
    rw [e] at hl
    have h0 : x.length = 0 := hl
    simp [h0, vn]
  | cons c cs =>
    rw [e] at hl
    have h1 : (1 : Int) ≤ x.length := by rw [hl]; simp; omega
    have h1n : 1 ≤ x.length := by omega
    by_cases h2 : (x.length : Int) ≤ 8
    · have h2n : x.length ≤ 8 := by omega
      by_cases h3 : c ∈ LET.cps.toList
      · rw [e] at comp
        simp only [LET] at h3
        have hz : (c :: cs).length ≤ 16777216 := by omega
        have ha := opAll_map (c :: cs) (fun c => isL c || isD c)
        have hc := eLc_ok (own := [1]) (e := [.bo (.str x), .no]) (w := wAny (eSlot 0)) (e1 := [.bo (.str x), .no]) (by simp [-List.map_cons, e]) comp (by rw [List.length_map]; exact hz)
        simp [-List.map_cons, -List.length_cons, h1, h2, e, atI0, nin_one, h3, hc, ha]
        have h4 : isL c = true := decide_eq_true h3
        simp [h1n, h2n, e, vn, h4]
      · simp only [LET] at h3
        simp [h1, h2, h1n, h2n, e, atI0, nin_one, h3, vn, isL, LET]
    · have h2n : ¬ x.length ≤ 8 := by omega
      simp [h1, h2, h2n, vn]
def good (i c : Nat) : Bool := isL c || (decide (i ≠ 0) && isD c)
theorem vn_iff {x : Str} (h1 : 1 ≤ x.length) (h2 : x.length ≤ 8) : vn x = true ↔ ∀ i c, x.cps.toList[i]? = some c → good i c = true := by
  unfold vn
  rw [decide_eq_true h1, decide_eq_true h2, Bool.true_and, Bool.true_and]
  have hl := len_list x
  cases e : x.cps.toList with
  | nil => rw [e] at hl; simp at hl; omega
  | cons c cs =>
    rw [Bool.and_eq_true, List.all_eq_true]
    constructor
    · rintro ⟨k1, k2⟩ i c' hi
      cases i with
      | zero => simp at hi; subst hi; simp [good, k1]
      | succ i =>
        have := k2 c' (List.mem_of_getElem? hi)
        simpa [good] using this
    · intro h
      have h0 := h 0 c rfl
      simp [good] at h0
      refine ⟨h0, fun c' hc => ?_⟩
      obtain ⟨i, hi, hi2⟩ := List.mem_iff_getElem.mp hc
      have := h i c' (by rw [List.getElem?_eq_getElem hi, hi2])
      simp [good] at this ⊢
      rcases this with t | t
      · exact .inl t
      · exact .inr t.2
def Goods (x : Str) (i : Nat) : Prop := ∀ j c, j < i → x.cps.toList[j]? = some c → good j c = true
theorem is_name_run (phi : String → List D → RC) (x : Str) (hx : x.length ≤ 1000) : T__law_is_name.run phi [.str x] = .ok false (.bl (vn x)) [] := by
  rw [run_is rfl]
  show finish [.r] (b__law_is_name phi [.bo (.str x), .no]) = _
  unfold b__law_is_name
  have hl := len_list x
  have ht : opIsTy "str" (.str x) = some (.fz (.bl true)) := rfl
  by_cases h1 : (x.length : Int) < 1
  · have h1n : ¬ 1 ≤ x.length := by omega
    simp [ht, h1, h1n, vn]
  · have h1n : 1 ≤ x.length := by omega
    by_cases h2 : (8 : Int) < x.length
    · have h2n : ¬ x.length ≤ 8 := by omega
      simp [ht, h1, h1n, h2, h2n, vn]
    · have h2n : x.length ≤ 8 := by omega
      rw [sSeq_e]
      simp [-sSeq_e, ht, h1, h2]
      refine seq_for (ds := rng 0 x.length) (Q := fun r => finish [Md.r] r = .ok false (.bl (vn x)) []) (e0 := [.bo (.str x), .no]) ?_ (fun i e => e = [.bo (.str x), .no] ∧ Goods x i) ⟨rfl, fun _ _ h => absurd h (Nat.not_lt_zero _)⟩ ?_ ?_
      · simp
        omega
      · rintro R hrt hnx hex i d e hd ⟨rfl, hg⟩
        obtain ⟨rfl, hi⟩ := rng0_get hd
        have hi2 : i < x.cps.toList.length := by omega
        refine ⟨_, rfl, ?_⟩
        have hc : x.cps.toList[i]? = some x.cps.toList[i] := List.getElem?_eq_getElem hi2
        generalize x.cps.toList[i] = c at hc
        have ha : L2.atI x.cps.toList (i : Int) = some c := atI_nat (by omega) hc
        have fin : good i c = false → vn x = false := fun g => by
          cases q : vn x with
          | false => rfl
          | true => have := (vn_iff h1n h2n).mp q i c hc; rw [g] at this; cases this
        have nxt : good i c = true → Goods x (i + 1) := fun g j c' hj hc' => by
          by_cases z : j = i
          · subst z; rw [hc] at hc'; cases hc'; exact g
          · exact hg j c' (by omega) hc'
        by_cases g1 : c ∈ LET.cps.toList
        · have g : good i c = true := by unfold good; rw [show isL c = true from decide_eq_true g1]; rfl
          simp only [LET] at g1
          simp [ha, nin_one, g1]
          exact nxt g
        · by_cases z : i = 0
          · have g : good i c = false := by unfold good; rw [show isL c = false from decide_eq_false g1]; simp [z]
            simp only [LET] at g1
            subst z
            have ha0 : L2.atI x.cps.toList 0 = some c := ha
            simp [ha0, nin_one, g1, opEq_i, -finish_fz]
            exact hrt _ _ (by simp [fin g])
          · by_cases g2 : c ∈ DIG.cps.toList
            · have g : good i c = true := by unfold good; rw [show isL c = false from decide_eq_false g1, show isD c = true from decide_eq_true g2]; simp [z]
              simp only [LET, DIG] at g1 g2
              simp [ha, nin_one, g1, g2, opEq_i, z]
              exact nxt g
            · have g : good i c = false := by unfold good; rw [show isL c = false from decide_eq_false g1, show isD c = false from decide_eq_false g2]; simp
              simp only [LET, DIG] at g1 g2
              simp [ha, nin_one, g1, g2, opEq_i, z]
              exact hrt _ _ (by simp [fin g])
      · rintro e ⟨rfl, hg⟩
        have hv : vn x = true := (vn_iff h1n h2n).mpr fun i c hc => hg i c (by
          have := (List.getElem?_eq_some_iff.mp hc).1
          simp
          omega) hc
        simp [hv]

theorem said_run (phi : String → List D → RC) (b : Bool) : T__law_said.run phi [.bl b, .bl b] = .ok false (.bl true) [] := by
  cases b <;> rfl

end S3
namespace S3
open PySem
/-! parts, steps: what valid_step answers -/
inductive Part where
  | s (x : Str) | t (xs : List Str)
def pD : Part → D
  | .s x => .str x | .t xs => .tup (strL xs)
def stD (ps : List Part) : D := .tup (ps.map pD)
def nmP : Part → Bool
  | .s x => vn x | .t _ => false
def thP : Part → Bool
  | .s _ => false | .t xs => xs.all vn && decide xs.Nodup
def Small : Part → Prop
  | .s x => x.length ≤ 1000 | .t xs => xs.length ≤ 1000 ∧ ∀ x ∈ xs, x.length ≤ 1000
/-- is it a step -/
def stepB : List Part → Bool
  | [.s h, p] => (decide (h = "begin") || decide (h = "quit")) && nmP p
  | [.s h, p, q] => if h = "read" then nmP p && nmP q else if h = "close" then nmP p && thP q else false
  | _ => false
theorem ded_le : ∀ (ks acc : List Key), (ks.foldl addKey acc).length ≤ acc.length + ks.length
  | [], acc => by simp
  | k :: ks, acc => by
    rw [List.foldl_cons, List.length_cons]
    have := ded_le ks (addKey acc k)
    have h2 : (addKey acc k).length ≤ acc.length + 1 := by
      unfold addKey
      split
      · omega
      · simp
    omega
theorem ded_len : ∀ (ks acc : List Key), acc.Nodup → ((ks.foldl addKey acc).length = acc.length + ks.length ↔ (acc ++ ks).Nodup)
  | [], acc, h => by simp [h]
  | k :: ks, acc, h => by
    rw [List.foldl_cons, List.length_cons]
    by_cases c : k ∈ acc
    · have e : addKey acc k = acc := by
        unfold addKey
        rw [if_pos (kIn_iff.mpr c)]
      rw [e]
      have := ded_le ks acc
      constructor
      · intro z; omega
      · intro z
        rw [List.nodup_append] at z
        exact (z.2.2 k c k List.mem_cons_self rfl).elim
    · have e : addKey acc k = acc ++ [k] := by
        unfold addKey
        rw [if_neg (fun z => c (kIn_iff.mp z))]
      rw [e]
      have ih := ded_len ks (acc ++ [k]) (by
        rw [List.nodup_append]
        exact ⟨h, by simp, fun x hx y hy e => c (by rw [List.mem_singleton] at hy; rw [← hy, ← e]; exact hx)⟩)
      rw [List.length_append, List.length_singleton, List.append_assoc] at ih
      show _ ↔ (acc ++ ([k] ++ ks)).Nodup
      rw [← ih]
      omega
theorem setlen (xs : List Str) (hz : xs.length < 4000) : ∃ ks : List Key, opSet (.tup (strL xs)) = some (.nw (.st ks)) ∧ (ks.length = xs.length ↔ xs.Nodup) := by
  refine ⟨dedKey (xs.map Sum.inr), ?_, ?_⟩
  · show (match toKeys (strL xs) with | some ks => if ks.length < 4000 then some (RV.nw (.st (dedKey ks))) else none | none => none) = _
    rw [toKeys_strL]
    show (if (xs.map Sum.inr : List Key).length < 4000 then _ else _) = _
    rw [if_pos (by rw [List.length_map]; exact hz)]
  · have h := ded_len (xs.map Sum.inr) [] List.nodup_nil
    rw [List.length_map, List.length_nil, Nat.zero_add, List.nil_append] at h
    refine h.trans ⟨fun z => ?_, fun z => List.Pairwise.map _ (fun a b (h : a ≠ b) (e : (Sum.inr a : Key) = Sum.inr b) => h (Sum.inr.inj e)) z⟩
    exact List.Pairwise.imp (fun {a b} h e => h (by rw [e])) (List.pairwise_map.mp z)
theorem isname_run (phi : String → List D → RC) (hV : ∀ x : Str, x.length ≤ 1000 → phi "valid_name" [.str x] = .ok false (.bl (vn x)) []) {p : Part} (hp : Small p) : T__is_name.run phi [pD p] = .ok false (.bl (nmP p)) [] := by
  rw [run_is rfl]
  cases p with
  | s x =>
    have ht : opIsTy "str" (.str x) = some (.fz (.bl true)) := rfl
    have h := hV x hp
    show finish [.r] (b__is_name phi [.bo (.str x)]) = _
    unfold b__is_name
    simp [ht, h, nmP]
  | t xs =>
    have ht : opIsTy "str" (.tup (strL xs)) = some (.fz (.bl false)) := rfl
    show finish [.r] (b__is_name phi [.bo (.tup (strL xs))]) = _
    unfold b__is_name
    simp [ht, nmP]
theorem lawname_run (phi : String → List D → RC) {p : Part} (hp : Small p) : T__law_is_name.run phi [pD p] = .ok false (.bl (nmP p)) [] := by
  cases p with
  | s x => exact is_name_run phi x hp
  | t xs =>
    rw [run_is rfl]
    have ht : opIsTy "str" (.tup (strL xs)) = some (.fz (.bl false)) := rfl
    show finish [.r] (b__law_is_name phi [.bo (.tup (strL xs)), .no]) = _
    unfold b__law_is_name
    simp [ht, nmP]
theorem things_run (phi : String → List D → RC) (hN : ∀ p : Part, Small p → phi "_is_name" [pD p] = .ok false (.bl (nmP p)) []) {p : Part} (hp : Small p) : T__are_things.run phi [pD p] = .ok false (.bl (thP p)) [] := by
  rw [run_is rfl]
  cases p with
  | s x =>
    have ht : opIsTy "tuple" (.str x) = some (.fz (.bl false)) := rfl
    show finish [.r] (b__are_things phi [.bo (.str x), .no]) = _
    unfold b__are_things
    simp [ht, thP]
  | t xs =>
    have ht : opIsTy "tuple" (.tup (strL xs)) = some (.fz (.bl true)) := rfl
    show finish [.r] (b__are_things phi [.bo (.tup (strL xs)), .no]) = _
    unfold b__are_things
    have comp : lcL (.one 1) tYesS (eCall (phi "_is_name") [.r] (aCons (eSlot 1) aNil)) (strL xs) [.bo (.tup (strL xs)), .no] [] = some (xs.map fun x => D.bl (vn x)) := by
      unfold strL
      rw [lcL_mp (fun x => .bl (vn x)) (fun x hx => ?_), List.nil_append]
      have h : phi "_is_name" [.str x] = .ok false (.bl (vn x)) [] := hN (.s x) (hp.2 x hx)
      simp [lc1, h]
    have hc := eLc_ok (own := [1]) (e := [.bo (.tup (strL xs)), .no]) (w := wAny (eSlot 0)) (e1 := [.bo (.tup (strL xs)), .no]) (by simp) comp (by rw [strL_len]; have := hp.1; omega)
    have ha := opAll_map xs vn
    by_cases c : xs.all vn = true
    · rw [c] at ha
      obtain ⟨ks, k1, k2⟩ := setlen xs (by have := hp.1; omega)
      have hl : opLen (.st ks) = some (.fz (.int ks.length)) := rfl
      have hl2 : opLen (.tup (strL xs)) = some (.fz (.int xs.length)) := by
        show some (RV.fz (D.int (strL xs).length)) = _
        rw [strL_len]
      rw [sSeq_e]
      simp [-sSeq_e, -opLen_t, ht, hc, ha]
      simp [-opLen_t, k1, hl, hl2, opEq_i, thP, c]
      by_cases d : xs.Nodup
      · simp [d, k2.mpr d]
      · have : ks.length ≠ xs.length := fun z => d (k2.mp z)
        simp [d]
        omega
    · rw [sSeq_e]
      have c' : xs.all vn = false := by simpa using c
      rw [c'] at ha
      simp [-sSeq_e, ht, hc, ha, thP, c']

end S3
namespace S3
open PySem
/-! valid_step -/
theorem pD_s (x : Str) : pD (.s x) = .str x := rfl
theorem pD_t (xs : List Str) : pD (.t xs) = .tup (strL xs) := rfl
theorem dEq_s (h l : Str) : dEq (.str h) (.str l) = some (decide (h = l)) := by
  show some (PyData.eqv (.str h) (.str l)) = _
  rw [eqv_ss]
theorem okD_tup (xs : List Str) : okD 6 (.tup (strL xs)) = true := all_strL xs 5
theorem dEq_t (xs : List Str) (l : Str) : dEq (.tup (strL xs)) (.str l) = some false := by
  show (if (okD 6 (.tup (strL xs)) && okD 6 (.str l)) = true then some (PyData.eqv (py 6 (.tup (strL xs))) (py 6 (.str l))) else none) = _
  rw [okD_tup, show okD 6 (.str l) = true from rfl, Bool.and_self, if_pos rfl]
  rfl
theorem hit_s (h : Str) : ∀ ls : List Str, hitL ls (.str h) = some (decide (h ∈ ls))
  | [] => by simp [hitL]
  | l :: ls => by
    unfold hitL
    rw [dEq_s, hit_s h ls]
    by_cases e : h = l <;> simp [e]
theorem hit_t (xs : List Str) : ∀ ls : List Str, hitL ls (.tup (strL xs)) = some false
  | [] => rfl
  | l :: ls => by
    unfold hitL
    rw [dEq_t, hit_t xs ls]
@[simp] theorem sMatch_e (f : EV) (cs : List (List Str × List Nat × SV)) (e : Env) : sMatch f cs e = match f e with
  | .ok r e1 => (match rd r e1 with
    | some (.tup ds) => mGo cs ds e1
    | _ => .no)
  | .ex x e1 => .ex x e1
  | .no => .no := rfl
theorem stD_len (ps : List Part) : (ps.map pD).length = ps.length := List.length_map ..
theorem valid_run (phi : String → List D → RC) (hN : ∀ p : Part, Small p → phi "_is_name" [pD p] = .ok false (.bl (nmP p)) []) (hT : ∀ p : Part, Small p → phi "_are_things" [pD p] = .ok false (.bl (thP p)) []) {ps : List Part} (hp : ∀ p ∈ ps, Small p) :
    T_valid_step.run phi [stD ps] = .ok false (.bl (stepB ps)) [] := by
  rw [run_is rfl]
  show finish [.r] (b_valid_step phi [.bo (stD ps), .no, .no, .no]) = _
  unfold b_valid_step stD
  rcases ps with _ | ⟨a, _ | ⟨b, _ | ⟨c, _ | ⟨d, r⟩⟩⟩⟩
  · simp [mGo, stepB]
  · simp [mGo, stepB]
  · have h1 := hN b (hp b (by simp))
    cases a with
    | t xs => simp [mGo, stepB, pD_s, pD_t, hit_t]
    | s h =>
      by_cases e1 : h = "begin"
      · simp [mGo, stepB, pD_s, pD_t, hit_s, setAll, h1, e1]
      · by_cases e2 : h = "quit"
        · simp [mGo, stepB, pD_s, pD_t, hit_s, setAll, h1, e2]
        · simp [mGo, stepB, pD_s, pD_t, hit_s, e1, e2]
  · have h1 := hN b (hp b (by simp))
    have h2 := hN c (hp c (by simp))
    have h3 := hT c (hp c (by simp))
    cases a with
    | t xs => simp [mGo, stepB, pD_s, pD_t, hit_t]
    | s h =>
      by_cases e1 : h = "read"
      · cases q : nmP b <;> simp [mGo, stepB, pD_s, pD_t, hit_s, setAll, h1, h2, e1, q]
      · by_cases e2 : h = "close"
        · have nr : ¬ ("close" : Str) = "read" := by decide
          cases q : nmP b <;> simp [mGo, stepB, pD_s, pD_t, hit_s, setAll, h1, h3, e2, q, nr]
        · simp [mGo, stepB, pD_s, pD_t, hit_s, e1, e2]
  · simp [mGo, stepB]

end S3
namespace S3
open PySem
/-! the law's own test of a step; the written form -/
theorem opEq_s (h l : Str) : opEq (.str h) (.str l) = some (.fz (.bl (decide (h = l)))) := by unfold opEq; rw [dEq_s]; rfl
theorem opNe_s (h l : Str) : opNe (.str h) (.str l) = some (.fz (.bl (!decide (h = l)))) := by unfold opNe; rw [dEq_s]; rfl
theorem opEq_ts (xs : List Str) (l : Str) : opEq (.tup (strL xs)) (.str l) = some (.fz (.bl false)) := by unfold opEq; rw [dEq_t]; rfl
theorem opNe_ts (xs : List Str) (l : Str) : opNe (.tup (strL xs)) (.str l) = some (.fz (.bl true)) := by unfold opNe; rw [dEq_t]; rfl
def Pre (xs : List Str) (i : Nat) : Prop := (∀ j x, j < i → xs[j]? = some x → vn x = true) ∧ (xs.take i).Nodup
theorem in_tup (x : Str) (xs : List Str) : opIn (.str x) (.tup (strL xs)) = some (.fz (.bl (decide (x ∈ xs)))) := by
  show bRV (if (okD 0 (.str x) && (strL xs).all (okD 0)) = true then some ((strL xs).any fun z => PyData.eqv (py 0 z) (py 0 (.str x))) else none) = _
  rw [all_strL xs 0, show okD 0 (.str x) = true from rfl, Bool.true_and, if_pos rfl]
  show some (RV.fz (D.bl _)) = _
  congr 3
  unfold strL
  rw [List.any_map, Bool.eq_iff_iff, List.any_eq_true, decide_eq_true_iff]
  constructor
  · rintro ⟨y, hy, e⟩
    have e' : PyData.eqv (.str y) (.str x) = true := e
    rw [eqv_ss] at e'
    rw [← of_decide_eq_true e']; exact hy
  · intro h
    refine ⟨x, h, ?_⟩
    show PyData.eqv (.str x) (.str x) = true
    rw [eqv_ss]; exact decide_eq_true rfl
theorem opCutHi_t {xs : List Str} {i : Int} (h0 : 0 ≤ i) : opCutHi (.tup (strL xs)) (.int i) = some (.fz (.tup (strL (xs.take i.toNat)))) := by
  show some (RV.fz (D.tup (cutD (strL xs) none (some i)))) = _
  rw [cutHi_nat h0]
  unfold strL
  rw [List.map_take]
theorem lawstep_run (phi : String → List D → RC) (hN : ∀ p : Part, Small p → phi "_law_is_name" [pD p] = .ok false (.bl (nmP p)) []) {ps : List Part} (hp : ∀ p ∈ ps, Small p) :
    T__law_is_step.run phi [stD ps] = .ok false (.bl (stepB ps)) [] := by
  rw [run_is rfl]
  show finish [.r] (b__law_is_step phi [.bo (stD ps), .no]) = _
  unfold b__law_is_step stD
  have at0 : ∀ (a : Part) (r : List Part), L2.atI ((a :: r).map pD) 0 = some (pD a) := fun a r => atI_nat (by decide) rfl
  have at1 : ∀ (a b : Part) (r : List Part), L2.atI ((a :: b :: r).map pD) 1 = some (pD b) := fun a b r => atI_nat (by decide) rfl
  have at2 : ∀ (a b c : Part) (r : List Part), L2.atI ((a :: b :: c :: r).map pD) 2 = some (pD c) := fun a b c r => atI_nat (by decide) rfl
  have two : ∀ (a b : Part) (r : List Part), ¬ (((((a :: b :: r).map pD).length : Nat) : Int) < 2) := fun a b r => by simp; omega
  rcases ps with _ | ⟨a, _ | ⟨b, r⟩⟩
  · simp [stepB]
  · simp [stepB]
  · have h1 := hN b (hp b (by simp))
    have hle := two a b r
    have a0 := at0 a (b :: r)
    have a1 := at1 a b r
    have hlen : (((a :: b :: r).map pD).length : Int) = r.length + 2 := by simp; omega
    generalize hL : (a :: b :: r).map pD = L at hle a0 a1 hlen
    rw [sSeq_e]
    cases q : nmP b with
    | false =>
      rw [q] at h1
      have : stepB (a :: b :: r) = false := by
        rcases r with _ | ⟨c, _ | ⟨d, r⟩⟩ <;> cases a <;> simp [stepB, q]
      simp [-sSeq_e, hle, a1, h1, this]
    | true =>
      rw [q] at h1
      simp [-sSeq_e, hle, a1, h1]
      have hl : opLen (.tup L) = some (.fz (.int (r.length + 2))) := by
        show some (RV.fz (D.int L.length)) = _
        rw [hlen]
      cases a with
      | t xs =>
        have e1 := opEq_ts xs "begin"
        have e2 := opEq_ts xs "quit"
        have e3 := opEq_ts xs "read"
        have e4 := opNe_ts xs "close"
        have : stepB (.t xs :: b :: r) = false := by rcases r with _ | ⟨c, _ | ⟨d, r⟩⟩ <;> rfl
        rw [pD_t] at a0
        rw [this]
        rw [sSeq_e]
        simp [-sSeq_e, a0, e1, e2]
        rw [sSeq_e]
        simp [-sSeq_e, a0, e3]
        simp [a0, e4]
      | s h =>
        rw [pD_s] at a0
        have e1 := opEq_s h "begin"
        have e2 := opEq_s h "quit"
        have e3 := opEq_s h "read"
        have e4 := opNe_s h "close"
        by_cases c1 : h = "begin" ∨ h = "quit"
        · have l2 : opEq (.int (r.length + 2)) (.int 2) = some (.fz (.bl (decide (r = [])))) := by
            rw [opEq_i]
            congr 3
            rw [decide_eq_decide]
            cases r <;> simp <;> omega
          have : stepB (.s h :: b :: r) = decide (r = []) := by
            rcases r with _ | ⟨c, r⟩
            · rcases c1 with c1 | c1 <;> simp [stepB, c1, q]
            · have n1 : ¬ h = "read" := by rcases c1 with c1 | c1 <;> rw [c1] <;> decide
              have n2 : ¬ h = "close" := by rcases c1 with c1 | c1 <;> rw [c1] <;> decide
              rcases r with _ | ⟨d, r⟩ <;> simp [stepB, n1, n2]
          rw [this, sSeq_e]
          have ret2 : finish [Md.r] (sRet (eOp2 opEq (eOp1 opLen (eSlot 0)) (eC (.int 2))) [.bo (.tup L), .no]) = .ok false (.bl (decide (r = []))) [] := by
            simp [-opLen_t, hl, l2]
          rcases c1 with c1 | c1
          · subst c1
            simp [-sSeq_e, -opLen_t, a0, e1, hl, l2]
          · subst c1
            have nb : ¬ (("quit" : Str) = "begin") := by decide
            simp [-sSeq_e, -opLen_t, a0, e1, e2, nb, hl, l2]
        · have n1 : ¬ h = "begin" := fun z => c1 (.inl z)
          have n2 : ¬ h = "quit" := fun z => c1 (.inr z)
          rw [sSeq_e]
          simp [-sSeq_e, a0, e1, e2, n1, n2]
          have l3 : opEq (.int (r.length + 2)) (.int 3) = some (.fz (.bl (decide (r.length = 1)))) := by
            rw [opEq_i]
            congr 3
            rw [decide_eq_decide]
            omega
          have n3 : opNe (.int (r.length + 2)) (.int 3) = some (.fz (.bl (!decide (r.length = 1)))) := by
            unfold opEq at l3
            unfold opNe
            cases z : dEq (.int (r.length + 2)) (.int 3) with
            | none => rw [z] at l3; cases l3
            | some bb =>
              rw [z] at l3
              have : bb = decide (r.length = 1) := by injection l3 with l3; injection l3 with l3; injection l3
              rw [this]; rfl
          by_cases c2 : h = "read"
          · subst c2
            rw [sSeq_e]
            rcases r with _ | ⟨c, _ | ⟨d, r⟩⟩
            · simp [-sSeq_e, -opLen_t, a0, e3, hl, l3, stepB, n1, n2] at l3 ⊢
              simp [l3]
            · have a2 := at2 (.s "read") b c []
              rw [hL] at a2
              have h2 := hN c (hp c (by simp))
              simp [-sSeq_e, -opLen_t, a0, e3, hl, l3, a2, h2, stepB, q] at l3 ⊢
              simp [l3, a2, h2]
            · simp [-sSeq_e, -opLen_t, a0, e3, hl, l3, stepB] at l3 ⊢
              simp [l3]
          · rw [sSeq_e]
            simp [-sSeq_e, a0, e3, c2]
            by_cases c3 : h = "close"
            · subst c3
              rw [sSeq_e]
              rcases r with _ | ⟨c, _ | ⟨d, r⟩⟩
              · simp [-sSeq_e, -opLen_t, a0, e4, hl, n3, stepB, n1, n2] at n3 ⊢
                simp [-opLen_t, n3]
              · have a2 := at2 (.s "close") b c []
                rw [hL] at a2
                have hs : stepB [.s "close", b, c] = thP c := by
                  have nr : ¬ (("close" : Str) = "read") := by decide
                  simp [stepB, q, nr]
                rw [hs]
                cases c with
                | s x =>
                  have ht : opIsTy "tuple" (.str x) = some (.fz (.bl false)) := rfl
                  rw [pD_s] at a2
                  simp [-sSeq_e, -opLen_t, a0, e4, hl, n3] at n3 ⊢
                  simp [-opLen_t, n3, a2, ht, thP]
                | t xs =>
                  have ht : opIsTy "tuple" (.tup (strL xs)) = some (.fz (.bl true)) := rfl
                  have hsm := hp (.t xs) (by simp)
                  have hxl : opLen (.tup (strL xs)) = some (.fz (.int xs.length)) := by
                    show some (RV.fz (D.int (strL xs).length)) = _
                    rw [strL_len]
                  rw [pD_t] at a2
                  simp [-sSeq_e, -opLen_t, a0, e4, hl, n3] at n3 ⊢
                  simp [-sSeq_e, -opLen_t, n3, a2, ht]
                  refine seq_for (ds := rng 0 xs.length) (e0 := [.bo (.tup L), .no]) (Q := fun r => finish [Md.r] r = .ok false (.bl (thP (.t xs))) []) ?_ (fun i e => e = [.bo (.tup L), .no] ∧ Pre xs i) ⟨rfl, fun _ _ h => absurd h (Nat.not_lt_zero _), by simp⟩ ?_ ?_
                  · have := hsm.1
                    simp [-opLen_t, a2, hxl]
                    omega
                  · rintro R hrt _ _ i d e hd ⟨rfl, hg, hn⟩
                    obtain ⟨rfl, hi⟩ := rng0_get hd
                    have hi2 : i < xs.length := by omega
                    refine ⟨_, rfl, ?_⟩
                    have hc : xs[i]? = some xs[i] := List.getElem?_eq_getElem hi2
                    have hxm : xs[i] ∈ xs := List.getElem_mem hi2
                    generalize xs[i] = x at hc hxm
                    have ha : L2.atI (strL xs) (i : Int) = some (.str x) := strL_get (by omega) hc
                    have h5 : phi "_law_is_name" [.str x] = .ok false (.bl (vn x)) [] := hN (.s x) (hsm.2 x hxm)
                    have h6 := opCutHi_t (xs := xs) (i := (i : Int)) (by omega)
                    rw [Int.toNat_natCast] at h6
                    have h7 := in_tup x (xs.take i)
                    have htk : xs.take (i + 1) = xs.take i ++ [x] := by rw [List.take_add_one, hc]; rfl
                    by_cases g1 : vn x = true
                    · by_cases g2 : x ∈ xs.take i
                      · have fin : thP (.t xs) = false := by
                          have : ¬ xs.Nodup := fun z => by
                            have z2 := List.Pairwise.sublist (List.take_sublist (i + 1) xs) z
                            rw [htk, List.pairwise_append] at z2
                            exact z2.2.2 x g2 x (by simp) rfl
                          simp [thP, this]
                        simp [-finish_fz, a2, ha, h5, h6, h7, g1, g2]
                        exact hrt _ _ (by simp [fin])
                      · simp [a2, ha, h5, h6, h7, g1, g2]
                        refine ⟨fun j y hj hy => ?_, ?_⟩
                        · by_cases z : j = i
                          · subst z; rw [hc] at hy; cases hy; exact g1
                          · exact hg j y (by omega) hy
                        · rw [htk, List.nodup_append]
                          exact ⟨hn, by simp, fun y hy z hz e => g2 (by rw [List.mem_singleton] at hz; rw [← hz, ← e]; exact hy)⟩
                    · have fin : thP (.t xs) = false := by
                        have : xs.all vn = false := by
                          rw [Bool.eq_false_iff]
                          intro z
                          exact g1 (List.all_eq_true.mp z x hxm)
                        simp [thP, this]
                      have g1' : vn x = false := by simpa using g1
                      simp [-finish_fz, a2, ha, h5, g1']
                      exact hrt _ _ (by simp [fin])
                  · rintro e ⟨rfl, hg, hn⟩
                    rw [rng_len] at hg hn
                    have he : ((xs.length : Int) - 0).toNat = xs.length := by omega
                    rw [he] at hg hn
                    rw [List.take_length] at hn
                    have : xs.all vn = true := List.all_eq_true.mpr fun x hx => by
                      obtain ⟨i, hi, e⟩ := List.mem_iff_getElem.mp hx
                      exact hg i x hi (by rw [List.getElem?_eq_getElem hi, e])
                    simp [thP, this, hn]
              · have nr : ¬ (("close" : Str) = "read") := by decide
                simp [-sSeq_e, -opLen_t, a0, e4, hl, n3, stepB] at n3 ⊢
                simp [-opLen_t, n3]
            · have : stepB (.s h :: b :: r) = false := by
                rcases r with _ | ⟨c, _ | ⟨d, r⟩⟩ <;> simp [stepB, n1, n2, c2, c3]
              rw [sSeq_e]
              simp [-sSeq_e, a0, e4, c3, this]

end S3
namespace S3
open PySem
/-! the written form -/
theorem str_assoc (x y z : Str) : (x ++ y) ++ z = x ++ (y ++ z) := by
  show (⟨(x.cps ++ y.cps) ++ z.cps⟩ : Str) = ⟨x.cps ++ (y.cps ++ z.cps)⟩
  rw [Array.append_assoc]
def jf (t : Str) (xs : List Str) : Str := xs.foldl (fun t x => t ++ " " ++ x) t
theorem jf_app (t u : Str) : ∀ xs : List Str, jf (t ++ u) xs = t ++ jf u xs
  | [] => rfl
  | x :: xs => by
    show jf (t ++ u ++ " " ++ x) xs = t ++ jf (u ++ " " ++ x) xs
    rw [← jf_app t (u ++ " " ++ x) xs]
    congr 1
    rw [str_assoc t u, str_assoc t (u ++ " ")]
theorem join_jf : ∀ (a : Str) (xs : List Str), Str.join " " (a :: xs) = jf a xs
  | a, [] => rfl
  | a, b :: r => by
    show a ++ " " ++ Str.join " " (b :: r) = jf (a ++ " " ++ b) r
    rw [join_jf b r, ← jf_app]
def flat : List Part → List Str
  | [] => []
  | .s x :: r => x :: flat r
  | .t xs :: r => xs ++ flat r
theorem txts (xs : List Str) : txtsOf (strL xs) = some xs := by
  induction xs with
  | nil => rfl
  | cons x xs ih =>
    show (txtsOf (strL xs)).map (x :: ·) = _
    rw [ih]; rfl
@[simp] theorem sRaise_e (c : Str) (fs : List Str) (a : AV) (e : Env) : sRaise c fs a e = match a e with
  | .ok rs e1 => (match fzs rs with
    | some ds => if ds.length = fs.length then .ex ⟨c, fs.zip ds⟩ e1 else .no
    | none => .no)
  | .ex x e1 => .ex x e1
  | .no => .no := rfl
theorem vn_len {x : Str} (h : vn x = true) : x.length ≤ 8 := by
  unfold vn at h
  simp only [Bool.and_eq_true, decide_eq_true_eq] at h
  exact h.1.1.2
theorem sum_len : ∀ {xs : List Str}, (∀ x ∈ xs, x.length ≤ 8) → (xs.map (·.length)).sum ≤ 8 * xs.length
  | [], _ => by simp
  | x :: xs, h => by
    have h1 := h x (by simp)
    have h2 := sum_len (xs := xs) fun y hy => h y (by simp [hy])
    rw [List.map_cons, List.sum_cons, List.length_cons]
    omega
theorem joinOk_ok {xs : List Str} (h : ∀ x ∈ xs, x.length ≤ 8) (hz : xs.length ≤ 2000) : joinOk " " xs = some (.fz (.str (Str.join " " xs))) := by
  have := sum_len h
  have e : (" " : Str).length = 1 := rfl
  unfold joinOk
  rw [if_pos (by rw [e]; omega)]
theorem join_tupS {xs : List Str} (h : ∀ x ∈ xs, x.length ≤ 8) (hz : xs.length ≤ 2000) : opJoin " " (.tup (strL xs)) = some (.fz (.str (Str.join " " xs))) := by
  show (txtsOf (strL xs)).bind (joinOk " ") = _
  rw [txts, Option.bind_some, joinOk_ok h hz]
theorem join_lstS {xs : List Str} (h : ∀ x ∈ xs, x.length ≤ 8) (hz : xs.length ≤ 2000) : opJoin " " (.lst (strL xs)) = some (.fz (.str (Str.join " " xs))) := by
  show (txtsOf (strL xs)).bind (joinOk " ") = _
  rw [txts, Option.bind_some, joinOk_ok h hz]
/-- what a step looks like -/
theorem step_form {ps : List Part} (h : stepB ps = true) : (∃ w p, ps = [.s w, .s p] ∧ (w = "begin" ∨ w = "quit") ∧ vn p = true) ∨ (∃ p q, ps = [.s "read", .s p, .s q] ∧ vn p = true ∧ vn q = true) ∨ (∃ p xs, ps = [.s "close", .s p, .t xs] ∧ vn p = true ∧ (∀ x ∈ xs, vn x = true)) := by
  rcases ps with _ | ⟨a, _ | ⟨b, _ | ⟨c, _ | ⟨d, r⟩⟩⟩⟩
  · cases h
  · cases a <;> cases h
  · cases a with
    | t _ => cases h
    | s w =>
      simp [stepB] at h
      cases b with
      | t _ => simp [nmP] at h
      | s p => exact .inl ⟨w, p, rfl, h.1, h.2⟩
  · cases a with
    | t _ => cases h
    | s w =>
      simp only [stepB] at h
      split at h
      · rename_i e
        subst e
        rw [Bool.and_eq_true] at h
        cases b with
        | t _ => cases h.1
        | s p =>
          cases c with
          | t _ => cases h.2
          | s q => exact .inr (.inl ⟨p, q, rfl, h.1, h.2⟩)
      · split at h
        · rename_i e
          subst e
          rw [Bool.and_eq_true] at h
          cases b with
          | t _ => cases h.1
          | s p =>
            cases c with
            | s _ => cases h.2
            | t xs =>
              have h2 := h.2
              simp only [thP, Bool.and_eq_true] at h2
              exact .inr (.inr ⟨p, xs, rfl, h.1, List.all_eq_true.mp h2.1⟩)
        · cases h
  · cases a <;> cases h
theorem format_run (phi : String → List D → RC) {ps : List Part} (hp : ∀ p ∈ ps, Small p) (hV : phi "valid_step" [stD ps] = .ok false (.bl (stepB ps)) []) :
    T_format_step.run phi [stD ps] = if stepB ps = true then .ok false (.str (Str.join " " (flat ps))) [] else .ex ⟨"InvalidStep", [("step", stD ps)]⟩ [] := by
  rw [run_is rfl]
  show finish [.v] (b_format_step phi [.fz (stD ps), .no, .no, .no]) = _
  unfold b_format_step
  by_cases c : stepB ps = true
  · rw [if_pos c]
    rw [c] at hV
    rw [sSeq_e]
    simp [-sSeq_e, hV]
    rcases step_form c with ⟨w, p, rfl, hw, h1⟩ | ⟨p, q, rfl, h1, h2⟩ | ⟨p, xs, rfl, h1, h2⟩
    · have a0 : opIx (stD [.s w, .s p]) (.int 0) = some (.fz (.str w)) := by
        show (L2.atI [D.str w, D.str p] 0).map RV.fz = _
        rw [atI_nat (by decide) rfl]; rfl
      have nc : ¬ w = "close" := by rcases hw with hw | hw <;> rw [hw] <;> decide
      have wl : w.length ≤ 8 := by rcases hw with hw | hw <;> rw [hw] <;> decide
      have j : opJoin " " (stD [.s w, .s p]) = some (.fz (.str (Str.join " " [w, p]))) := join_tupS (xs := [w, p]) (fun x hx => by
        simp at hx
        rcases hx with rfl | rfl
        · exact wl
        · exact vn_len h1) (by simp)
      rw [sSeq_e]
      simp [-sSeq_e, a0, opEq_s, nc, j, flat]
    · have a0 : opIx (stD [.s "read", .s p, .s q]) (.int 0) = some (.fz (.str "read")) := by
        show (L2.atI [D.str "read", D.str p, D.str q] 0).map RV.fz = _
        rw [atI_nat (by decide) rfl]; rfl
      have nc : ¬ ("read" : Str) = "close" := by decide
      have j : opJoin " " (stD [.s "read", .s p, .s q]) = some (.fz (.str (Str.join " " ["read", p, q]))) := join_tupS (xs := ["read", p, q]) (fun x hx => by
        simp at hx
        rcases hx with rfl | rfl | rfl
        · decide
        · exact vn_len h1
        · exact vn_len h2) (by simp)
      rw [sSeq_e]
      simp [-sSeq_e, a0, opEq_s, nc, j, flat]
    · have a0 : opIx (.tup [D.str "close", D.str p, D.tup (strL xs)]) (.int 0) = some (.fz (.str "close")) := by
        show (L2.atI [D.str "close", D.str p, D.tup (strL xs)] 0).map RV.fz = _
        rw [atI_nat (by decide) rfl]; rfl
      have hz : xs.length ≤ 1000 := (hp (.t xs) (by simp)).1
      have j : opJoin " " (.lst (strL ("close" :: p :: xs))) = some (.fz (.str (Str.join " " ("close" :: p :: xs)))) := join_lstS (fun x hx => by
        rcases List.mem_cons.mp hx with rfl | hx
        · decide
        · rcases List.mem_cons.mp hx with rfl | hx
          · exact vn_len h1
          · exact vn_len (h2 x hx)) (by simp; omega)
      have hd : eDisp mkLst (aKeep (eSlot 1) (aKeep (eSlot 2) (aStar (eSlot 3) (aNil)))) [.fz (.tup [D.str "close", D.str p, D.tup (strL xs)]), .fz (.str "close"), .fz (.str p), .fz (.tup (strL xs))] = .ok (.nw (.lst (strL ("close" :: p :: xs)))) [.fz (.tup [D.str "close", D.str p, D.tup (strL xs)]), .fz (.str "close"), .fz (.str p), .fz (.tup (strL xs))] := by
        have hs : seqI (.tup (strL xs)) = some (strL xs) := rfl
        have hf := fzs_app (strL xs) []
        have hl := strL_len xs
        simp [hs] at hf ⊢
        simp [hf, hl]
        rw [if_pos (by omega)]
        rfl
      have hst : stD [.s "close", .s p, .t xs] = .tup [D.str "close", D.str p, D.tup (strL xs)] := rfl
      rw [hst, sSeq_e]
      have hu : sUnp [1, 2, 3] (eSlot 0) [.fz (.tup [D.str "close", D.str p, D.tup (strL xs)]), .no, .no, .no] = .nx [.fz (.tup [D.str "close", D.str p, D.tup (strL xs)]), .fz (.str "close"), .fz (.str p), .fz (.tup (strL xs))] := by
        simp
      simp [-sSeq_e, -sUnp_e, a0, opEq_s]
      rw [sSeq_e, hu]
      simp [-eDisp_e, hd, j, flat]
  · rw [if_neg c]
    have c' : stepB ps = false := by simpa using c
    rw [c'] at hV
    rw [sSeq_e]
    simp [-sSeq_e, hV]

end S3
namespace S3
open PySem
/-! refused, the text by the law, the drawn parts -/
@[simp] theorem sTry_e (sub : Str → Bool) (i : Nat) (b h : SV) (e : Env) : sTry sub i b h e = match b e with
  | .ex x e1 => if sub x.c then (match h (e1.set i (.fz (.xn x.c x.fs))) with
      | .nx e2 => .nx (wipeAll e2)
      | .rt (.fz d) e2 => if xfree 6 d then .rt (.fz d) (wipeAll e2) else .no
      | _ => .no) else .ex x e1
  | r => r := rfl
theorem okD_part (n : Nat) (p : Part) : okD (n + 1) (pD p) = true := by
  cases p with
  | s x => rfl
  | t xs => exact all_strL xs n
theorem okD_st (ps : List Part) : okD 6 (stD ps) = true := by
  show (ps.map pD).all (okD 5) = true
  rw [List.all_map, List.all_eq_true]
  exact fun p _ => okD_part 4 p
theorem eqv_self : ∀ (n : Nat) (p : Part), PyData.eqv (py (n + 1) (pD p)) (py (n + 1) (pD p)) = true := fun n p => by
  cases p with
  | s x => show PyData.eqv (.str x) (.str x) = true; rw [eqv_ss]; exact decide_eq_true rfl
  | t xs =>
    show PyData.eqv (.tuple ((strL xs).map (py n))) (.tuple ((strL xs).map (py n))) = true
    have : PyData.eqvAll ((strL xs).map (py n)) ((strL xs).map (py n)) = true := by
      induction xs with
      | nil => rfl
      | cons x xs ih =>
        have hx : py n (.str x) = .str x := by cases n <;> rfl
        show (PyData.eqv (py n (.str x)) (py n (.str x)) && PyData.eqvAll ((strL xs).map (py n)) ((strL xs).map (py n))) = true
        rw [ih, hx, eqv_ss]
        simp
    unfold PyData.eqv
    exact this
theorem opEq_st (ps : List Part) : opEq (stD ps) (stD ps) = some (.fz (.bl true)) := by
  have : PyData.eqv (py 6 (stD ps)) (py 6 (stD ps)) = true := by
    show PyData.eqv (.tuple ((ps.map pD).map (py 5))) (.tuple ((ps.map pD).map (py 5))) = true
    have : PyData.eqvAll ((ps.map pD).map (py 5)) ((ps.map pD).map (py 5)) = true := by
      induction ps with
      | nil => rfl
      | cons p ps ih =>
        show (PyData.eqv (py 5 (pD p)) (py 5 (pD p)) && PyData.eqvAll ((ps.map pD).map (py 5)) ((ps.map pD).map (py 5))) = true
        rw [ih, eqv_self 4 p]
        rfl
    unfold PyData.eqv
    exact this
  unfold opEq dEq
  rw [okD_st]
  simp [this, bRV]
theorem refused_run (phi : String → List D → RC) {ps : List Part} (hF : phi "format_step" [stD ps] = .ex ⟨"InvalidStep", [("step", stD ps)]⟩ []) : T__law_refused.run phi [stD ps] = .ok false (.bl true) [] := by
  rw [run_is rfl]
  show finish [.v] (b__law_refused phi [.fz (stD ps), .no]) = _
  unfold b__law_refused
  have s1 : subs ["InvalidStep"] "InvalidStep" = true := by decide
  have s2 : ∀ m, subs [] m = false := fun m => by simp [subs]
  have xf : opXf "step" (.xn "InvalidStep" [("step", stD ps)]) = some (.fz (stD ps)) := by
    show ((List.lookup ("step" : Str) [("step", stD ps)]).map RV.fz) = _
    simp [List.lookup]
  have xi : ∀ (sub : Str → Bool) (fs : List (Str × D)), opXis sub (.xn "InvalidStep" fs) = some (.fz (.bl (sub "InvalidStep"))) := fun _ _ => rfl
  have ty : opIsTy "tuple" (stD ps) = some (.fz (.bl true)) := rfl
  have eq := opEq_st ps
  generalize stD ps = D0 at *
  rw [sSeq_e]
  simp [-sSeq_e, hF, s1]
  rw [sSeq_e]
  simp [-sSeq_e, xi, s1, s2, xf, ty, eq, xfree, wipeAll]
theorem addTx (x y : Str) (h : x.length + y.length ≤ 16777216) : opAdd (.str x) (.str y) = some (.fz (.str (x ++ y))) := if_pos h
theorem textof_run (phi : String → List D → RC) {ps : List Part} (hp : ∀ p ∈ ps, Small p) (c : stepB ps = true) : T__law_text_of.run phi [stD ps] = .ok false (.str (Str.join " " (flat ps))) [] := by
  rw [run_is rfl]
  show finish [.r] (b__law_text_of phi [.bo (stD ps), .no, .no]) = _
  unfold b__law_text_of
  have e1 : (" " : Str).length = 1 := rfl
  rcases step_form c with ⟨w, p, rfl, hw, h1⟩ | ⟨p, q, rfl, h1, h2⟩ | ⟨p, xs, rfl, h1, h2⟩
  · have a0 : L2.atI [D.str w, D.str p] 0 = some (.str w) := atI_nat (by decide) rfl
    have a1 : L2.atI [D.str w, D.str p] 1 = some (.str p) := atI_nat (by decide) rfl
    have nr : ¬ w = "read" := by rcases hw with hw | hw <;> rw [hw] <;> decide
    have nc : ¬ w = "close" := by rcases hw with hw | hw <;> rw [hw] <;> decide
    have wl : w.length ≤ 8 := by rcases hw with hw | hw <;> rw [hw] <;> decide
    have pl := vn_len h1
    have k1 : opAdd (.str w) (.str " ") = some (.fz (.str (w ++ " "))) := addTx _ _ (by rw [e1]; omega)
    have k2 : opAdd (.str (w ++ " ")) (.str p) = some (.fz (.str (w ++ " " ++ p))) := addTx _ _ (by rw [str_len, e1]; omega)
    show finish [.r] (sSeq _ _ [.bo (.tup [D.str w, D.str p]), .no, .no]) = _
    rw [sSeq_e]
    simp [-sSeq_e, a0, a1, k1, k2]
    rw [sSeq_e]
    simp [-sSeq_e, a0, opEq_s, nr]
    rw [sSeq_e]
    simp [-sSeq_e, a0, opEq_s, nc, flat]
    rfl
  · have a0 : L2.atI [D.str "read", D.str p, D.str q] 0 = some (.str "read") := atI_nat (by decide) rfl
    have a1 : L2.atI [D.str "read", D.str p, D.str q] 1 = some (.str p) := atI_nat (by decide) rfl
    have a2 : L2.atI [D.str "read", D.str p, D.str q] 2 = some (.str q) := atI_nat (by decide) rfl
    have nc : ¬ ("read" : Str) = "close" := by decide
    have pl := vn_len h1
    have ql := vn_len h2
    have rl : ("read" : Str).length = 4 := by decide
    have k1 : opAdd (.str "read") (.str " ") = some (.fz (.str ("read" ++ " "))) := addTx _ _ (by rw [rl, e1]; decide)
    have k2 : opAdd (.str ("read" ++ " ")) (.str p) = some (.fz (.str ("read" ++ " " ++ p))) := addTx _ _ (by rw [str_len, e1, rl]; omega)
    have k3 : opAdd (.str ("read" ++ " " ++ p)) (.str " ") = some (.fz (.str ("read" ++ " " ++ p ++ " "))) := addTx _ _ (by rw [str_len, str_len, e1, rl]; omega)
    have k4 : opAdd (.str ("read" ++ " " ++ p ++ " ")) (.str q) = some (.fz (.str ("read" ++ " " ++ p ++ " " ++ q))) := addTx _ _ (by rw [str_len, str_len, str_len, e1, rl]; omega)
    show finish [.r] (sSeq _ _ [.bo (.tup [D.str "read", D.str p, D.str q]), .no, .no]) = _
    rw [sSeq_e]
    simp [-sSeq_e, a0, a1, k1, k2]
    rw [sSeq_e]
    simp [-sSeq_e, a0, a2, opEq_s, k3, k4]
    rw [sSeq_e]
    simp [-sSeq_e, a0, opEq_s, nc, flat, join_jf, jf]
  · have a0 : L2.atI [D.str "close", D.str p, D.tup (strL xs)] 0 = some (.str "close") := atI_nat (by decide) rfl
    have a1 : L2.atI [D.str "close", D.str p, D.tup (strL xs)] 1 = some (.str p) := atI_nat (by decide) rfl
    have a2 : L2.atI [D.str "close", D.str p, D.tup (strL xs)] 2 = some (.tup (strL xs)) := atI_nat (by decide) rfl
    have nr : ¬ ("close" : Str) = "read" := by decide
    have pl := vn_len h1
    have rl : ("close" : Str).length = 5 := by decide
    have hz : xs.length ≤ 1000 := (hp (.t xs) (by simp)).1
    have k1 : opAdd (.str "close") (.str " ") = some (.fz (.str ("close" ++ " "))) := addTx _ _ (by rw [rl, e1]; decide)
    have k2 : opAdd (.str ("close" ++ " ")) (.str p) = some (.fz (.str ("close" ++ " " ++ p))) := addTx _ _ (by rw [str_len, e1, rl]; omega)
    have il : ∀ i, i ≤ xs.length → (jf ("close" ++ " " ++ p) (xs.take i)).length ≤ 14 + 9 * i := fun i => by
      induction i with
      | zero => intro _; show ("close" ++ " " ++ p : Str).length ≤ _; rw [str_len, str_len, rl, e1]; omega
      | succ i ih =>
        intro hi
        have hc : xs[i]? = some xs[i] := List.getElem?_eq_getElem (by omega)
        have hx := vn_len (h2 xs[i] (List.getElem_mem (by omega)))
        rw [List.take_add_one, hc]
        show (jf _ (xs.take i ++ [xs[i]])).length ≤ _
        unfold jf at ih ⊢
        rw [List.foldl_append]
        show (List.foldl _ _ (xs.take i) ++ " " ++ xs[i] : Str).length ≤ _
        rw [str_len, str_len, e1]
        have := ih (by omega)
        omega
    show finish [.r] (sSeq _ _ [.bo (.tup [D.str "close", D.str p, D.tup (strL xs)]), .no, .no]) = _
    rw [sSeq_e]
    simp [-sSeq_e, a0, a1, k1, k2]
    rw [sSeq_e]
    simp [-sSeq_e, a0, opEq_s, nr]
    rw [sSeq_e]
    simp [-sSeq_e, -sFor_e, a0, opEq_s]
    have hw : wAny (eOp2 opIx (eSlot 0) (eC (.int 2))) [.bo (.tup [D.str "close", D.str p, D.tup (strL xs)]), .fz (.str ("close" ++ " " ++ p)), .no] = .ok (strL xs) [.bo (.tup [D.str "close", D.str p, D.tup (strL xs)]), .fz (.str ("close" ++ " " ++ p)), .no] := by simp [a2]
    rw [← sSeq_e]
    refine seq_for (Q := fun r => finish [Md.r] r = .ok false (.str (Str.join " " (flat [.s "close", .s p, .t xs]))) []) hw (fun i e => e = [.bo (.tup [D.str "close", D.str p, D.tup (strL xs)]), .fz (.str (jf ("close" ++ " " ++ p) (xs.take i))), .no]) (by rfl) ?_ ?_
    · rintro R _ _ _ i d e hd rfl
      unfold strL at hd
      rw [List.getElem?_map, Option.map_eq_some_iff] at hd
      obtain ⟨x, hx, rfl⟩ := hd
      refine ⟨_, rfl, ?_⟩
      have hi : i < xs.length := (List.getElem?_eq_some_iff.mp hx).1
      have hxl := vn_len (h2 x (List.mem_of_getElem? hx))
      have hl := il i (by omega)
      have ht : jf ("close" ++ " " ++ p) (xs.take (i + 1)) = jf ("close" ++ " " ++ p) (xs.take i) ++ " " ++ x := by
        rw [List.take_add_one, hx]
        show jf _ (xs.take i ++ [x]) = _
        unfold jf
        rw [List.foldl_append]
        rfl
      rw [ht]
      generalize jf ("close" ++ " " ++ p) (xs.take i) = T at hl
      have m1 := addTx T " " (by rw [e1]; omega)
      have m2 := addTx (T ++ " ") x (by rw [str_len, e1]; omega)
      simp [m1, m2]
    · rintro e rfl
      have : (strL xs).length = xs.length := strL_len xs
      rw [this, List.take_length]
      simp [flat, join_jf]
      rfl

end S3
namespace S3
open PySem
/-! the drawn parts and things -/
theorem word_small {xs : List D} (h : ∀ d ∈ xs, ∃ x : Str, d = .str x ∧ x.length ≤ 100) {i : Int} (h0 : 0 ≤ i) (h1 : i < xs.length) : ∃ x : Str, L2.atI xs i = some (.str x) ∧ x.length ≤ 100 := by
  obtain ⟨d, h2, h3⟩ := atI_lt (xs := xs) h0 h1
  obtain ⟨x, rfl, hx⟩ := h d (List.mem_of_getElem? h2)
  exact ⟨x, h3, hx⟩
theorem part_run (phi : String → List D → RC) {d s : Int} (h0 : 0 ≤ d) (s0 : 0 ≤ s) (hN : ∀ k : Int, 0 ≤ k → k < 30 → phi "_law_named" [.int k, .int s] = .ok false (.str (nmS k s)) []) :
    ∃ x : Str, T__law_part_of.run phi [.int d, .int s] = .ok false (.str x) [] ∧ x.length ≤ 100 := by
  rw [run_is rfl]
  show ∃ x : Str, finish [.r, .r] (b__law_part_of phi [.bo (.int d), .bo (.int s), .no]) = _ ∧ _
  unfold b__law_part_of
  have q0 : 0 ≤ d / 4 % 12 := by omega
  have q1 : d / 4 % 12 < 12 := by omega
  by_cases c : d % 4 = 1
  · obtain ⟨x, hx, hl⟩ := word_small (xs := [.str "", .str "A", .str "9a", .str "abcdefghi", .str "a b", .str "a\n", .str "-", .str "aB", .str "a.b", .str "begin", .str "a2345678", .str "z"]) (fun d hd => by
      simp only [List.mem_cons, List.not_mem_nil, or_false] at hd
      rcases hd with rfl | rfl | rfl | rfl | rfl | rfl | rfl | rfl | rfl | rfl | rfl | rfl <;> exact ⟨_, rfl, by decide⟩) q0 (by simp; omega)
    refine ⟨x, ?_, hl⟩
    simp [opEq_i, c, hx]
  · have hn := hN _ q0 (by omega)
    refine ⟨nmS (d / 4 % 12) s, ?_, nm_len q0 (by omega) s0⟩
    simp [opEq_i, c, hn]
theorem addT (xs : List Str) (y : Str) (h : xs.length ≤ 1000) : opAdd (.tup (strL xs)) (.tup [.str y]) = some (.fz (.tup (strL (xs ++ [y])))) := by
  show (if (strL xs).length + 1 ≤ 16777216 then some (RV.fz (D.tup (strL xs ++ [.str y]))) else none) = _
  rw [if_pos (by rw [strL_len]; omega)]
  unfold strL
  rw [List.map_append]
  rfl
theorem op2_of {op : D → D → Option RV} {f g : EV} {e e1 e2 : Env} {r q rr : RV} {x y : D} (h1 : f e = .ok r e1) (h2 : g e1 = .ok q e2) (h3 : S3.rd r e2 = some x) (h4 : S3.rd q e2 = some y) (h5 : op x y = some rr) : eOp2 op f g e = .ok rr e2 := by
  rw [eOp2_e, h1]
  dsimp only
  rw [h2]
  dsimp only
  rw [h3, h4]
  dsimp only
  rw [h5]
  rfl
def ThOK (n : Nat) (xs : List Str) : Prop := xs.length ≤ n ∧ ∀ x ∈ xs, x.length ≤ 100
theorem ThOK.app {n : Nat} {xs : List Str} {y : Str} (h : ThOK n xs) (hy : y.length ≤ 100) : ThOK (n + 1) (xs ++ [y]) :=
  ⟨by rw [List.length_append, List.length_singleton]; have := h.1; omega, fun x hx => (List.mem_append.mp hx).elim (h.2 x) fun z => by rw [List.mem_singleton.mp z]; exact hy⟩
theorem things_disp (phi : String → List D → RC) {d s f t I M : Int} {xs : List Str} {nn : Str} (hm : opMul (.int I) (.int t) = some (.fz (.int M))) (hn : phi "_law_named" [.int (f + M), .int s] = .ok false (.str nn) []) :
    eDisp mkTup (aKeep (eCall (phi "_law_named") [.r, .r] (aCons (eOp2 opAdd (eSlot 2) (eOp2 opMul (eSlot 5) (eSlot 3))) (aCons (eSlot 1) (aNil)))) (aNil)) [.bo (.int d), .bo (.int s), .fz (.int f), .fz (.int t), .fz (.tup (strL xs)), .fz (.int I)] = .ok (.fz (.tup [.str nn])) [.bo (.int d), .bo (.int s), .fz (.int f), .fz (.int t), .fz (.tup (strL xs)), .fz (.int I)] := by simp [-opMul_i, hm, hn]
theorem thingsof_run (phi : String → List D → RC) {d s : Int} (h0 : 0 ≤ d) (s0 : 0 ≤ s) (hN : ∀ k : Int, 0 ≤ k → k < 30 → phi "_law_named" [.int k, .int s] = .ok false (.str (nmS k s)) [])
    (hP : ∀ d : Int, 0 ≤ d → ∃ x : Str, phi "_law_part_of" [.int d, .int s] = .ok false (.str x) [] ∧ x.length ≤ 100) :
    ∃ xs, T__law_things_of.run phi [.int d, .int s] = .ok false (.tup (strL xs)) [] ∧ ThOK 8 xs := by
  rw [run_is rfl]
  show ∃ xs, finish [.r, .r] (b__law_things_of phi [.bo (.int d), .bo (.int s), .no, .no, .no, .no]) = _ ∧ _
  unfold b__law_things_of
  have f0 : 0 ≤ d / 8 % 5 := by omega
  have f1 : d / 8 % 5 < 5 := by omega
  have t0 : 0 ≤ d / 64 % 3 := by omega
  have t1 : d / 64 % 3 < 3 := by omega
  have r0 : 0 ≤ d / 256 % 7 := by omega
  have r1 : d / 256 % 7 < 7 := by omega
  rw [sSeq_e]
  simp [-sSeq_e]
  rw [sSeq_e]
  simp [-sSeq_e]
  rw [sSeq_e]
  simp [-sSeq_e]
  refine seq_for (ds := rng 0 (d / 256 % 7)) (e0 := [.bo (.int d), .bo (.int s), .fz (.int (d / 8 % 5)), .fz (.int (d / 64 % 3)), .fz (.tup (strL [])), .no]) (Q := fun r => ∃ xs, finish [.r, .r] r = .ok false (.tup (strL xs)) [] ∧ ThOK 8 xs) ?_
    (fun i e => ∃ xs, e = [.bo (.int d), .bo (.int s), .fz (.int (d / 8 % 5)), .fz (.int (d / 64 % 3)), .fz (.tup (strL xs)), .no] ∧ ThOK i xs) ⟨[], rfl, by simp, by simp⟩ ?_ ?_
  · have c1 : -4611686018427387904 ≤ d / 256 % 7 := by omega
    have c2 : d / 256 % 7 < 4611686018427387904 := by omega
    have n1 : strL [] = [] := rfl
    simp [c1, c2, n1]
  · rintro R _ _ _ i dd e hd ⟨xs, rfl, hx⟩
    obtain ⟨rfl, hi⟩ := rng0_get hd
    refine ⟨[.bo (.int d), .bo (.int s), .fz (.int (d / 8 % 5)), .fz (.int (d / 64 % 3)), .fz (.tup (strL xs)), .fz (.int i)], rfl, ?_⟩
    have i0 : 0 ≤ (i : Int) := by omega
    have i6 : (i : Int) ≤ 6 := by omega
    have hxl := hx.1
    clear hd hi
    have hlen : xs.length ≤ 1000 := by omega
    generalize (i : Int) = I at i0 i6 ⊢
    generalize d / 8 % 5 = f at f0 f1 ⊢
    generalize d / 64 % 3 = t at t0 t1 ⊢
    have hprod0 : 0 ≤ I * t := Int.mul_nonneg i0 t0
    have hprod : I * t ≤ 6 * 2 := Int.mul_le_mul i6 (by omega) t0 (by omega)
    have hn := hN (f + I * t) (by omega) (by omega)
    have hnl := nm_len (k := f + I * t) (by omega) (by omega) s0
    have ha := addT xs (nmS (f + I * t) s) hlen
    have hm : opMul (.int I) (.int t) = some (.fz (.int (I * t))) := by
      have q1 : -(2 ^ 64) < I := by omega
      have q2 : I < 2 ^ 64 := by omega
      rw [opMul_i, if_pos (Or.inl ⟨q1, q2⟩)]
    generalize I * t = M at hm hn hnl ha hprod0 hprod
    generalize nmS (f + M) s = nn at hn hnl ha
    clear hN hP hprod hprod0 i6 i0 t0 t1 f0 f1 r0 r1
    have e2 : eDisp mkTup (aKeep (eCall (phi "_law_named") [.r, .r] (aCons (eOp2 opAdd (eSlot 2) (eOp2 opMul (eSlot 5) (eSlot 3))) (aCons (eSlot 1) (aNil)))) (aNil)) [.bo (.int d), .bo (.int s), .fz (.int f), .fz (.int t), .fz (.tup (strL xs)), .fz (.int I)] = .ok (.fz (.tup [.str nn])) [.bo (.int d), .bo (.int s), .fz (.int f), .fz (.int t), .fz (.tup (strL xs)), .fz (.int I)] := things_disp phi hm hn
    have e3 : eOp2 opAdd (eSlot 4) (eDisp mkTup (aKeep (eCall (phi "_law_named") [.r, .r] (aCons (eOp2 opAdd (eSlot 2) (eOp2 opMul (eSlot 5) (eSlot 3))) (aCons (eSlot 1) (aNil)))) (aNil))) [.bo (.int d), .bo (.int s), .fz (.int f), .fz (.int t), .fz (.tup (strL xs)), .fz (.int I)] = .ok (.fz (.tup (strL (xs ++ [nn])))) [.bo (.int d), .bo (.int s), .fz (.int f), .fz (.int t), .fz (.tup (strL xs)), .fz (.int I)] := op2_of (r := .fz (.tup (strL xs))) (q := .fz (.tup [.str nn])) (by simp) e2 rfl rfl ha
    have e4 : sSet 4 (eOp2 opAdd (eSlot 4) (eDisp mkTup (aKeep (eCall (phi "_law_named") [.r, .r] (aCons (eOp2 opAdd (eSlot 2) (eOp2 opMul (eSlot 5) (eSlot 3))) (aCons (eSlot 1) (aNil)))) (aNil)))) [.bo (.int d), .bo (.int s), .fz (.int f), .fz (.int t), .fz (.tup (strL xs)), .fz (.int I)] = .nx [.bo (.int d), .bo (.int s), .fz (.int f), .fz (.int t), .fz (.tup (strL (xs ++ [nn]))), .fz (.int I)] := by
      rw [sSet_e, e3]
      rfl
    rw [e4, turnP_nx]
    exact ⟨_, rfl, hx.app hnl⟩
  · rintro e ⟨xs, rfl, hx⟩
    rw [rng_len] at hx
    have hx7 : ThOK 7 xs := ⟨by have := hx.1; omega, hx.2⟩
    rw [sSeq_e]
    by_cases c : d % 8 = 1
    · obtain ⟨x, h1, h2⟩ := hP (d / 8) (by omega)
      have ha := addT xs x (by have := hx7.1; omega)
      refine ⟨xs ++ [x], ?_, hx7.app h2⟩
      simp [opEq_i, c, h1, ha]
    · refine ⟨xs, ?_, by have := hx7.1; omega, hx7.2⟩
      simp [opEq_i, c]
theorem said2_run (phi : String → List D → RC) (b : Bool) : T__law_said.run phi [.bl b, .bl b] = .ok false (.bl true) [] := said_run phi b

end S3
namespace S3
open PySem
/-! the law -/
theorem small_s {x : Str} (h : x.length ≤ 100) : Small (.s x) := by show x.length ≤ 1000; omega
theorem small_t {xs : List Str} {n : Nat} (h : ThOK n xs) (hn : n ≤ 1000) : Small (.t xs) := ⟨by have := h.1; omega, fun x hx => by have := h.2 x hx; omega⟩
abbrev turnB (phi : String → List D → RC) : SV := (sSeq (sSet 11 (eCall (phi "_law_is_step") [.r] (aCons (eSlot 10) (aNil)))) (sSeq (sIf (tNotS (tTru (eCall (phi "_law_said") [.r, .r] (aCons (eCall (phi "valid_step") [.r] (aCons (eSlot 10) (aNil))) (aCons (eSlot 11) (aNil)))))) (sRet (eC (.bl false))) (sNx)) (sSeq (sIf (tAndS (tNotS (tTru (eSlot 11))) (tNotS (tTru (eCall (phi "_law_refused") [.v] (aKeep (eSlot 10) (aNil)))))) (sRet (eC (.bl false))) (sNx)) (sIf (tTru (eSlot 11)) (sSeq (sSet 12 (eCall (phi "format_step") [.v] (aKeep (eSlot 10) (aNil)))) (sIf (tOrS (tNotS (tTru (eOp1 (opIsTy "str") (eSlot 12)))) (tVal (eOp2 opNe (eSlot 12) (eCall (phi "_law_text_of") [.r] (aCons (eSlot 10) (aNil)))))) (sRet (eC (.bl false))) (sNx))) (sNx)))))
theorem turn_run (phi : String → List D → RC) {ps : List Part} {a0 a1 a2 a3 a6 a7 a8 a9 : Sl} {R : RS → Prop} {J : Env → Prop}
    (hI : phi "_law_is_step" [stD ps] = .ok false (.bl (stepB ps)) []) (hV : phi "valid_step" [stD ps] = .ok false (.bl (stepB ps)) []) (hS : ∀ b, phi "_law_said" [.bl b, .bl b] = .ok false (.bl true) [])
    (hR : stepB ps = false → phi "_law_refused" [stD ps] = .ok false (.bl true) []) (hF : stepB ps = true → phi "format_step" [stD ps] = .ok false (.str (Str.join " " (flat ps))) [] ∧ phi "_law_text_of" [stD ps] = .ok false (.str (Str.join " " (flat ps))) [])
    (hJ : J [a0, a1, a2, a3, .no, .no, a6, a7, a8, a9, .no, .no, .no]) :
    turnP [10, 11, 12] J R (turnB phi [a0, a1, a2, a3, .no, .no, a6, a7, a8, a9, .fz (stD ps), .no, .no]) := by
  have s := hS (stepB ps)
  generalize stD ps = X at *
  unfold turnB
  rw [sSeq_e]
  simp [-sSeq_e, hI]
  rw [sSeq_e]
  simp [-sSeq_e, hV, s]
  cases c : stepB ps with
  | false =>
    have r := hR c
    rw [sSeq_e]
    simp [-sSeq_e, r]
    exact hJ
  | true =>
    obtain ⟨f1, f2⟩ := hF c
    have ty : ∀ x : Str, opIsTy "str" (.str x) = some (.fz (.bl true)) := fun _ => rfl
    have ne := opNe_s (Str.join " " (flat ps)) (Str.join " " (flat ps))
    generalize Str.join " " (flat ps) = T at *
    rw [sSeq_e]
    simp [-sSeq_e]
    rw [sSeq_e]
    simp [-sSeq_e, f1]
    simp [ty, f2, ne]
    exact hJ

end S3
namespace S3
open PySem
/-! the law, whole -/
theorem addP (ps : List Part) (p : Part) (h : ps.length ≤ 1000) : opAdd (stD ps) (.tup [pD p]) = some (.fz (stD (ps ++ [p]))) := by
  show (if (ps.map pD).length + 1 ≤ 16777216 then some (RV.fz (D.tup (ps.map pD ++ [pD p]))) else none) = _
  rw [if_pos (by rw [List.length_map]; omega)]
  unfold stD
  rw [List.map_append]
  rfl
theorem step_loop (phi : String → List D → RC) {d s : Int} {ps : List Part} {a0 a1 : Sl} {R : RS → Prop} {J : Env → Prop} {k : Int} (hl : ps.length ≤ 1000)
    (hn : eCall (phi "_law_nth") [.r, .r] (aCons (eSlot 1) (aCons (eOp2 opAdd (eC (.int 3)) (eSlot 4)) (aNil))) [a0, a1, .fz (.int s), .fz (stD ps), .fz (.int k), .no, .no, .no, .no, .no, .no, .no, .no] = .ok (.fz (.int d)) [a0, a1, .fz (.int s), .fz (stD ps), .fz (.int k), .no, .no, .no, .no, .no, .no, .no, .no])
    (hT : ∃ xs, phi "_law_things_of" [.int d, .int s] = .ok false (.tup (strL xs)) [] ∧ ThOK 8 xs) (hP : ∃ x : Str, phi "_law_part_of" [.int d, .int s] = .ok false (.str x) [] ∧ x.length ≤ 100)
    (hJ : ∀ p, Small p → J [a0, a1, .fz (.int s), .fz (stD (ps ++ [p])), .no, .no, .no, .no, .no, .no, .no, .no, .no]) :
    turnP [4, 5] J R ((sSeq (sSet 5 (eCall (phi "_law_nth") [.r, .r] (aCons (eSlot 1) (aCons (eOp2 opAdd (eC (.int 3)) (eSlot 4)) (aNil))))) (sIf (tVal (eOp2 opEq (eOp2 opMod (eOp2 opDiv (eOp1 opInt (eSlot 5)) (eC (.int 64))) (eC (.int 3))) (eC (.int 0)))) (sSet 3 (eOp2 opAdd (eSlot 3) (eDisp mkTup (aKeep (eCall (phi "_law_things_of") [.r, .r] (aCons (eSlot 5) (aCons (eSlot 2) (aNil)))) (aNil))))) (sSet 3 (eOp2 opAdd (eSlot 3) (eDisp mkTup (aKeep (eCall (phi "_law_part_of") [.r, .r] (aCons (eSlot 5) (aCons (eSlot 2) (aNil)))) (aNil)))))))
      [a0, a1, .fz (.int s), .fz (stD ps), .fz (.int k), .no, .no, .no, .no, .no, .no, .no, .no]) := by
  rw [sSeq_e, sSet_e, hn]
  obtain ⟨xs, t1, t2⟩ := hT
  obtain ⟨x, p1, p2⟩ := hP
  have b1 := addP ps (.t xs) hl
  have b2 := addP ps (.s x) hl
  rw [pD_t] at b1
  rw [pD_s] at b2
  have j1 := hJ (.t xs) (small_t t2 (by omega))
  have j2 := hJ (.s x) (small_s p2)
  generalize stD ps = X at *
  generalize stD (ps ++ [.t xs]) = X1 at *
  generalize stD (ps ++ [.s x]) = X2 at *
  generalize D.tup (strL xs) = T at *
  by_cases c : d / 64 % 3 = 0
  · simp [opEq_i, c, t1, b1]
    exact j1
  · simp [opEq_i, c, p1, b2]
    exact j2

end S3
namespace S3
open PySem
theorem nth_call (phi : String → List D → RC) {ps : List Int} {S : List D} {s k p : Int} {X : D} (h : phi "_law_nth" [lints ps, .int (3 + k)] = .ok false (.int p) []) :
    eCall (phi "_law_nth") [.r, .r] (aCons (eSlot 1) (aCons (eOp2 opAdd (eC (.int 3)) (eSlot 4)) (aNil))) [.fz (.scr S), .ow (lints ps), .fz (.int s), .fz X, .fz (.int k), .no, .no, .no, .no, .no, .no, .no, .no] = .ok (.fz (.int p)) [.fz (.scr S), .ow (lints ps), .fz (.int s), .fz X, .fz (.int k), .no, .no, .no, .no, .no, .no, .no, .no] := by
  simp [h]
theorem law02 (phi : String → List D → RC) (ns : List Int) {ps : List Int} (h3 : 3 ≤ ps.length) (hr : InR ps) (hD : phi "_law_draws_of" [.scr (ns.map .int)] = .ok true (lints ps) [])
    (hNth : ∀ k : Int, 0 ≤ k → k < 2 ^ 40 → ∃ p, 0 ≤ p ∧ p < 65536 ∧ phi "_law_nth" [lints ps, .int k] = .ok false (.int p) [])
    (hP : ∀ d s : Int, 0 ≤ d → 0 ≤ s → s < 65536 → ∃ x : Str, phi "_law_part_of" [.int d, .int s] = .ok false (.str x) [] ∧ x.length ≤ 100)
    (hT : ∀ d s : Int, 0 ≤ d → 0 ≤ s → s < 65536 → ∃ xs, phi "_law_things_of" [.int d, .int s] = .ok false (.tup (strL xs)) [] ∧ ThOK 8 xs)
    (hI : ∀ qs : List Part, (∀ p ∈ qs, Small p) → phi "_law_is_step" [stD qs] = .ok false (.bl (stepB qs)) []) (hV : ∀ qs : List Part, (∀ p ∈ qs, Small p) → phi "valid_step" [stD qs] = .ok false (.bl (stepB qs)) [])
    (hS : ∀ b, phi "_law_said" [.bl b, .bl b] = .ok false (.bl true) [])
    (hR : ∀ qs : List Part, (∀ p ∈ qs, Small p) → stepB qs = false → phi "_law_refused" [stD qs] = .ok false (.bl true) [])
    (hF : ∀ qs : List Part, (∀ p ∈ qs, Small p) → stepB qs = true → phi "format_step" [stD qs] = .ok false (.str (Str.join " " (flat qs))) [] ∧ phi "_law_text_of" [stD qs] = .ok false (.str (Str.join " " (flat qs))) []) :
    T_law.run phi [.scr (ns.map .int)] = .ok false (.bl true) [] := by
  rw [run_is rfl]
  show finish [.v] (b_law phi [.fz (.scr (ns.map .int)), .no, .no, .no, .no, .no, .no, .no, .no, .no, .no, .no, .no]) = _
  unfold b_law
  obtain ⟨p0, p00, p01, i0⟩ := lints_get hr (i := 0) (by decide) (by omega)
  obtain ⟨p1, p10, p11, i1⟩ := lints_get hr (i := 1) (by decide) (by omega)
  obtain ⟨p2, p20, p21, i2⟩ := lints_get hr (i := 2) (by decide) (by omega)
  generalize ns.map D.int = S at hD
  have s0 : 0 ≤ p0 / 8 := by omega
  have s1 : p0 / 8 < 65536 := by omega
  have w0 : 0 ≤ p0 % 8 := by omega
  have w1 : p0 % 8 < 8 := by omega
  obtain ⟨wd, hw, hwl⟩ := word_small (xs := [.str "begin", .str "read", .str "close", .str "quit", .str "open", .str "Close", .str "", .str "reads"]) (fun d hd => by
      simp only [List.mem_cons, List.not_mem_nil, or_false] at hd
      rcases hd with rfl | rfl | rfl | rfl | rfl | rfl | rfl | rfl <;> exact ⟨_, rfl, by decide⟩) w0 (by simp; omega)
  rw [sSeq_e]
  simp [hD, -sSeq_e]
  rw [sSeq_e]
  simp [i0, -sSeq_e]
  rw [sSeq_e]
  simp [i0, hw, -sSeq_e]
  generalize p0 / 8 = s at s0 s1 ⊢
  refine seq_for (ds := rng 0 (p1 % 4)) (e0 := [.fz (.scr S), .ow (lints ps), .fz (.int s), .fz (stD [.s wd]), .no, .no, .no, .no, .no, .no, .no, .no, .no]) (Q := fun r => finish [.v] r = .ok false (.bl true) []) ?_
    (fun i e => ∃ qs : List Part, e = [.fz (.scr S), .ow (lints ps), .fz (.int s), .fz (stD qs), .no, .no, .no, .no, .no, .no, .no, .no, .no] ∧ qs.length ≤ i + 1 ∧ ∀ p ∈ qs, Small p) ⟨_, rfl, by simp, fun p hp => by rw [List.mem_singleton.mp hp]; exact small_s hwl⟩ ?_ ?_
  · have c1 : -4611686018427387904 ≤ p1 % 4 := by omega
    have c2 : p1 % 4 < 4611686018427387904 := by omega
    simp [i1, c1, c2]
    rfl
  · rintro R _ _ _ i d e hd ⟨qs, rfl, hl, hq⟩
    obtain ⟨rfl, hi⟩ := rng0_get hd
    obtain ⟨p, q0, q1, hp⟩ := hNth (3 + i) (by omega) (by omega)
    refine ⟨_, rfl, ?_⟩
    refine step_loop phi (k := (i : Int)) (by omega) ?_ (hT p s q0 s0 s1) (hP p s q0 s0 s1) fun pt hpt => ⟨qs ++ [pt], rfl, by rw [List.length_append, List.length_singleton]; omega, fun x hx => (List.mem_append.mp hx).elim (hq x) fun z => by rw [List.mem_singleton.mp z]; exact hpt⟩
    exact nth_call phi hp
  · rintro e ⟨qs, rfl, hl, hq⟩
    rw [rng_len] at hl
    obtain ⟨nm, n1, n2⟩ := hP (p1 / 4) s (by omega) s0 s1
    obtain ⟨th, t1, t2⟩ := hP p2 s p20 s0 s1
    obtain ⟨p7, q0, q1, h7⟩ := hNth 7 (by decide) (by decide)
    obtain ⟨xs, x1, x2⟩ := hT p7 s q0 s0 s1
    rw [sSeq_e]
    simp [i1, n1, -sSeq_e]
    rw [sSeq_e]
    simp [i2, t1, -sSeq_e]
    rw [sSeq_e]
    simp [h7, x1, -sSeq_e]
    have ha := addT xs th (by have := x2.1; omega)
    have hst : ∃ Y, Y = stD qs := ⟨_, rfl⟩
    obtain ⟨Y, hY⟩ := hst
    rw [← hY]
    have hT0 : ∃ T, T = D.tup (strL xs) := ⟨_, rfl⟩
    obtain ⟨T, hT0⟩ := hT0
    have hT1 : ∃ T, T = D.tup (strL (xs ++ [th])) := ⟨_, rfl⟩
    obtain ⟨T1, hT1⟩ := hT1
    rw [← hT0, ← hT1] at ha
    rw [← hT0]
    rw [sSeq_e]
    simp [-sSeq_e, BIG]
    rw [sSeq_e]
    simp [-sSeq_e, BIG]
    rw [sSeq_e]
    simp [-sSeq_e, ha, BIG]
    rw [sSeq_e]
    simp [-sSeq_e, BIG]
    rw [sSeq_e]
    simp [-sSeq_e, BIG]
    rw [sSeq_e]
    simp [-sSeq_e, BIG]
    rw [sSeq_e]
    simp [-sSeq_e, BIG]
    rw [sSeq_e]
    simp [-sSeq_e, BIG]
    rw [sSeq_e]
    simp [-sSeq_e, BIG]
    generalize hLS : [D.tup [], Y, D.tup [D.str (Str.ofString "begin"), D.str nm], _, _, _, _, _, _, _, _, _, _, _, _, _, _, _] = LS
    have items : ∀ d ∈ LS, ∃ rs : List Part, d = stD rs ∧ ∀ p ∈ rs, Small p := by
      have sn := small_s n2
      have st := small_s t2
      have sx := small_t x2 (by omega)
      have sx1 := small_t (x2.app t2) (by omega)
      have se : Small (.t []) := ⟨by simp, by simp⟩
      have cb : Small (.s "begin") := small_s (by decide)
      have cq : Small (.s "quit") := small_s (by decide)
      have cr : Small (.s "read") := small_s (by decide)
      have cc : Small (.s "close") := small_s (by decide)
      intro d hd
      rw [← hLS] at hd
      simp only [List.mem_cons, List.not_mem_nil, or_false] at hd
      subst hY hT0 hT1
      rcases hd with rfl | rfl | rfl | rfl | rfl | rfl | rfl | rfl | rfl | rfl | rfl | rfl | rfl | rfl | rfl | rfl | rfl | rfl
      · exact ⟨[], rfl, by simp⟩
      · exact ⟨qs, rfl, hq⟩
      · exact ⟨[.s "begin", .s nm], rfl, by simp [sn, cb]⟩
      · exact ⟨[.s "quit", .s nm], rfl, by simp [sn, cq]⟩
      · exact ⟨[.s "read", .s nm, .s th], rfl, by simp [sn, st, cr]⟩
      · exact ⟨[.s "close", .s nm, .t xs], rfl, by simp [sn, sx, cc]⟩
      · exact ⟨[.s "close", .s nm, .t (xs ++ [th])], rfl, by simp [sn, sx1, cc]⟩
      · exact ⟨[.s "close", .s nm, .t []], rfl, by simp [sn, se, cc]⟩
      · exact ⟨[.s "close", .s nm, .s th], rfl, by simp [sn, st, cc]⟩
      · exact ⟨[.s "read", .s nm, .t xs], rfl, by simp [sn, sx, cr]⟩
      · exact ⟨[.s "read", .s nm], rfl, by simp [sn, cr]⟩
      · exact ⟨[.s "quit"], rfl, by simp [cq]⟩
      · exact ⟨[.s "begin", .s nm, .s th], rfl, by simp [sn, st, cb]⟩
      · exact ⟨[.s "begin", .t xs], rfl, by simp [sx, cb]⟩
      · exact ⟨[.t xs, .s nm], rfl, by simp [sn, sx]⟩
      · exact ⟨[.s "close", .s nm], rfl, by simp [sn, cc]⟩
      · exact ⟨[.s "read", .s nm, .s th, .s th], rfl, by simp [sn, st, cr]⟩
      · exact ⟨[.s "close", .s nm, .t xs, .t xs], rfl, by simp [sn, sx, cc]⟩
    refine seq_for (ds := LS) (e0 := [.fz (.scr S), .ow (lints ps), .fz (.int s), .fz Y, .no, .no, .fz (.str nm), .fz (.str th), .fz T, .fz (.lst LS), .no, .no, .no]) (Q := fun r => finish [.v] r = .ok false (.bl true) []) (by simp)
      (fun i e => e = [.fz (.scr S), .ow (lints ps), .fz (.int s), .fz Y, .no, .no, .fz (.str nm), .fz (.str th), .fz T, .fz (.lst LS), .no, .no, .no]) rfl ?_ ?_
    · rintro R _ _ _ i d e hd rfl
      obtain ⟨rs, rfl, hrs⟩ := items d (List.mem_of_getElem? hd)
      refine ⟨_, rfl, ?_⟩
      exact turn_run phi (hI rs hrs) (hV rs hrs) hS (hR rs hrs) (hF rs hrs) rfl
    · rintro e rfl
      simp

end S3
namespace S3
open PySem
theorem sol (ns : List Int) (hn : ns.length ≤ 63) : sem tab 40 "law" [.scr (ns.map .int)] = .ok false (.bl true) [] := by
  have st : ∀ (k : Nat) (g : String) (T : Def), tab g = some T → sem tab (k + 1) g = T.run (sem tab k) := fun k g T h => by funext ds; simp only [sem, h]
  obtain ⟨ps, h3, h4, hr, hd⟩ := draws_run (sem tab 38) ns hn
  have named : ∀ n (k s : Int), 0 ≤ k → k < 30 → 0 ≤ s → s < 65536 → sem tab (n + 1) "_law_named" [.int k, .int s] = .ok false (.str (nmS k s)) [] := fun n k s a b c d => by
    rw [st n _ T__law_named rfl]; exact named_run _ a b c d
  have part : ∀ n (d s : Int), 0 ≤ d → 0 ≤ s → s < 65536 → ∃ x : Str, sem tab (n + 2) "_law_part_of" [.int d, .int s] = .ok false (.str x) [] ∧ x.length ≤ 100 := fun n d s a b c => by
    rw [st (n + 1) _ T__law_part_of rfl]; exact part_run _ a b fun k k0 k1 => named n k s k0 k1 b c
  have vname : ∀ n (x : Str), x.length ≤ 1000 → sem tab (n + 1) "valid_name" [.str x] = .ok false (.bl (vn x)) [] := fun n x h => by
    rw [st n _ T_valid_name rfl]; exact valid_name_run _ x h
  have isn : ∀ n (p : Part), Small p → sem tab (n + 2) "_is_name" [pD p] = .ok false (.bl (nmP p)) [] := fun n p h => by
    rw [st (n + 1) _ T__is_name rfl]; exact isname_run _ (fun x hx => vname n x hx) h
  have ths : ∀ n (p : Part), Small p → sem tab (n + 3) "_are_things" [pD p] = .ok false (.bl (thP p)) [] := fun n p h => by
    rw [st (n + 2) _ T__are_things rfl]; exact things_run _ (fun q hq => isn n q hq) h
  have vst : ∀ n (qs : List Part), (∀ p ∈ qs, Small p) → sem tab (n + 4) "valid_step" [stD qs] = .ok false (.bl (stepB qs)) [] := fun n qs h => by
    rw [st (n + 3) _ T_valid_step rfl]; exact valid_run _ (fun p hp => isn (n + 1) p hp) (fun p hp => ths n p hp) h
  have fmt : ∀ n (qs : List Part), (∀ p ∈ qs, Small p) → sem tab (n + 5) "format_step" [stD qs] = if stepB qs = true then .ok false (.str (Str.join " " (flat qs))) [] else .ex ⟨"InvalidStep", [("step", stD qs)]⟩ [] := fun n qs h => by
    rw [st (n + 4) _ T_format_step rfl]; exact format_run _ h (vst n qs h)
  rw [st 39 _ T_law rfl]
  refine law02 _ ns h3 hr ?_ (fun k a b => ?_) (fun d s a b c => part 37 d s a b c) (fun d s a b c => ?_) (fun qs h => ?_) (fun qs h => vst 35 qs h) (fun b => ?_) (fun qs h c => ?_) (fun qs h c => ⟨?_, ?_⟩)
  · rw [st 38 _ T__law_draws_of rfl]; exact hd
  · rw [st 38 _ T__law_nth rfl]; exact nth_run _ hr h3 a b
  · rw [st 38 _ T__law_things_of rfl]; exact thingsof_run _ a b (fun k k0 k1 => named 37 k s k0 k1 b c) fun d h0 => part 36 d s h0 b c
  · rw [st 38 _ T__law_is_step rfl]; exact lawstep_run _ (fun p hp => by rw [st 37 _ T__law_is_name rfl]; exact lawname_run _ hp) h
  · rw [st 38 _ T__law_said rfl]; exact said_run _ b
  · rw [st 38 _ T__law_refused rfl]
    refine refused_run _ ?_
    have := fmt 33 qs h
    rw [c, if_neg (by decide)] at this
    exact this
  · have := fmt 34 qs h
    rw [if_pos c] at this
    exact this
  · rw [st 38 _ T__law_text_of rfl]; exact textof_run _ h c

end S3
open PySem PySem.W PyProof.Rows
set_option maxRecDepth 100000 in
set_option maxHeartbeats 0 in
theorem PySem.Challenge.cw_letforget_k02_steps_and_written_forms_holds : PySem.Challenge.rw_letforget_k02_steps_and_written_forms.Holds := by
  w_on; o_law; k_head; (case hw => w_witness2)
  k_fill
  refine S3.lawWalk S3.sol (l := PySem.Challenge.rw_letforget_k02_steps_and_written_forms) rfl rfl (fun w h Y => PySem.W.kIn_of Y) ?F
  case F =>
    intro w mg fa h KX G hmg
    refine' S3.all_mk KX G hmg S3.sol ?z_len ?z_all ?z_isinstance ?z_str ?z_tuple ?z_set ?z_super ?z_int ?z_abs ?z_range ?c_LONGEST ?c_LETTERS ?c_DIGITS ?a0 ?l0 ?d0 ?k0 ?a1 ?l1 ?d1 ?k1 ?a2 ?l2 ?d2 ?k2 ?a3 ?l3 ?d3 ?k3 ?a4 ?l4 ?d4 ?k4 ?a5 ?l5 ?d5 ?k5 ?a6 ?l6 ?d6 ?k6 ?a7 ?l7 ?d7 ?k7 ?a8 ?l8 ?d8 ?k8 ?a9 ?l9 ?d9 ?k9 ?a10 ?l10 ?d10 ?k10 ?a11 ?l11 ?d11 ?k11 ?a12 ?l12 ?d12 ?k12 ?a13 ?l13 ?d13 ?k13 ?a14 ?l14 ?d14 ?k14 ?a15 ?l15 ?d15 ?k15 ?na_InvalidStep ?na_InvalidLine ?na_NotRunning ?na_KeeperError ?xo ?xtop ?xhn ?xht ?xL_InvalidStep ?xbm_InvalidStep ?xsa_InvalidStep ?xbe_InvalidStep ?xty_InvalidStep ?xke_InvalidStep ?xno_InvalidStep_step ?xin_InvalidStep ?xfn_InvalidStep ?xti_InvalidStep ?xsu_InvalidStep ?xve_InvalidStep ?xmc_InvalidStep ?xcd_InvalidStep ?xco_InvalidStep ?xvs_InvalidStep ?xfi_InvalidStep ?xce_InvalidStep ?xga_InvalidStep ?xgt_InvalidStep ?xha_InvalidStep ?xhm_InvalidStep ?xhd_InvalidStep ?ki_InvalidStep_InvalidLine ?ki_InvalidStep_NotRunning ?ki_InvalidStep_KeeperError ?zn_ValueError ?kb_InvalidStep_ValueError ?eb_InvalidStep ?eh_InvalidStep ?et_InvalidStep ?es_InvalidStep_InvalidStep
    (case z_len => k_is)
    (case z_all => k_is)
    (case z_isinstance => k_is)
    (case z_str => k_is)
    (case z_tuple => k_is)
    (case z_set => k_is)
    (case z_super => k_is)
    (case z_int => k_is)
    (case z_abs => k_is)
    (case z_range => k_is)
    (case c_LONGEST => k_is)
    (case c_LETTERS => k_is)
    (case c_DIGITS => k_is)
    (case a0 => k_is)
    (case l0 => k_is)
    (case d0 => k_is)
    (case k0 => k_is)
    (case a1 => k_is)
    (case l1 => k_is)
    (case d1 => k_is)
    (case k1 => k_is)
    (case a2 => k_is)
    (case l2 => k_is)
    (case d2 => k_is)
    (case k2 => k_is)
    (case a3 => k_is)
    (case l3 => k_is)
    (case d3 => k_is)
    (case k3 => k_is)
    (case a4 => k_is)
    (case l4 => k_is)
    (case d4 => k_is)
    (case k4 => k_is)
    (case a5 => k_is)
    (case l5 => k_is)
    (case d5 => k_is)
    (case k5 => k_is)
    (case a6 => k_is)
    (case l6 => k_is)
    (case d6 => k_is)
    (case k6 => k_is)
    (case a7 => k_is)
    (case l7 => k_is)
    (case d7 => k_is)
    (case k7 => k_is)
    (case a8 => k_is)
    (case l8 => k_is)
    (case d8 => k_is)
    (case k8 => k_is)
    (case a9 => k_is)
    (case l9 => k_is)
    (case d9 => k_is)
    (case k9 => k_is)
    (case a10 => k_is)
    (case l10 => k_is)
    (case d10 => k_is)
    (case k10 => k_is)
    (case a11 => k_is)
    (case l11 => k_is)
    (case d11 => k_is)
    (case k11 => k_is)
    (case a12 => k_is)
    (case l12 => k_is)
    (case d12 => k_is)
    (case k12 => k_is)
    (case a13 => k_is)
    (case l13 => k_is)
    (case d13 => k_is)
    (case k13 => k_is)
    (case a14 => k_is)
    (case l14 => k_is)
    (case d14 => k_is)
    (case k14 => k_is)
    (case a15 => k_is)
    (case l15 => k_is)
    (case d15 => k_is)
    (case k15 => k_is)
    (case na_InvalidStep => k_is)
    (case na_InvalidLine => k_is)
    (case na_NotRunning => k_is)
    (case na_KeeperError => k_is)
    (case xo => k_is)
    (case xtop => first | rfl | k_is)
    (case xhn => k_is)
    (case xht => k_is)
    (case xL_InvalidStep => k_is)
    (case xbm_InvalidStep => decide +kernel)
    (case xsa_InvalidStep => k_is)
    (case xbe_InvalidStep => k_is)
    (case xty_InvalidStep => k_is)
    (case xke_InvalidStep => k_is)
    (case xno_InvalidStep_step => k_is)
    (case xin_InvalidStep => k_is)
    (case xfn_InvalidStep => k_is)
    (case xti_InvalidStep => k_is)
    (case xsu_InvalidStep => ks_is)
    (case xve_InvalidStep => k_is)
    (case xmc_InvalidStep => k_is)
    (case xcd_InvalidStep => k_is)
    (case xco_InvalidStep => k_is)
    (case xvs_InvalidStep => first | rfl | k_is)
    (case xfi_InvalidStep => first | rfl | k_is)
    (case xce_InvalidStep => k_is)
    (case xga_InvalidStep => k_is)
    (case xgt_InvalidStep => k_is)
    (case xha_InvalidStep => k_is)
    (case xhm_InvalidStep => k_is)
    (case xhd_InvalidStep => k_is)
    (case ki_InvalidStep_InvalidLine => first | k_is | kernel_rfl | rfl)
    (case ki_InvalidStep_NotRunning => first | k_is | kernel_rfl | rfl)
    (case ki_InvalidStep_KeeperError => first | k_is | kernel_rfl | rfl)
    (case zn_ValueError => k_is)
    (case kb_InvalidStep_ValueError => first | k_is | kernel_rfl | rfl)
    (case eb_InvalidStep => k_is)
    (case eh_InvalidStep => k_is)
    (case et_InvalidStep => k_is)
    (case es_InvalidStep_InvalidStep => k_is)
